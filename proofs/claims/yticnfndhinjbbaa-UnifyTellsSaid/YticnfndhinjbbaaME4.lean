/-
  Part 4 of the proof: W12, W84, W106, W109, W107, W99, W98, W85, W74, W75, W53, W69, W48, W72, W81, W70, W71, W49, W50, W61, W78, W73, W60, W24, W51, W76, W77, W56, W15.
-/
import Derived.Shelf.Slices.In.SortNone
import Derived.Shelf.Sort.Plain
import Derived.Test.YticnfndhinjbbaaME3
set_option linter.unusedVariables false
set_option linter.unusedSimpArgs false
/-
  MADE BY PROGRAM (am.py): the walks of functions 12.
-/
namespace Go.Am.Seat
open Go.Proofs

theorem lenOwn {ob : Nat → Obj} {id n : Nat} : aLen T ob 22 (.av (.own id 0 n 3)) = some (vI n) := by simp [aLen, T22, y22, vI]
theorem andI_low (x : Int) (k : Nat) (hk : k ≤ 7) : 0 ≤ andI x k ∧ andI x k ≤ k := by
  have h1 : (BitVec.ofInt IntKind.i64.bits x &&& BitVec.ofInt IntKind.i64.bits (k : Int)).toNat ≤ k := by
    rw [BitVec.toNat_and]
    have : (BitVec.ofInt IntKind.i64.bits (k : Int)).toNat = k := by
      rw [BitVec.ofInt_natCast, BitVec.toNat_ofNat]
      exact Nat.mod_eq_of_lt (Nat.lt_of_le_of_lt hk (by decide))
    rw [this]
    exact Nat.and_le_right
  unfold andI
  rw [wrap_small _ (by omega) (by omega)]
  omega
theorem andI_low3 (x : Int) : 0 ≤ andI x 3 ∧ andI x 3 ≤ 3 := andI_low x 3 (by decide)
theorem andI_low7 (x : Int) : 0 ≤ andI x 7 ∧ andI x 7 ≤ 7 := andI_low x 7 (by decide)
theorem nameR_ok (x : ByteArray) : nameOk (nameR x) = true := by
  unfold nameR
  split
  · decide
  · split <;> decide
/-- The name a. -/
def nmA : ByteArray := ⟨#[97]⟩
theorem okA : cellOk ⟨3, nmA, 0⟩ = true := by decide
theorem okV (x : Int) : cellOk ⟨1, noName, andI x 7⟩ = true := by
  have := andI_low7 x
  simp only [cellOk, if_pos, Bool.and_eq_true, decide_eq_true_eq, beq_self_eq_true, true_and]
  omega
theorem okI (x : Int) : cellOk ⟨2, noName, andI x 3⟩ = true := by
  have := andI_low3 x
  simp only [cellOk]
  rw [if_neg (by decide), if_pos trivial]
  simp only [Bool.and_eq_true, decide_eq_true_eq, beq_self_eq_true, true_and]
  omega
theorem okF (x : Int) (y : ByteArray) : cellOk ⟨3, nameR y, andI x 3⟩ = true := by
  have := andI_low3 x
  simp only [cellOk]
  rw [if_neg (by decide), if_neg (by decide), if_pos trivial]
  simp only [Bool.and_eq_true, decide_eq_true_eq, nameR_ok, true_and]
  omega
def kindIs (t : List Cell) (i : Nat) (k : Int) : Bool := match t[i]? with
  | some c => andI c.kind 3 == k
  | none => false
def fitsIn (t : List Cell) (i : Nat) (h most : Int) : Bool := match t[i]? with
  | some c => decide (h + andI c.n 3 ≤ most)
  | none => false
theorem kindIs_lt {t : List Cell} {i : Nat} {k : Int} (h : kindIs t i k = true) : i < t.length := by
  rcases Nat.lt_or_ge i t.length with h1 | h1
  · exact h1
  · rw [kindIs, List.getElem?_eq_none h1] at h; cases h
theorem fitsIn_lt {t : List Cell} {i : Nat} {k m : Int} (h : fitsIn t i k m = true) : i < t.length := by
  rcases Nat.lt_or_ge i t.length with h1 | h1
  · exact h1
  · rw [fitsIn, List.getElem?_eq_none h1] at h; cases h
/-- Cells of which so many terms more must follow. -/
structure Part (out : List Cell) (nd : Int) : Prop where
  done : nd = 0 → endG out 1 0 = out.length
  more : 0 < nd → ∀ l, endG (out ++ l) 1 0 = endG l nd out.length
theorem Part.zero : Part [] 1 := ⟨fun h => absurd h (by decide), fun _ l => rfl⟩
theorem Part.add {out : List Cell} {nd : Int} {c : Cell} (h : Part out nd) (h0 : 0 < nd) (hc : cellOk c = true) {nd' : Int} (hn : nd' = if c.kind = 3 then nd - 1 + c.n else nd - 1) : Part (out ++ [c]) nd' := by
  constructor
  · intro h1
    rw [h.more h0 [c], endG, if_pos hc, if_pos (hn ▸ h1)]
    simp
  · intro h1 l
    rw [List.append_assoc, h.more h0, List.singleton_append, endG, if_pos hc, if_neg (by omega), ← hn, List.length_append]
    rfl
theorem gsl_c12 {x : Sc} {l : List Cell} (h : GSl encC x l) (hr : rightOk l = true) : x = .sl l.length (l.flatMap encC) := by
  rcases h with ⟨_, h⟩ | h
  · rw [h] at hr; simp [rightOk] at hr
  · exact h
/-- The cell that Made lays at a place. -/
def mdC (t : List Cell) (i : Nat) (h most : Int) : Cell :=
  if kindIs t i 1 = true then ⟨1, noName, andI ((t[i]?).getD ⟨0, noName, 0⟩).n 7⟩ else if kindIs t i 2 = true then ⟨2, noName, andI ((t[i]?).getD ⟨0, noName, 0⟩).n 3⟩
  else if fitsIn t i h most = true then ⟨3, nameR ((t[i]?).getD ⟨0, noName, 0⟩).name, andI ((t[i]?).getD ⟨0, noName, 0⟩).n 3⟩ else ⟨3, nmA, 0⟩
def mdG (t : List Cell) (most : Int) : Nat → Nat → Int → List Cell → List Cell
  | 0, _, _, out => out
  | f + 1, i, nd, out => if 0 < nd then mdG t most f (i + 1) (if (mdC t i ((out.length : Int) + nd) most).kind = 3 then nd - 1 + (mdC t i ((out.length : Int) + nd) most).n else nd - 1) (out ++ [mdC t i ((out.length : Int) + nd) most]) else out
/-- What Made makes. -/
def madeG (t : List Cell) (most : Int) : List Cell := if (rightOk t && decide ((t.length : Int) ≤ most)) = true then t else mdG t most 201 0 1 []
structure MD (s : Me) (io c8 : Nat) (out : List Cell) (c : Cell) (s1 : Me) : Prop where
  kp : Kp s s1
  o : s1.ob io = .cs (celC out) 0
  c : s1.ob c8 = .cs [.sc (.int .i64 c.kind), .sc (.str c.name), .sc (.int .i64 c.n)] 0
  lo : s.nx ≤ io ∧ io < c8 ∧ c8 < s1.nx
theorem MD.up {s s1 : Me} {io c8 : Nat} {out : List Cell} {c : Cell} (h : MD s io c8 out c s1) {m : Nat} (hm : s1.nx ≤ m) : MD s io c8 out c ⟨s1.ob, m, s1.ls⟩ :=
  ⟨⟨Nat.le_trans h.kp.1 hm, h.kp.2.1, h.kp.2.2⟩, h.o, h.c, by have := h.lo; dsimp only; omega⟩
theorem MD.set {s s1 : Me} {io c8 : Nat} {out : List Cell} {c : Cell} (h : MD s io c8 out c s1) {m : Nat} (hm : s1.nx ≤ m) (d : Cell) : MD s io c8 out d ⟨upd s1.ob c8 (.cs [.sc (.int .i64 d.kind), .sc (.str d.name), .sc (.int .i64 d.n)] 0), m, s1.ls⟩ := by
  have := h.lo
  exact ⟨⟨Nat.le_trans h.kp.1 hm, fun j hj => (upd_ne _ _ (by omega)).trans (h.kp.2.1 j hj), h.kp.2.2⟩, (upd_ne _ _ (by omega)).trans h.o, upd_same _ _ _, by dsimp only; omega⟩

-- many steps
theorem bod12 : Try.f12.body = some (Try.f12.body.getD .skip) := rfl
set_option maxHeartbeats 2000000 in
theorem fn12g (L : Loops) (t : List Cell) (most : Nat) (s : Me) (x : Sc) (hx : GSl encC x t) (hl : t.length ≤ 281474976710656) (hn : ∀ c ∈ t, c.name.size ≤ 1152921504606846976) (hm : 1 ≤ most ∧ most ≤ 200) : FnL Try.prog L 12 [.av (.sc x), vI most] s fun r s' => (r = vC (madeG t most) ∧ rightOk (madeG t most) = true ∧ (madeG t most).length ≤ most) ∧ s' = s := by
  refine FnL.pure (R := fun r => r = vC (madeG t most) ∧ rightOk (madeG t most) = true ∧ (madeG t most).length ≤ most) ?_
  refine fn_of_body (ts := [4]) Try.func12 bod12 rfl (by simp) (by simp [Try.ntmps12]) fun D0 => ?_
  unfold Try.f12
  simp only [Option.getD_some, initSl]
  refine aw_region_seq C (pb := false) rfl fun K hK => ?_
  repeat' (first | refine wy0 (h := ?_) | fail)
  refine awOps_nil (hK _ _ ?_)
  clear hK K
  refine aw_seq ?_
  refine aw_cut_seq C (pb := false) [(0, .av (.sc x)), (1, vI most), (16, vB (rightOk t && decide ((t.length : Int) ≤ most)))] rfl ?_ fun n1 hn1 => ?_
  · cases hA0 : (rightOk t : Bool)
    all_goals (repeat' (first | refine wy1 (a := by simp only [go_sem, ↓reduceIte, Nat.reduceEqDiff, reduceCtorEq, Nat.reduceAdd, Nat.reduceMul, Nat.reduceLeDiff, aLoad, aStore, lenC hx, hA0]; exact rfl) (h := ?_) | fail))
    all_goals ((refine wc (And.intro Try.call32 (fn32 L t _ x hx hl hn)) ?_; rintro _ _ ⟨rfl, rfl⟩))
    all_goals (repeat' (first | refine wy1 (a := by simp only [go_sem, ↓reduceIte, Nat.reduceEqDiff, reduceCtorEq, Nat.reduceAdd, Nat.reduceMul, Nat.reduceLeDiff, aLoad, aStore, lenC hx, hA0]; exact rfl) (h := ?_) | refine wn (h := ?_) | fail))
    all_goals (exact awOps_nil ⟨⟨rfl, rfl, by first | rfl | (rw [hA0]; rfl) | simp [hA0, get], trivial⟩, rfl, (by first | omega | (dsimp only; omega)), rfl⟩)
  refine aw_cond (by rfl) ?_ ?_
  · intro hc0
    obtain ⟨hr0, hl0⟩ := Bool.and_eq_true_iff.1 (show (rightOk t && decide ((t.length : Int) ≤ most)) = true from hc0)
    have hmg : madeG t most = t := by rw [madeG, if_pos hc0]
    refine aw_region_seq C (pb := false) rfl fun K hK => ?_
    repeat' (first | refine wy0 (h := ?_) | fail)
    refine awOps_nil (hK _ _ ?_)
    clear hK K
    refine aw_ret ?_
    try simp only [thenA_normal, thenA_ret, thenA_exit, blockA_normal, blockA_ret, blockA_exit]
    simp only [go_sem, ↓reduceIte, Nat.reduceEqDiff, reduceCtorEq, Nat.reduceAdd, Nat.reduceMul, Nat.reduceLeDiff, aLoad, aStore, FnQ, resA]
    -- 0t.ret
    exact fun _ => ⟨by first | rfl | trivial, by first | exact fun _ _ => rfl | trivial, by first | rfl | trivial, by rw [hmg, gsl_c12 hx hr0], by rw [hmg]; exact hr0, by rw [hmg]; have := of_decide_eq_true hl0; omega⟩
  · intro hc0
    refine aw_skip ?_
    simp only [thenA_normal, thenA_ret, thenA_exit, blockA_normal, blockA_ret, blockA_exit, ↓reduceIte, Nat.reduceEqDiff]
    refine aw_region_seq C (pb := false) rfl fun K hK => ?_
    repeat' (first | refine wy0 (h := ?_) | fail)
    refine awOps_nil (hK _ _ ?_)
    clear hK K
    refine aw_seq ?_
    refine aw_region_seq C (pb := false) rfl fun K hK => ?_
    repeat' (first | refine wy0 (h := ?_) | fail)
    refine awOps_nil (hK _ _ ?_)
    refine AW.less (sl' := [(0, .av (.sc x)), (1, vI most), (5, .av (.own n1 0 0 3)), (6, vI 1), (7, vI 0)]) (AllIn.less ⟨rfl, rfl, rfl, rfl, rfl, trivial⟩) ?_
    clear hK K
    refine aw_block ?_
    refine AW.less (sl' := [(0, .av (.sc x)), (1, vI most), (5, .av (.own (n1) 0 ([]).length 3)), (6, vI (1)), (7, vI (0))]) (AllIn.less ⟨rfl, rfl, rfl, rfl, rfl, trivial⟩) (aw_loop (fun k sl1 s1 => ∃ (i : Nat) (nd : Int) (io : Nat) (out : List Cell), k = most - out.length ∧ sl1 = [(0, .av (.sc x)), (1, vI most), (5, .av (.own (io) 0 (out).length 3)), (6, vI (nd)), (7, vI (i))] ∧ (Kp s s1 ∧ s.nx ≤ io ∧ io < s1.nx ∧ s1.ob io = .cs (celC out) 0) ∧ (out.length = i ∧ 0 ≤ nd ∧ (i : Int) + nd ≤ most) ∧ (Part out nd) ∧ (mdG t most (201 - i) i nd out = mdG t most 201 0 1 [])) (k := most - ([]).length) ⟨0, 1, n1, [], rfl, rfl, ⟨⟨(by first | omega | (dsimp only; omega) | (dsimp only at *; omega)), fun j hj => upd_ne _ _ (by omega), rfl⟩, by omega, (by first | omega | (dsimp only; omega) | (dsimp only at *; omega)), upd_same _ _ _⟩, ⟨rfl, (by first | omega | (dsimp only; omega) | (dsimp only at *; omega)), (by first | omega | (dsimp only; omega) | (dsimp only at *; omega))⟩, Part.zero, rfl⟩ ?_)
    rintro k1 _ s1 ⟨i, nd, io, out, hk1, rfl, hs1, hb, hp, h4⟩
    refine aw_seq ?_
    refine aw_region_seq C (pb := false) rfl fun K hK => ?_
    repeat' (first | refine wy0 (h := ?_) | fail)
    refine awOps_nil (hK _ _ ?_)
    clear hK K
    refine aw_cond (by rfl) ?_ ?_
    · intro hc1
      try simp only [decide_eq_true_eq, decide_eq_false_iff_not] at hc1
      have h8 := hs1.1.1
      have h9 := hs1.2.2.1
      have h0 : 0 < nd := by omega
      refine aw_skip ?_
      simp only [thenA_normal, thenA_ret, thenA_exit, blockA_normal, blockA_ret, blockA_exit, ↓reduceIte, Nat.reduceEqDiff]
      refine aw_seq ?_
      refine aw_block ?_
      refine aw_region_seq C (pb := false) rfl fun K hK => ?_
      repeat' (first | refine wy0 (h := ?_) | refine wz0 (h := ?_) | fail)
      refine awOps_nil (hK _ _ ?_)
      refine AW.less (sl' := [(0, .av (.sc x)), (1, vI most), (5, .av (.own io 0 out.length 3)), (6, vI nd), (7, vI i), (8, .av (.ptr (s1.nx + 3) 0))]) (AllIn.less ⟨rfl, rfl, rfl, rfl, rfl, rfl, trivial⟩) ?_
      refine aw_state (J := fun s7 => MD s io (s1.nx + 3) out ⟨3, nmA, 0⟩ s7) ⟨⟨(by first | omega | (dsimp only; omega) | (dsimp only at *; omega)), fun j hj => (upd_ne _ _ (by omega)).trans ((upd_ne _ _ (by omega)).trans (hs1.1.2.1 j hj)), hs1.1.2.2⟩, (upd_ne _ _ (by omega)).trans ((upd_ne _ _ (by omega)).trans hs1.2.2.2), upd_same _ _ _, (by first | omega | (dsimp only; omega) | (dsimp only at *; omega))⟩ fun s7 hM7 => ?_
      obtain ⟨c8, hc8⟩ : ∃ c, c = s1.nx + 3 := ⟨_, rfl⟩
      rw [← hc8] at hM7 ⊢
      clear hK K
      refine aw_seq ?_
      refine aw_cut_seq C (pb := false) [(0, .av (.sc x)), (1, vI most), (5, .av (.own io 0 out.length 3)), (6, vI nd), (7, vI i), (8, .av (.ptr c8 0)), (36, vB (kindIs t i 1))] rfl ?_ fun n8 hn8 => ?_
      · by_cases hi2 : i < t.length
        · have hlt : decide ((i : Int) < (t.length : Int)) = true := decide_eq_true (by omega)
          have hg : t[i]? = some t[i] := List.getElem?_eq_getElem hi2
          have hA3 : IntKind.i64.wrap (BitVec.ofInt 64 t[i].n &&& BitVec.ofInt 64 3).toNat = andI t[i].n 3 := rfl
          have hk : kindIs t i 1 = (andI t[i].kind 3 == 1) := by rw [kindIs, hg]
          repeat' (first | refine wy2 (by simp only [go_sem, ↓reduceIte, Nat.reduceEqDiff, reduceCtorEq, Nat.reduceAdd, Nat.reduceMul, Nat.reduceLeDiff, aLoad, aStore, lenC hx, hlt, idxC hx hi2]; exact rfl) ?_ | refine awOps_no (by rfl) (by rfl) ?_ | fail)
          exact awOps_nil ⟨⟨rfl, rfl, rfl, rfl, rfl, rfl, congrArg vB hk.symm, trivial⟩, rfl, (by first | omega | (dsimp only; omega) | (dsimp only at *; omega)), rfl⟩
        · have hlt : decide ((i : Int) < (t.length : Int)) = false := decide_eq_false (by omega)
          have hg : t[i]? = none := List.getElem?_eq_none (by omega)
          have hk : kindIs t i 1 = false := by rw [kindIs, hg]
          repeat' (first | refine wy2 (by simp only [go_sem, ↓reduceIte, Nat.reduceEqDiff, reduceCtorEq, Nat.reduceAdd, Nat.reduceMul, Nat.reduceLeDiff, aLoad, aStore, lenC hx, hlt]; exact rfl) ?_ | refine awOps_no (by rfl) (by rfl) ?_ | fail)
          exact awOps_nil ⟨⟨rfl, rfl, rfl, rfl, rfl, rfl, congrArg vB hk.symm, trivial⟩, rfl, (by first | omega | (dsimp only; omega) | (dsimp only at *; omega)), rfl⟩
      refine aw_cond (by rfl) ?_ ?_
      · intro hc2
        have hi2 := kindIs_lt hc2
        refine aw_region C (pb := false) rfl ?_
        repeat' (first | refine wy1 (a := by simp only [go_sem, ↓reduceIte, Nat.reduceEqDiff, reduceCtorEq, Nat.reduceAdd, Nat.reduceMul, Nat.reduceLeDiff, aLoad, aStore, idxC hx hi2, storeL, hM7.c, zeroA, y42]; exact rfl) (h := ?_) | refine wz1 (a := by simp only [go_sem, ↓reduceIte, Nat.reduceEqDiff, reduceCtorEq, Nat.reduceAdd, Nat.reduceMul, Nat.reduceLeDiff, aLoad, aStore, idxC hx hi2, storeL, hM7.c, zeroA, y42]; exact rfl) (h := ?_) | fail)
        refine awOps_nil ?_
        refine aw_state (J := fun s9 => MD s io c8 out ⟨1, noName, andI t[i].n 7⟩ s9) ((hM7.up (m := n8) (by omega)).set (by first | omega | (dsimp only; omega) | (dsimp only at *; omega)) _) fun s9 hM => ?_
        obtain ⟨c, hc⟩ : ∃ c : Cell, c = ⟨1, noName, andI t[i].n 7⟩ := ⟨_, rfl⟩
        have hok : cellOk c = true := by rw [hc]; exact okV _
        have hcn : c.kind = 3 → 0 ≤ c.n ∧ i + nd + c.n ≤ most := by
          rw [hc]
          intro hk
          simp at hk
        rw [← hc] at hM
        have hcd : mdC t i ((out.length : Int) + nd) most = c := by rw [hc]; exact (by rw [mdC, if_pos hc2, List.getElem?_eq_getElem hi2, Option.getD_some])
        clear hc
        try simp only [thenA_normal, thenA_ret, thenA_exit, blockA_normal, blockA_ret, blockA_exit]
        refine aw_region_seq C (pb := false) rfl fun K hK => ?_
        repeat' (first | refine wy1 (a := by simp only [go_sem, ↓reduceIte, Nat.reduceEqDiff, reduceCtorEq, Nat.reduceAdd, Nat.reduceMul, Nat.reduceLeDiff, aLoad, aStore, wrap_small (nd - 1) (by omega) (by omega)]; exact rfl) (h := ?_) | fail)
        refine awOps_nil (hK _ _ ?_)
        clear hK K
        refine aw_seq ?_
        refine aw_region_seq C (pb := false) rfl fun K hK => ?_
        repeat' (first | refine wy1 (a := by simp only [go_sem, ↓reduceIte, Nat.reduceEqDiff, reduceCtorEq, Nat.reduceAdd, Nat.reduceMul, Nat.reduceLeDiff, aLoad, aStore, hM.c]; exact rfl) (h := ?_) | fail)
        refine awOps_nil (hK _ _ ?_)
        clear hK K
        refine aw_cond (by rfl) ?_ ?_
        · intro hc3
          try simp only [beq_iff_eq, beq_eq_false_iff_ne, ne_eq] at hc3
          have hck := hc3
          refine aw_region C (pb := false) rfl ?_
          repeat' (first | refine wy1 (a := by simp only [go_sem, ↓reduceIte, Nat.reduceEqDiff, reduceCtorEq, Nat.reduceAdd, Nat.reduceMul, Nat.reduceLeDiff, aLoad, aStore, hM.c, wrap_small (nd - 1 + c.n) (by have := hcn hck; omega) (by have := hcn hck; omega)]; exact rfl) (h := ?_) | fail)
          refine awOps_nil ?_
          try simp only [thenA_normal, thenA_ret, thenA_exit, blockA_normal, blockA_ret, blockA_exit]
          refine aw_region C (pb := false) rfl ?_
          repeat' (first | refine wy1 (a := by simp only [go_sem, ↓reduceIte, Nat.reduceEqDiff, reduceCtorEq, Nat.reduceAdd, Nat.reduceMul, Nat.reduceLeDiff, aLoad, aStore, hM.c]; exact rfl) (h := ?_) | fail)
          refine wy2 ((show aop C false _ _ _ _ = aAppend T _ _ 22 _ _ from rfl).trans (appCO (out := out) (l := [c]) (fz := 0) ((upd_ne _ _ (by have := hM.lo; omega)).trans hM.o) (upd_same _ _ _) (by simp) (by simp only [List.length_cons, List.length_nil]; omega))) ?_
          repeat' (first | refine wy1 (a := by simp only [go_sem, ↓reduceIte, Nat.reduceEqDiff, reduceCtorEq, Nat.reduceAdd, Nat.reduceMul, Nat.reduceLeDiff, aLoad, aStore, hM.c]; exact rfl) (h := ?_) | fail)
          refine awOps_nil ?_
          try simp only [thenA_normal, thenA_ret, thenA_exit, blockA_normal, blockA_ret, blockA_exit]
          refine aw_region C (pb := false) rfl ?_
          repeat' (first | refine wy1 (a := by simp only [go_sem, ↓reduceIte, Nat.reduceEqDiff, reduceCtorEq, Nat.reduceAdd, Nat.reduceMul, Nat.reduceLeDiff, aLoad, aStore, wrap_small ((i : Int) + 1) (by omega) (by omega)]; exact rfl) (h := ?_) | fail)
          refine awOps_nil ?_
          try simp only [thenA_normal, thenA_ret, thenA_exit, blockA_normal, blockA_ret, blockA_exit]
          -- end of round 0 at 0f1t2t3t
          have hlo9 := hM.lo
          have hkp9 := hM.kp.1
          have hol : (out ++ [c]).length = i + 1 := by rw [List.length_append, hb.1]; rfl
          refine ⟨most - (out ++ [c]).length, [(0, .av (.sc x)), (1, vI most), (5, .av (.own (s9.nx + 14) 0 (out ++ [c]).length 3)), (6, vI (nd - 1 + c.n)), (7, vI (i + 1))], by omega, AllIn.less ⟨rfl, rfl, rfl, rfl, rfl, trivial⟩, i + 1, nd - 1 + c.n, s9.nx + 14, out ++ [c], rfl, rfl, ?_, ?_, ?_, ?_⟩
          · exact ⟨⟨(by first | omega | (dsimp only; omega) | (dsimp only at *; omega)), fun j hj => (upd_ne _ _ (by omega)).trans ((upd_ne _ _ (by omega)).trans ((upd_ne _ _ (by omega)).trans (hM.kp.2.1 j hj))), hM.kp.2.2⟩, (by first | omega | (dsimp only; omega) | (dsimp only at *; omega)), (by first | omega | (dsimp only; omega) | (dsimp only at *; omega)), upd_same _ _ _⟩
          · exact ⟨hol, by first | omega | (have := hcn hck; omega), by first | omega | (have := hcn hck; omega)⟩
          · exact hp.add (by omega) hok (by rw [if_pos hck])
          · rw [← h4, show 201 - i = (201 - (i + 1)) + 1 by omega, mdG, if_pos h0, hcd, if_pos hck]
        · intro hc3
          try simp only [beq_iff_eq, beq_eq_false_iff_ne, ne_eq] at hc3
          have hck := hc3
          refine aw_skip ?_
          simp only [thenA_normal, thenA_ret, thenA_exit, blockA_normal, blockA_ret, blockA_exit, ↓reduceIte, Nat.reduceEqDiff]
          refine aw_region C (pb := false) rfl ?_
          repeat' (first | refine wy1 (a := by simp only [go_sem, ↓reduceIte, Nat.reduceEqDiff, reduceCtorEq, Nat.reduceAdd, Nat.reduceMul, Nat.reduceLeDiff, aLoad, aStore, hM.c]; exact rfl) (h := ?_) | fail)
          refine wy2 ((show aop C false _ _ _ _ = aAppend T _ _ 22 _ _ from rfl).trans (appCO (out := out) (l := [c]) (fz := 0) ((upd_ne _ _ (by have := hM.lo; omega)).trans hM.o) (upd_same _ _ _) (by simp) (by simp only [List.length_cons, List.length_nil]; omega))) ?_
          repeat' (first | refine wy1 (a := by simp only [go_sem, ↓reduceIte, Nat.reduceEqDiff, reduceCtorEq, Nat.reduceAdd, Nat.reduceMul, Nat.reduceLeDiff, aLoad, aStore, hM.c]; exact rfl) (h := ?_) | fail)
          refine awOps_nil ?_
          try simp only [thenA_normal, thenA_ret, thenA_exit, blockA_normal, blockA_ret, blockA_exit]
          refine aw_region C (pb := false) rfl ?_
          repeat' (first | refine wy1 (a := by simp only [go_sem, ↓reduceIte, Nat.reduceEqDiff, reduceCtorEq, Nat.reduceAdd, Nat.reduceMul, Nat.reduceLeDiff, aLoad, aStore, wrap_small ((i : Int) + 1) (by omega) (by omega)]; exact rfl) (h := ?_) | fail)
          refine awOps_nil ?_
          try simp only [thenA_normal, thenA_ret, thenA_exit, blockA_normal, blockA_ret, blockA_exit]
          -- end of round 0 at 0f1t2t3f
          have hlo9 := hM.lo
          have hkp9 := hM.kp.1
          have hol : (out ++ [c]).length = i + 1 := by rw [List.length_append, hb.1]; rfl
          refine ⟨most - (out ++ [c]).length, [(0, .av (.sc x)), (1, vI most), (5, .av (.own (s9.nx + 9) 0 (out ++ [c]).length 3)), (6, vI (nd - 1)), (7, vI (i + 1))], by omega, AllIn.less ⟨rfl, rfl, rfl, rfl, rfl, trivial⟩, i + 1, nd - 1, s9.nx + 9, out ++ [c], rfl, rfl, ?_, ?_, ?_, ?_⟩
          · exact ⟨⟨(by first | omega | (dsimp only; omega) | (dsimp only at *; omega)), fun j hj => (upd_ne _ _ (by omega)).trans ((upd_ne _ _ (by omega)).trans ((upd_ne _ _ (by omega)).trans (hM.kp.2.1 j hj))), hM.kp.2.2⟩, (by first | omega | (dsimp only; omega) | (dsimp only at *; omega)), (by first | omega | (dsimp only; omega) | (dsimp only at *; omega)), upd_same _ _ _⟩
          · exact ⟨hol, by first | omega | (have := hcn hck; omega), by first | omega | (have := hcn hck; omega)⟩
          · exact hp.add (by omega) hok (by rw [if_neg hck])
          · rw [← h4, show 201 - i = (201 - (i + 1)) + 1 by omega, mdG, if_pos h0, hcd, if_neg hck]
      · intro hc2
        refine aw_cut_seq C (pb := false) [(0, .av (.sc x)), (1, vI most), (5, .av (.own io 0 out.length 3)), (6, vI nd), (7, vI i), (8, .av (.ptr c8 0)), (56, vB (kindIs t i 2))] rfl ?_ fun n10 hn10 => ?_
        · by_cases hi2 : i < t.length
          · have hlt : decide ((i : Int) < (t.length : Int)) = true := decide_eq_true (by omega)
            have hg : t[i]? = some t[i] := List.getElem?_eq_getElem hi2
            have hA3 : IntKind.i64.wrap (BitVec.ofInt 64 t[i].n &&& BitVec.ofInt 64 3).toNat = andI t[i].n 3 := rfl
            have hk : kindIs t i 2 = (andI t[i].kind 3 == 2) := by rw [kindIs, hg]
            repeat' (first | refine wy2 (by simp only [go_sem, ↓reduceIte, Nat.reduceEqDiff, reduceCtorEq, Nat.reduceAdd, Nat.reduceMul, Nat.reduceLeDiff, aLoad, aStore, lenC hx, hlt, idxC hx hi2]; exact rfl) ?_ | refine awOps_no (by rfl) (by rfl) ?_ | fail)
            exact awOps_nil ⟨⟨rfl, rfl, rfl, rfl, rfl, rfl, congrArg vB hk.symm, trivial⟩, rfl, (by first | omega | (dsimp only; omega) | (dsimp only at *; omega)), rfl⟩
          · have hlt : decide ((i : Int) < (t.length : Int)) = false := decide_eq_false (by omega)
            have hg : t[i]? = none := List.getElem?_eq_none (by omega)
            have hk : kindIs t i 2 = false := by rw [kindIs, hg]
            repeat' (first | refine wy2 (by simp only [go_sem, ↓reduceIte, Nat.reduceEqDiff, reduceCtorEq, Nat.reduceAdd, Nat.reduceMul, Nat.reduceLeDiff, aLoad, aStore, lenC hx, hlt]; exact rfl) ?_ | refine awOps_no (by rfl) (by rfl) ?_ | fail)
            exact awOps_nil ⟨⟨rfl, rfl, rfl, rfl, rfl, rfl, congrArg vB hk.symm, trivial⟩, rfl, (by first | omega | (dsimp only; omega) | (dsimp only at *; omega)), rfl⟩
        refine aw_cond (by rfl) ?_ ?_
        · intro hc4
          have hi2 := kindIs_lt hc4
          refine aw_region C (pb := false) rfl ?_
          repeat' (first | refine wy1 (a := by simp only [go_sem, ↓reduceIte, Nat.reduceEqDiff, reduceCtorEq, Nat.reduceAdd, Nat.reduceMul, Nat.reduceLeDiff, aLoad, aStore, idxC hx hi2, storeL, hM7.c, zeroA, y42]; exact rfl) (h := ?_) | refine wz1 (a := by simp only [go_sem, ↓reduceIte, Nat.reduceEqDiff, reduceCtorEq, Nat.reduceAdd, Nat.reduceMul, Nat.reduceLeDiff, aLoad, aStore, idxC hx hi2, storeL, hM7.c, zeroA, y42]; exact rfl) (h := ?_) | fail)
          refine awOps_nil ?_
          refine aw_state (J := fun s9 => MD s io c8 out ⟨2, noName, andI t[i].n 3⟩ s9) ((hM7.up (m := n10) (by omega)).set (by first | omega | (dsimp only; omega) | (dsimp only at *; omega)) _) fun s9 hM => ?_
          obtain ⟨c, hc⟩ : ∃ c : Cell, c = ⟨2, noName, andI t[i].n 3⟩ := ⟨_, rfl⟩
          have hok : cellOk c = true := by rw [hc]; exact okI _
          have hcn : c.kind = 3 → 0 ≤ c.n ∧ i + nd + c.n ≤ most := by
            rw [hc]
            intro hk
            simp at hk
          rw [← hc] at hM
          have hcd : mdC t i ((out.length : Int) + nd) most = c := by rw [hc]; exact (by rw [mdC, if_neg (by rw [hc2]; decide), if_pos hc4, List.getElem?_eq_getElem hi2, Option.getD_some])
          clear hc
          try simp only [thenA_normal, thenA_ret, thenA_exit, blockA_normal, blockA_ret, blockA_exit]
          refine aw_region_seq C (pb := false) rfl fun K hK => ?_
          repeat' (first | refine wy1 (a := by simp only [go_sem, ↓reduceIte, Nat.reduceEqDiff, reduceCtorEq, Nat.reduceAdd, Nat.reduceMul, Nat.reduceLeDiff, aLoad, aStore, wrap_small (nd - 1) (by omega) (by omega)]; exact rfl) (h := ?_) | fail)
          refine awOps_nil (hK _ _ ?_)
          clear hK K
          refine aw_seq ?_
          refine aw_region_seq C (pb := false) rfl fun K hK => ?_
          repeat' (first | refine wy1 (a := by simp only [go_sem, ↓reduceIte, Nat.reduceEqDiff, reduceCtorEq, Nat.reduceAdd, Nat.reduceMul, Nat.reduceLeDiff, aLoad, aStore, hM.c]; exact rfl) (h := ?_) | fail)
          refine awOps_nil (hK _ _ ?_)
          clear hK K
          refine aw_cond (by rfl) ?_ ?_
          · intro hc5
            try simp only [beq_iff_eq, beq_eq_false_iff_ne, ne_eq] at hc5
            have hck := hc5
            refine aw_region C (pb := false) rfl ?_
            repeat' (first | refine wy1 (a := by simp only [go_sem, ↓reduceIte, Nat.reduceEqDiff, reduceCtorEq, Nat.reduceAdd, Nat.reduceMul, Nat.reduceLeDiff, aLoad, aStore, hM.c, wrap_small (nd - 1 + c.n) (by have := hcn hck; omega) (by have := hcn hck; omega)]; exact rfl) (h := ?_) | fail)
            refine awOps_nil ?_
            try simp only [thenA_normal, thenA_ret, thenA_exit, blockA_normal, blockA_ret, blockA_exit]
            refine aw_region C (pb := false) rfl ?_
            repeat' (first | refine wy1 (a := by simp only [go_sem, ↓reduceIte, Nat.reduceEqDiff, reduceCtorEq, Nat.reduceAdd, Nat.reduceMul, Nat.reduceLeDiff, aLoad, aStore, hM.c]; exact rfl) (h := ?_) | fail)
            refine wy2 ((show aop C false _ _ _ _ = aAppend T _ _ 22 _ _ from rfl).trans (appCO (out := out) (l := [c]) (fz := 0) ((upd_ne _ _ (by have := hM.lo; omega)).trans hM.o) (upd_same _ _ _) (by simp) (by simp only [List.length_cons, List.length_nil]; omega))) ?_
            repeat' (first | refine wy1 (a := by simp only [go_sem, ↓reduceIte, Nat.reduceEqDiff, reduceCtorEq, Nat.reduceAdd, Nat.reduceMul, Nat.reduceLeDiff, aLoad, aStore, hM.c]; exact rfl) (h := ?_) | fail)
            refine awOps_nil ?_
            try simp only [thenA_normal, thenA_ret, thenA_exit, blockA_normal, blockA_ret, blockA_exit]
            refine aw_region C (pb := false) rfl ?_
            repeat' (first | refine wy1 (a := by simp only [go_sem, ↓reduceIte, Nat.reduceEqDiff, reduceCtorEq, Nat.reduceAdd, Nat.reduceMul, Nat.reduceLeDiff, aLoad, aStore, wrap_small ((i : Int) + 1) (by omega) (by omega)]; exact rfl) (h := ?_) | fail)
            refine awOps_nil ?_
            try simp only [thenA_normal, thenA_ret, thenA_exit, blockA_normal, blockA_ret, blockA_exit]
            -- end of round 0 at 0f1t2f4t5t
            have hlo9 := hM.lo
            have hkp9 := hM.kp.1
            have hol : (out ++ [c]).length = i + 1 := by rw [List.length_append, hb.1]; rfl
            refine ⟨most - (out ++ [c]).length, [(0, .av (.sc x)), (1, vI most), (5, .av (.own (s9.nx + 14) 0 (out ++ [c]).length 3)), (6, vI (nd - 1 + c.n)), (7, vI (i + 1))], by omega, AllIn.less ⟨rfl, rfl, rfl, rfl, rfl, trivial⟩, i + 1, nd - 1 + c.n, s9.nx + 14, out ++ [c], rfl, rfl, ?_, ?_, ?_, ?_⟩
            · exact ⟨⟨(by first | omega | (dsimp only; omega) | (dsimp only at *; omega)), fun j hj => (upd_ne _ _ (by omega)).trans ((upd_ne _ _ (by omega)).trans ((upd_ne _ _ (by omega)).trans (hM.kp.2.1 j hj))), hM.kp.2.2⟩, (by first | omega | (dsimp only; omega) | (dsimp only at *; omega)), (by first | omega | (dsimp only; omega) | (dsimp only at *; omega)), upd_same _ _ _⟩
            · exact ⟨hol, by first | omega | (have := hcn hck; omega), by first | omega | (have := hcn hck; omega)⟩
            · exact hp.add (by omega) hok (by rw [if_pos hck])
            · rw [← h4, show 201 - i = (201 - (i + 1)) + 1 by omega, mdG, if_pos h0, hcd, if_pos hck]
          · intro hc5
            try simp only [beq_iff_eq, beq_eq_false_iff_ne, ne_eq] at hc5
            have hck := hc5
            refine aw_skip ?_
            simp only [thenA_normal, thenA_ret, thenA_exit, blockA_normal, blockA_ret, blockA_exit, ↓reduceIte, Nat.reduceEqDiff]
            refine aw_region C (pb := false) rfl ?_
            repeat' (first | refine wy1 (a := by simp only [go_sem, ↓reduceIte, Nat.reduceEqDiff, reduceCtorEq, Nat.reduceAdd, Nat.reduceMul, Nat.reduceLeDiff, aLoad, aStore, hM.c]; exact rfl) (h := ?_) | fail)
            refine wy2 ((show aop C false _ _ _ _ = aAppend T _ _ 22 _ _ from rfl).trans (appCO (out := out) (l := [c]) (fz := 0) ((upd_ne _ _ (by have := hM.lo; omega)).trans hM.o) (upd_same _ _ _) (by simp) (by simp only [List.length_cons, List.length_nil]; omega))) ?_
            repeat' (first | refine wy1 (a := by simp only [go_sem, ↓reduceIte, Nat.reduceEqDiff, reduceCtorEq, Nat.reduceAdd, Nat.reduceMul, Nat.reduceLeDiff, aLoad, aStore, hM.c]; exact rfl) (h := ?_) | fail)
            refine awOps_nil ?_
            try simp only [thenA_normal, thenA_ret, thenA_exit, blockA_normal, blockA_ret, blockA_exit]
            refine aw_region C (pb := false) rfl ?_
            repeat' (first | refine wy1 (a := by simp only [go_sem, ↓reduceIte, Nat.reduceEqDiff, reduceCtorEq, Nat.reduceAdd, Nat.reduceMul, Nat.reduceLeDiff, aLoad, aStore, wrap_small ((i : Int) + 1) (by omega) (by omega)]; exact rfl) (h := ?_) | fail)
            refine awOps_nil ?_
            try simp only [thenA_normal, thenA_ret, thenA_exit, blockA_normal, blockA_ret, blockA_exit]
            -- end of round 0 at 0f1t2f4t5f
            have hlo9 := hM.lo
            have hkp9 := hM.kp.1
            have hol : (out ++ [c]).length = i + 1 := by rw [List.length_append, hb.1]; rfl
            refine ⟨most - (out ++ [c]).length, [(0, .av (.sc x)), (1, vI most), (5, .av (.own (s9.nx + 9) 0 (out ++ [c]).length 3)), (6, vI (nd - 1)), (7, vI (i + 1))], by omega, AllIn.less ⟨rfl, rfl, rfl, rfl, rfl, trivial⟩, i + 1, nd - 1, s9.nx + 9, out ++ [c], rfl, rfl, ?_, ?_, ?_, ?_⟩
            · exact ⟨⟨(by first | omega | (dsimp only; omega) | (dsimp only at *; omega)), fun j hj => (upd_ne _ _ (by omega)).trans ((upd_ne _ _ (by omega)).trans ((upd_ne _ _ (by omega)).trans (hM.kp.2.1 j hj))), hM.kp.2.2⟩, (by first | omega | (dsimp only; omega) | (dsimp only at *; omega)), (by first | omega | (dsimp only; omega) | (dsimp only at *; omega)), upd_same _ _ _⟩
            · exact ⟨hol, by first | omega | (have := hcn hck; omega), by first | omega | (have := hcn hck; omega)⟩
            · exact hp.add (by omega) hok (by rw [if_neg hck])
            · rw [← h4, show 201 - i = (201 - (i + 1)) + 1 by omega, mdG, if_pos h0, hcd, if_neg hck]
        · intro hc4
          refine aw_cut_seq C (pb := false) [(0, .av (.sc x)), (1, vI most), (5, .av (.own io 0 out.length 3)), (6, vI nd), (7, vI i), (8, .av (.ptr c8 0)), (82, vB (fitsIn t i ((out.length : Int) + nd) most))] rfl ?_ fun n12 hn12 => ?_
          · by_cases hi2 : i < t.length
            · have hlt : decide ((i : Int) < (t.length : Int)) = true := decide_eq_true (by omega)
              have hg : t[i]? = some t[i] := List.getElem?_eq_getElem hi2
              have hA3 : IntKind.i64.wrap (BitVec.ofInt 64 t[i].n &&& BitVec.ofInt 64 3).toNat = andI t[i].n 3 := rfl
              have hk : fitsIn t i ((out.length : Int) + nd) most = decide ((out.length : Int) + nd + andI t[i].n 3 ≤ most) := by rw [fitsIn, hg]
              repeat' (first | refine wy2 (by simp only [go_sem, ↓reduceIte, Nat.reduceEqDiff, reduceCtorEq, Nat.reduceAdd, Nat.reduceMul, Nat.reduceLeDiff, aLoad, aStore]; exact (rfl : some (Va.av (Av.sc (Sc.int IntKind.i64 (andI t[i].n 3))), s7.ob) = _)) ?_ | refine wy2 (by simp only [go_sem, ↓reduceIte, Nat.reduceEqDiff, reduceCtorEq, Nat.reduceAdd, Nat.reduceMul, Nat.reduceLeDiff, aLoad, aStore, lenC hx, hlt, idxC hx hi2, lenOwn, wrap_small ((out.length : Int) + nd) (by omega) (by omega), wrap_small ((out.length : Int) + nd + andI t[i].n 3) (by have := andI_low3 t[i].n; omega) (by have := andI_low3 t[i].n; omega), hA3]; exact rfl) ?_ | refine awOps_no (by rfl) (by rfl) ?_ | fail)
              exact awOps_nil ⟨⟨rfl, rfl, rfl, rfl, rfl, rfl, congrArg vB hk.symm, trivial⟩, rfl, (by first | omega | (dsimp only; omega) | (dsimp only at *; omega)), rfl⟩
            · have hlt : decide ((i : Int) < (t.length : Int)) = false := decide_eq_false (by omega)
              have hg : t[i]? = none := List.getElem?_eq_none (by omega)
              have hk : fitsIn t i ((out.length : Int) + nd) most = false := by rw [fitsIn, hg]
              repeat' (first | refine wy2 (by simp only [go_sem, ↓reduceIte, Nat.reduceEqDiff, reduceCtorEq, Nat.reduceAdd, Nat.reduceMul, Nat.reduceLeDiff, aLoad, aStore, lenC hx, hlt]; exact rfl) ?_ | refine awOps_no (by rfl) (by rfl) ?_ | fail)
              exact awOps_nil ⟨⟨rfl, rfl, rfl, rfl, rfl, rfl, congrArg vB hk.symm, trivial⟩, rfl, (by first | omega | (dsimp only; omega) | (dsimp only at *; omega)), rfl⟩
          refine aw_cond (by rfl) ?_ ?_
          · intro hc6
            have hi2 := fitsIn_lt hc6
            have hc6' := hc6
            rw [fitsIn, List.getElem?_eq_getElem hi2] at hc6
            have hfit := of_decide_eq_true hc6
            refine aw_dra C (pb := false) 14 [13] [s7.ob, upd s7.ob c8 (.cs [.sc (.int .i64 3), .sc (.str (nameR t[i].name)), .sc (.int .i64 (andI t[i].n 3))] 0)] rfl (by kernel_rfl) (by kernel_rfl) rfl (fun _ _ => rfl) ?_
            iterate 5 (first | refine dra_yes [0] (by rfl) (by rfl) (by rfl) (by rfl) (by kernel_rfl) ⟨⟨_, by simp  only [go_sem, ↓reduceIte, Nat.reduceEqDiff, reduceCtorEq, Nat.reduceAdd, Nat.reduceMul, Nat.reduceLeDiff, aLoad, aStore, osL_0, osL_1, osL_2, osL_3, osL_4, osL_5, osL_6, idxC hx hi2, hM7.c, zeroA, y42, storeL]; (try exact rfl), fun _ => rfl⟩, trivial⟩ ?_ | refine dra_no (by rfl) (by rfl) (by rfl) ?_)
            refine dra_callsil [0] (by rfl) (by rfl) (by rfl) (by rfl) (by kernel_rfl) ⟨And.intro Try.call33 (fn33 L t[i].name _), trivial⟩ ?_
            iterate 7 (first | refine dra_yes [0] (by rfl) (by rfl) (by rfl) (by rfl) (by kernel_rfl) ⟨⟨_, by simp  only [go_sem, ↓reduceIte, Nat.reduceEqDiff, reduceCtorEq, Nat.reduceAdd, Nat.reduceMul, Nat.reduceLeDiff, aLoad, aStore, osL_0, osL_1, osL_2, osL_3, osL_4, osL_5, osL_6, idxC hx hi2, hM7.c, zeroA, y42, storeL]; (try exact rfl), fun _ => rfl⟩, trivial⟩ ?_ | refine dra_no (by rfl) (by rfl) (by rfl) ?_)
            refine dra_eff0 (by rfl) (by rfl) (by rfl) (by rfl) (by simp  only [go_sem, ↓reduceIte, Nat.reduceEqDiff, reduceCtorEq, Nat.reduceAdd, Nat.reduceMul, Nat.reduceLeDiff, aLoad, aStore, osL_0, osL_1, osL_2, osL_3, osL_4, osL_5, osL_6, idxC hx hi2, hM7.c, zeroA, y42, storeL]; exact rfl) (fun _ => rfl) ⟨Nat.le_refl _, rfl⟩ ?_
            refine dra_nil ?_
            simp only [osL_0, osL_1, osL_2, osL_3, osL_4, osL_5, osL_6, List.length_cons, List.length_nil, Nat.reduceAdd]
            refine aw_state (J := fun s9 => MD s io c8 out ⟨3, nameR t[i].name, andI t[i].n 3⟩ s9) ((hM7.up (m := n12) (by omega)).set (by first | omega | (dsimp only; omega) | (dsimp only at *; omega)) _) fun s9 hM => ?_
            obtain ⟨c, hc⟩ : ∃ c : Cell, c = ⟨3, nameR t[i].name, andI t[i].n 3⟩ := ⟨_, rfl⟩
            have hok : cellOk c = true := by rw [hc]; exact okF _ _
            have hcn : c.kind = 3 → 0 ≤ c.n ∧ i + nd + c.n ≤ most := by
              rw [hc]
              intro hk
              have := andI_low3 t[i].n; dsimp only; omega
            rw [← hc] at hM
            have hcd : mdC t i ((out.length : Int) + nd) most = c := by rw [hc]; exact (by rw [mdC, if_neg (by rw [hc2]; decide), if_neg (by rw [hc4]; decide), if_pos hc6', List.getElem?_eq_getElem hi2, Option.getD_some])
            clear hc
            try simp only [thenA_normal, thenA_ret, thenA_exit, blockA_normal, blockA_ret, blockA_exit]
            refine aw_region_seq C (pb := false) rfl fun K hK => ?_
            repeat' (first | refine wy1 (a := by simp only [go_sem, ↓reduceIte, Nat.reduceEqDiff, reduceCtorEq, Nat.reduceAdd, Nat.reduceMul, Nat.reduceLeDiff, aLoad, aStore, wrap_small (nd - 1) (by omega) (by omega)]; exact rfl) (h := ?_) | fail)
            refine awOps_nil (hK _ _ ?_)
            clear hK K
            refine aw_seq ?_
            refine aw_region_seq C (pb := false) rfl fun K hK => ?_
            repeat' (first | refine wy1 (a := by simp only [go_sem, ↓reduceIte, Nat.reduceEqDiff, reduceCtorEq, Nat.reduceAdd, Nat.reduceMul, Nat.reduceLeDiff, aLoad, aStore, hM.c]; exact rfl) (h := ?_) | fail)
            refine awOps_nil (hK _ _ ?_)
            clear hK K
            refine aw_cond (by rfl) ?_ ?_
            · intro hc7
              try simp only [beq_iff_eq, beq_eq_false_iff_ne, ne_eq] at hc7
              have hck := hc7
              refine aw_region C (pb := false) rfl ?_
              repeat' (first | refine wy1 (a := by simp only [go_sem, ↓reduceIte, Nat.reduceEqDiff, reduceCtorEq, Nat.reduceAdd, Nat.reduceMul, Nat.reduceLeDiff, aLoad, aStore, hM.c, wrap_small (nd - 1 + c.n) (by have := hcn hck; omega) (by have := hcn hck; omega)]; exact rfl) (h := ?_) | fail)
              refine awOps_nil ?_
              try simp only [thenA_normal, thenA_ret, thenA_exit, blockA_normal, blockA_ret, blockA_exit]
              refine aw_region C (pb := false) rfl ?_
              repeat' (first | refine wy1 (a := by simp only [go_sem, ↓reduceIte, Nat.reduceEqDiff, reduceCtorEq, Nat.reduceAdd, Nat.reduceMul, Nat.reduceLeDiff, aLoad, aStore, hM.c]; exact rfl) (h := ?_) | fail)
              refine wy2 ((show aop C false _ _ _ _ = aAppend T _ _ 22 _ _ from rfl).trans (appCO (out := out) (l := [c]) (fz := 0) ((upd_ne _ _ (by have := hM.lo; omega)).trans hM.o) (upd_same _ _ _) (by simp) (by simp only [List.length_cons, List.length_nil]; omega))) ?_
              repeat' (first | refine wy1 (a := by simp only [go_sem, ↓reduceIte, Nat.reduceEqDiff, reduceCtorEq, Nat.reduceAdd, Nat.reduceMul, Nat.reduceLeDiff, aLoad, aStore, hM.c]; exact rfl) (h := ?_) | fail)
              refine awOps_nil ?_
              try simp only [thenA_normal, thenA_ret, thenA_exit, blockA_normal, blockA_ret, blockA_exit]
              refine aw_region C (pb := false) rfl ?_
              repeat' (first | refine wy1 (a := by simp only [go_sem, ↓reduceIte, Nat.reduceEqDiff, reduceCtorEq, Nat.reduceAdd, Nat.reduceMul, Nat.reduceLeDiff, aLoad, aStore, wrap_small ((i : Int) + 1) (by omega) (by omega)]; exact rfl) (h := ?_) | fail)
              refine awOps_nil ?_
              try simp only [thenA_normal, thenA_ret, thenA_exit, blockA_normal, blockA_ret, blockA_exit]
              -- end of round 0 at 0f1t2f4f6t7t
              have hlo9 := hM.lo
              have hkp9 := hM.kp.1
              have hol : (out ++ [c]).length = i + 1 := by rw [List.length_append, hb.1]; rfl
              refine ⟨most - (out ++ [c]).length, [(0, .av (.sc x)), (1, vI most), (5, .av (.own (s9.nx + 14) 0 (out ++ [c]).length 3)), (6, vI (nd - 1 + c.n)), (7, vI (i + 1))], by omega, AllIn.less ⟨rfl, rfl, rfl, rfl, rfl, trivial⟩, i + 1, nd - 1 + c.n, s9.nx + 14, out ++ [c], rfl, rfl, ?_, ?_, ?_, ?_⟩
              · exact ⟨⟨(by first | omega | (dsimp only; omega) | (dsimp only at *; omega)), fun j hj => (upd_ne _ _ (by omega)).trans ((upd_ne _ _ (by omega)).trans ((upd_ne _ _ (by omega)).trans (hM.kp.2.1 j hj))), hM.kp.2.2⟩, (by first | omega | (dsimp only; omega) | (dsimp only at *; omega)), (by first | omega | (dsimp only; omega) | (dsimp only at *; omega)), upd_same _ _ _⟩
              · exact ⟨hol, by first | omega | (have := hcn hck; omega), by first | omega | (have := hcn hck; omega)⟩
              · exact hp.add (by omega) hok (by rw [if_pos hck])
              · rw [← h4, show 201 - i = (201 - (i + 1)) + 1 by omega, mdG, if_pos h0, hcd, if_pos hck]
            · intro hc7
              try simp only [beq_iff_eq, beq_eq_false_iff_ne, ne_eq] at hc7
              have hck := hc7
              refine aw_skip ?_
              simp only [thenA_normal, thenA_ret, thenA_exit, blockA_normal, blockA_ret, blockA_exit, ↓reduceIte, Nat.reduceEqDiff]
              refine aw_region C (pb := false) rfl ?_
              repeat' (first | refine wy1 (a := by simp only [go_sem, ↓reduceIte, Nat.reduceEqDiff, reduceCtorEq, Nat.reduceAdd, Nat.reduceMul, Nat.reduceLeDiff, aLoad, aStore, hM.c]; exact rfl) (h := ?_) | fail)
              refine wy2 ((show aop C false _ _ _ _ = aAppend T _ _ 22 _ _ from rfl).trans (appCO (out := out) (l := [c]) (fz := 0) ((upd_ne _ _ (by have := hM.lo; omega)).trans hM.o) (upd_same _ _ _) (by simp) (by simp only [List.length_cons, List.length_nil]; omega))) ?_
              repeat' (first | refine wy1 (a := by simp only [go_sem, ↓reduceIte, Nat.reduceEqDiff, reduceCtorEq, Nat.reduceAdd, Nat.reduceMul, Nat.reduceLeDiff, aLoad, aStore, hM.c]; exact rfl) (h := ?_) | fail)
              refine awOps_nil ?_
              try simp only [thenA_normal, thenA_ret, thenA_exit, blockA_normal, blockA_ret, blockA_exit]
              refine aw_region C (pb := false) rfl ?_
              repeat' (first | refine wy1 (a := by simp only [go_sem, ↓reduceIte, Nat.reduceEqDiff, reduceCtorEq, Nat.reduceAdd, Nat.reduceMul, Nat.reduceLeDiff, aLoad, aStore, wrap_small ((i : Int) + 1) (by omega) (by omega)]; exact rfl) (h := ?_) | fail)
              refine awOps_nil ?_
              try simp only [thenA_normal, thenA_ret, thenA_exit, blockA_normal, blockA_ret, blockA_exit]
              -- end of round 0 at 0f1t2f4f6t7f
              have hlo9 := hM.lo
              have hkp9 := hM.kp.1
              have hol : (out ++ [c]).length = i + 1 := by rw [List.length_append, hb.1]; rfl
              refine ⟨most - (out ++ [c]).length, [(0, .av (.sc x)), (1, vI most), (5, .av (.own (s9.nx + 9) 0 (out ++ [c]).length 3)), (6, vI (nd - 1)), (7, vI (i + 1))], by omega, AllIn.less ⟨rfl, rfl, rfl, rfl, rfl, trivial⟩, i + 1, nd - 1, s9.nx + 9, out ++ [c], rfl, rfl, ?_, ?_, ?_, ?_⟩
              · exact ⟨⟨(by first | omega | (dsimp only; omega) | (dsimp only at *; omega)), fun j hj => (upd_ne _ _ (by omega)).trans ((upd_ne _ _ (by omega)).trans ((upd_ne _ _ (by omega)).trans (hM.kp.2.1 j hj))), hM.kp.2.2⟩, (by first | omega | (dsimp only; omega) | (dsimp only at *; omega)), (by first | omega | (dsimp only; omega) | (dsimp only at *; omega)), upd_same _ _ _⟩
              · exact ⟨hol, by first | omega | (have := hcn hck; omega), by first | omega | (have := hcn hck; omega)⟩
              · exact hp.add (by omega) hok (by rw [if_neg hck])
              · rw [← h4, show 201 - i = (201 - (i + 1)) + 1 by omega, mdG, if_pos h0, hcd, if_neg hck]
          · intro hc6
            refine aw_state (J := fun s9 => MD s io c8 out ⟨3, nmA, 0⟩ s9) (hM7.up (by omega)) fun s9 hM => ?_
            obtain ⟨c, hc⟩ : ∃ c : Cell, c = ⟨3, nmA, 0⟩ := ⟨_, rfl⟩
            have hok : cellOk c = true := by rw [hc]; exact okA
            have hcn : c.kind = 3 → 0 ≤ c.n ∧ i + nd + c.n ≤ most := by
              rw [hc]
              intro hk
              dsimp only; omega
            rw [← hc] at hM
            have hcd : mdC t i ((out.length : Int) + nd) most = c := by rw [hc]; exact (by rw [mdC, if_neg (by rw [hc2]; decide), if_neg (by rw [hc4]; decide), if_neg (by rw [hc6]; decide)])
            clear hc
            refine aw_skip ?_
            simp only [thenA_normal, thenA_ret, thenA_exit, blockA_normal, blockA_ret, blockA_exit, ↓reduceIte, Nat.reduceEqDiff]
            refine aw_region_seq C (pb := false) rfl fun K hK => ?_
            repeat' (first | refine wy1 (a := by simp only [go_sem, ↓reduceIte, Nat.reduceEqDiff, reduceCtorEq, Nat.reduceAdd, Nat.reduceMul, Nat.reduceLeDiff, aLoad, aStore, wrap_small (nd - 1) (by omega) (by omega)]; exact rfl) (h := ?_) | fail)
            refine awOps_nil (hK _ _ ?_)
            clear hK K
            refine aw_seq ?_
            refine aw_region_seq C (pb := false) rfl fun K hK => ?_
            repeat' (first | refine wy1 (a := by simp only [go_sem, ↓reduceIte, Nat.reduceEqDiff, reduceCtorEq, Nat.reduceAdd, Nat.reduceMul, Nat.reduceLeDiff, aLoad, aStore, hM.c]; exact rfl) (h := ?_) | fail)
            refine awOps_nil (hK _ _ ?_)
            clear hK K
            refine aw_cond (by rfl) ?_ ?_
            · intro hc8
              try simp only [beq_iff_eq, beq_eq_false_iff_ne, ne_eq] at hc8
              have hck := hc8
              refine aw_region C (pb := false) rfl ?_
              repeat' (first | refine wy1 (a := by simp only [go_sem, ↓reduceIte, Nat.reduceEqDiff, reduceCtorEq, Nat.reduceAdd, Nat.reduceMul, Nat.reduceLeDiff, aLoad, aStore, hM.c, wrap_small (nd - 1 + c.n) (by have := hcn hck; omega) (by have := hcn hck; omega)]; exact rfl) (h := ?_) | fail)
              refine awOps_nil ?_
              try simp only [thenA_normal, thenA_ret, thenA_exit, blockA_normal, blockA_ret, blockA_exit]
              refine aw_region C (pb := false) rfl ?_
              repeat' (first | refine wy1 (a := by simp only [go_sem, ↓reduceIte, Nat.reduceEqDiff, reduceCtorEq, Nat.reduceAdd, Nat.reduceMul, Nat.reduceLeDiff, aLoad, aStore, hM.c]; exact rfl) (h := ?_) | fail)
              refine wy2 ((show aop C false _ _ _ _ = aAppend T _ _ 22 _ _ from rfl).trans (appCO (out := out) (l := [c]) (fz := 0) ((upd_ne _ _ (by have := hM.lo; omega)).trans hM.o) (upd_same _ _ _) (by simp) (by simp only [List.length_cons, List.length_nil]; omega))) ?_
              repeat' (first | refine wy1 (a := by simp only [go_sem, ↓reduceIte, Nat.reduceEqDiff, reduceCtorEq, Nat.reduceAdd, Nat.reduceMul, Nat.reduceLeDiff, aLoad, aStore, hM.c]; exact rfl) (h := ?_) | fail)
              refine awOps_nil ?_
              try simp only [thenA_normal, thenA_ret, thenA_exit, blockA_normal, blockA_ret, blockA_exit]
              refine aw_region C (pb := false) rfl ?_
              repeat' (first | refine wy1 (a := by simp only [go_sem, ↓reduceIte, Nat.reduceEqDiff, reduceCtorEq, Nat.reduceAdd, Nat.reduceMul, Nat.reduceLeDiff, aLoad, aStore, wrap_small ((i : Int) + 1) (by omega) (by omega)]; exact rfl) (h := ?_) | fail)
              refine awOps_nil ?_
              try simp only [thenA_normal, thenA_ret, thenA_exit, blockA_normal, blockA_ret, blockA_exit]
              -- end of round 0 at 0f1t2f4f6f8t
              have hlo9 := hM.lo
              have hkp9 := hM.kp.1
              have hol : (out ++ [c]).length = i + 1 := by rw [List.length_append, hb.1]; rfl
              refine ⟨most - (out ++ [c]).length, [(0, .av (.sc x)), (1, vI most), (5, .av (.own (s9.nx + 14) 0 (out ++ [c]).length 3)), (6, vI (nd - 1 + c.n)), (7, vI (i + 1))], by omega, AllIn.less ⟨rfl, rfl, rfl, rfl, rfl, trivial⟩, i + 1, nd - 1 + c.n, s9.nx + 14, out ++ [c], rfl, rfl, ?_, ?_, ?_, ?_⟩
              · exact ⟨⟨(by first | omega | (dsimp only; omega) | (dsimp only at *; omega)), fun j hj => (upd_ne _ _ (by omega)).trans ((upd_ne _ _ (by omega)).trans ((upd_ne _ _ (by omega)).trans (hM.kp.2.1 j hj))), hM.kp.2.2⟩, (by first | omega | (dsimp only; omega) | (dsimp only at *; omega)), (by first | omega | (dsimp only; omega) | (dsimp only at *; omega)), upd_same _ _ _⟩
              · exact ⟨hol, by first | omega | (have := hcn hck; omega), by first | omega | (have := hcn hck; omega)⟩
              · exact hp.add (by omega) hok (by rw [if_pos hck])
              · rw [← h4, show 201 - i = (201 - (i + 1)) + 1 by omega, mdG, if_pos h0, hcd, if_pos hck]
            · intro hc8
              try simp only [beq_iff_eq, beq_eq_false_iff_ne, ne_eq] at hc8
              have hck := hc8
              refine aw_skip ?_
              simp only [thenA_normal, thenA_ret, thenA_exit, blockA_normal, blockA_ret, blockA_exit, ↓reduceIte, Nat.reduceEqDiff]
              refine aw_region C (pb := false) rfl ?_
              repeat' (first | refine wy1 (a := by simp only [go_sem, ↓reduceIte, Nat.reduceEqDiff, reduceCtorEq, Nat.reduceAdd, Nat.reduceMul, Nat.reduceLeDiff, aLoad, aStore, hM.c]; exact rfl) (h := ?_) | fail)
              refine wy2 ((show aop C false _ _ _ _ = aAppend T _ _ 22 _ _ from rfl).trans (appCO (out := out) (l := [c]) (fz := 0) ((upd_ne _ _ (by have := hM.lo; omega)).trans hM.o) (upd_same _ _ _) (by simp) (by simp only [List.length_cons, List.length_nil]; omega))) ?_
              repeat' (first | refine wy1 (a := by simp only [go_sem, ↓reduceIte, Nat.reduceEqDiff, reduceCtorEq, Nat.reduceAdd, Nat.reduceMul, Nat.reduceLeDiff, aLoad, aStore, hM.c]; exact rfl) (h := ?_) | fail)
              refine awOps_nil ?_
              try simp only [thenA_normal, thenA_ret, thenA_exit, blockA_normal, blockA_ret, blockA_exit]
              refine aw_region C (pb := false) rfl ?_
              repeat' (first | refine wy1 (a := by simp only [go_sem, ↓reduceIte, Nat.reduceEqDiff, reduceCtorEq, Nat.reduceAdd, Nat.reduceMul, Nat.reduceLeDiff, aLoad, aStore, wrap_small ((i : Int) + 1) (by omega) (by omega)]; exact rfl) (h := ?_) | fail)
              refine awOps_nil ?_
              try simp only [thenA_normal, thenA_ret, thenA_exit, blockA_normal, blockA_ret, blockA_exit]
              -- end of round 0 at 0f1t2f4f6f8f
              have hlo9 := hM.lo
              have hkp9 := hM.kp.1
              have hol : (out ++ [c]).length = i + 1 := by rw [List.length_append, hb.1]; rfl
              refine ⟨most - (out ++ [c]).length, [(0, .av (.sc x)), (1, vI most), (5, .av (.own (s9.nx + 9) 0 (out ++ [c]).length 3)), (6, vI (nd - 1)), (7, vI (i + 1))], by omega, AllIn.less ⟨rfl, rfl, rfl, rfl, rfl, trivial⟩, i + 1, nd - 1, s9.nx + 9, out ++ [c], rfl, rfl, ?_, ?_, ?_, ?_⟩
              · exact ⟨⟨(by first | omega | (dsimp only; omega) | (dsimp only at *; omega)), fun j hj => (upd_ne _ _ (by omega)).trans ((upd_ne _ _ (by omega)).trans ((upd_ne _ _ (by omega)).trans (hM.kp.2.1 j hj))), hM.kp.2.2⟩, (by first | omega | (dsimp only; omega) | (dsimp only at *; omega)), (by first | omega | (dsimp only; omega) | (dsimp only at *; omega)), upd_same _ _ _⟩
              · exact ⟨hol, by first | omega | (have := hcn hck; omega), by first | omega | (have := hcn hck; omega)⟩
              · exact hp.add (by omega) hok (by rw [if_neg hck])
              · rw [← h4, show 201 - i = (201 - (i + 1)) + 1 by omega, mdG, if_pos h0, hcd, if_neg hck]
    · intro hc1
      try simp only [decide_eq_true_eq, decide_eq_false_iff_not] at hc1
      have hmg : madeG t most = out := by rw [madeG, if_neg (by rw [hc0]; decide), ← h4, show 201 - i = (200 - i) + 1 by omega, mdG, if_neg (by omega)]
      have hnd : nd = 0 := by omega
      have hend := hp.done hnd
      have hr0 : rightOk out = true := by
        have hpos : out.length ≠ 0 := by
          intro h
          rw [List.length_eq_zero_iff.1 h] at hend
          simp [endG] at hend
        simp only [rightOk, hend, beq_self_eq_true, Bool.and_true, Bool.and_eq_true, decide_eq_true_eq]
        omega
      refine aw_pur 5 (celC_pure hs1.2.2.2) ?_
      refine aw_exit ?_
      simp only [thenA_normal, thenA_ret, thenA_exit, blockA_normal, blockA_ret, blockA_exit, ↓reduceIte, Nat.reduceEqDiff]
      refine aw_region_seq C (pb := false) rfl fun K hK => ?_
      repeat' (first | refine wy0 (h := ?_) | fail)
      refine awOps_nil (hK _ _ ?_)
      clear hK K
      refine aw_ret ?_
      simp only [go_sem, ↓reduceIte, Nat.reduceEqDiff, reduceCtorEq, Nat.reduceAdd, Nat.reduceMul, Nat.reduceLeDiff, aLoad, aStore, FnQ, resA]
      -- 0f1f.x0.ret
      exact fun _ => ⟨by first | rfl | trivial, fun j hj => (upd_ne _ _ (by omega)).trans (hs1.1.2.1 j hj), hs1.1.2.2, by rw [hmg], by rw [hmg]; exact hr0, by rw [hmg]; omega⟩

theorem fn12 (L : Loops) (t : List Cell) (most : Nat) (s : Me) (x : Sc) (hx : GSl encC x t) (hl : t.length ≤ 281474976710656) (hn : ∀ c ∈ t, c.name.size ≤ 1152921504606846976) (hm : 1 ≤ most ∧ most ≤ 200) : FnL Try.prog L 12 [.av (.sc x), vI most] s fun r s' => (∃ y u, r = .av (.sc y) ∧ GSl encC y u ∧ rightOk u = true ∧ u.length ≤ most) ∧ s' = s :=
  (fn12g L t most s x hx hl hn hm).mono fun r s' ⟨⟨h1, h2, h3⟩, h4⟩ => ⟨⟨_, _, h1, gslC _, h2, h3⟩, h4⟩

end Go.Am.Seat
/-
  MADE BY PROGRAM (am.py): the walks of functions 84.
-/
namespace Go.Am.Seat
open Go.Proofs
theorem bod84 : Try.f84.body = some (Try.f84.body.getD .skip) := rfl
theorem fn84 (L : Loops) (n a b : Int) (s : Me)  : FnL Try.prog L 84 [vI n, vI a, vI b] s fun r s' => (r = vB (decide (n ≥ a) && decide (n ≤ b))) ∧ s' = s := by
  refine FnL.pure (R := fun r => r = vB (decide (n ≥ a) && decide (n ≤ b))) ?_
  refine fn_of_body (ts := [6]) Try.func84 bod84 rfl (by simp) (by simp [Try.ntmps84]) fun D0 => ?_
  unfold Try.f84
  simp only [Option.getD_some, initSl]
  refine aw_region_seq C (pb := false) rfl fun K hK => ?_
  repeat' (first | refine wy0 (h := ?_) | fail)
  refine awOps_nil (hK _ _ ?_)
  clear hK K
  refine aw_cut_seq C (pb := false) [(6, vB (decide (n ≥ a) && decide (n ≤ b)))] rfl ?_ fun n1 hn1 => ?_
  · cases hA0 : (decide (n ≥ a) : Bool) <;> cases hA1 : (decide (n ≤ b) : Bool)
    all_goals (repeat' (first | refine wy1 (a := by simp only [go_sem, ↓reduceIte, Nat.reduceEqDiff, reduceCtorEq, Nat.reduceAdd, Nat.reduceMul, Nat.reduceLeDiff, aLoad, aStore, hA0, hA1]; exact rfl) (h := ?_) | refine wn (h := ?_) | fail))
    all_goals (exact awOps_nil ⟨⟨rfl, trivial⟩, rfl, (by first | omega | (dsimp only; omega)), rfl⟩)
  refine aw_ret ?_
  simp only [go_sem, ↓reduceIte, Nat.reduceEqDiff, reduceCtorEq, Nat.reduceAdd, Nat.reduceMul, Nat.reduceLeDiff, aLoad, aStore, FnQ, resA]
  -- .ret
  exact fun _ => ⟨by first | rfl | trivial, by first | exact fun _ _ => rfl | trivial, by first | rfl | trivial, by first | rfl | trivial⟩
theorem fn84t (L : Loops) (n a b : Int) (s : Me) (h : a ≤ n ∧ n ≤ b) : FnL Try.prog L 84 [vI n, vI a, vI b] s fun r s' => r = vB true ∧ s' = s :=
  FnL.mono (fn84 L n a b s) fun r s' ⟨h1, h2⟩ => ⟨by rw [h1, decide_eq_true (show n ≥ a from h.1), decide_eq_true h.2]; rfl, h2⟩
end Go.Am.Seat
/-
  MADE BY PROGRAM (am.py): the walks of functions 106.
-/
namespace Go.Am.Seat
open Go.Proofs
theorem bod106 : Try.f106.body = some (Try.f106.body.getD .skip) := rfl
theorem fn106 (L : Loops) (n : Int) (s : Me) (hn : 32 ≤ n ∧ n ≤ 126 ∧ n ≠ 39) : FnL Try.prog L 106 [.av (.sc (.int .i32 n))] s fun r s' => (r = vB false) ∧ s' = s := by
  refine FnL.pure (R := fun r => r = vB false) ?_
  refine fn_of_body (ts := [2]) Try.func106 bod106 rfl (by simp) (by simp [Try.ntmps106]) fun D0 => ?_
  unfold Try.f106
  simp only [Option.getD_some, initSl]
  refine aw_region_seq C (pb := false) rfl fun K hK => ?_
  repeat' (first | refine wy0 (h := ?_) | fail)
  refine awOps_nil (hK _ _ ?_)
  clear hK K
  refine aw_region_seq C (pb := false) rfl fun K hK => ?_
  repeat' (first | refine wy1 (a := by simp only [go_sem, ↓reduceIte, Nat.reduceEqDiff, reduceCtorEq, Nat.reduceAdd, Nat.reduceMul, Nat.reduceLeDiff, aLoad, aStore, show decide (n < 32) = false from decide_eq_false (by omega), show decide (n > 126) = false from decide_eq_false (by omega), show (n == 39) = false from beq_eq_false_iff_ne.2 hn.2.2]; exact rfl) (h := ?_) | refine wn (h := ?_) | fail)
  refine awOps_nil (hK _ _ ?_)
  clear hK K
  refine aw_ret ?_
  simp only [go_sem, ↓reduceIte, Nat.reduceEqDiff, reduceCtorEq, Nat.reduceAdd, Nat.reduceMul, Nat.reduceLeDiff, aLoad, aStore, FnQ, resA]
  -- .ret
  exact fun _ => ⟨by first | rfl | trivial, by first | exact fun _ _ => rfl | trivial, by first | rfl | trivial, by first | rfl | trivial⟩
end Go.Am.Seat
/-
  MADE BY PROGRAM (am.py): the walks of functions 109.
-/
namespace Go.Am.Seat
open Go.Proofs

def arrR (l : List Int) : List Av := l.map fun n => .sc (.int .i32 n)
theorem ix120 {id n i : Nat} (hi : i < n) : aIndex T 120 (.av (.own id 0 n 1)) (vI (i : Int)) = some (.av (.ptr id i)) := by
  unfold aIndex
  simp only [T120, Option.bind_some, y120, T21, y21]
  rw [if_pos ⟨trivial, by omega, by omega⟩]
  simp
theorem ldR {ob : Nat → Obj} {id i fz : Nat} {l : List Int} (h : ob id = .cs (arrR l) fz) (hi : i < l.length) : aLoad T ob 21 (.av (.ptr id i)) = some (.av (.sc (.int .i32 l[i]))) := by
  rw [ldA h]
  simp only [T21, Option.bind_some, y21]
  rw [if_pos (by simp [arrR]; omega), List.drop_eq_getElem_cons (by simp [arrR]; exact hi)]
  simp [unflat, isAggD, arrR]

theorem bod109 : Try.f109.body = some (Try.f109.body.getD .skip) := rfl
theorem fn109 (L : Loops) (l : List Int) (id : Nat) (s : Me) (hid : id < s.nx) (ho : s.ob id = .cs (arrR l) 0) (hl : l.length ≤ 1000000000) (hf : ∀ n ∈ l, 32 ≤ n ∧ n ≤ 126 ∧ n ≠ 39) : FnL Try.prog L 109 [.av (.own id 0 l.length 1), .av (.fn 106 [] [])] s fun r s' => (r = vI (-1)) ∧ s' = s := by
  refine FnL.pure (R := fun r => r = vI (-1)) ?_
  refine fn_of_body (ts := [4]) Try.func109 bod109 rfl (by simp) (by simp [Try.ntmps109]) fun D0 => ?_
  unfold Try.f109
  simp only [Option.getD_some, initSl]
  refine aw_region_seq C (pb := false) rfl fun K hK => ?_
  repeat' (first | refine wy0 (h := ?_) | fail)
  refine awOps_nil (hK _ _ ?_)
  clear hK K
  refine aw_seq ?_
  refine aw_region_seq C (pb := false) rfl fun K hK => ?_
  repeat' (first | refine wy1 (a := by simp only [go_sem, ↓reduceIte, Nat.reduceEqDiff, reduceCtorEq, Nat.reduceAdd, Nat.reduceMul, Nat.reduceLeDiff, aLoad, aStore, aLen]; exact rfl) (h := ?_) | fail)
  refine awOps_nil (hK _ _ ?_)
  clear hK K
  refine aw_block ?_
  refine AW.less (sl' := [(0, .av (.own id 0 l.length 1)), (1, .av (.fn 106 [] [])), (7, vI l.length), (8, vI (0))]) (AllIn.less ⟨rfl, rfl, rfl, rfl, trivial⟩) (aw_loop (fun k sl1 s1 => ∃ (i : Nat), k = l.length - i ∧ sl1 = [(0, .av (.own id 0 l.length 1)), (1, .av (.fn 106 [] [])), (7, vI l.length), (8, vI (i))] ∧ (Kp s s1) ∧ (i ≤ l.length)) (k := l.length - (0)) ⟨0, rfl, rfl, (Kp.refl s).up (by omega), Nat.zero_le _⟩ ?_)
  rintro k1 _ s1 ⟨i, hk1, rfl, hs1, hb⟩
  refine aw_region_seq C (pb := false) rfl fun K hK => ?_
  repeat' (first | refine wy0 (h := ?_) | fail)
  refine awOps_nil (hK _ _ ?_)
  clear hK K
  refine aw_seq ?_
  refine aw_cond (by rfl) ?_ ?_
  · intro hc0
    try simp only [decide_eq_true_eq, decide_eq_false_iff_not] at hc0
    have hi2 : i < l.length := by omega
    have hc := (hs1.2.1 id hid).trans ho
    refine aw_skip ?_
    simp only [thenA_normal, thenA_ret, thenA_exit, blockA_normal, blockA_ret, blockA_exit, ↓reduceIte, Nat.reduceEqDiff]
    refine aw_seq ?_
    refine aw_block ?_
    refine aw_region_seq C (pb := false) rfl fun K hK => ?_
    repeat' (first | refine wy0 (h := ?_) | fail)
    refine awOps_nil (hK _ _ ?_)
    clear hK K
    refine aw_region_seq C (pb := false) rfl fun K hK => ?_
    repeat' (first | refine wy1 (a := by simp only [go_sem, ↓reduceIte, Nat.reduceEqDiff, reduceCtorEq, Nat.reduceAdd, Nat.reduceMul, Nat.reduceLeDiff, ix120 hi2, ldR hc hi2]; exact rfl) (h := ?_) | fail)
    refine wc (And.intro Try.call106 (fn106 L l[i] _ (hf _ (List.getElem_mem hi2)))) ?_
    rintro _ _ ⟨rfl, rfl⟩
    refine awOps_nil (hK _ _ ?_)
    clear hK K
    refine aw_cond (by rfl) ?_ ?_
    · intro hc1
      cases hc1
    · intro hc1
      refine aw_skip ?_
      simp only [thenA_normal, thenA_ret, thenA_exit, blockA_normal, blockA_ret, blockA_exit, ↓reduceIte, Nat.reduceEqDiff]
      refine aw_region C (pb := false) rfl ?_
      repeat' (first | refine wy1 (a := by simp only [go_sem, ↓reduceIte, Nat.reduceEqDiff, reduceCtorEq, Nat.reduceAdd, Nat.reduceMul, Nat.reduceLeDiff, aLoad, aStore, wrap_small ((i : Int) + 1) (by omega) (by omega)]; exact rfl) (h := ?_) | fail)
      refine awOps_nil ?_
      try simp only [thenA_normal, thenA_ret, thenA_exit, blockA_normal, blockA_ret, blockA_exit]
      -- end of round 0 at 0t1f
      refine ⟨l.length - (i + 1), [(0, .av (.own id 0 l.length 1)), (1, .av (.fn 106 [] [])), (7, vI l.length), (8, vI (i + 1))], by omega, AllIn.less ⟨rfl, rfl, rfl, rfl, trivial⟩, i + 1, rfl, rfl, ?_, ?_⟩
      · exact hs1.up (by omega)
      · omega
  · intro hc0
    try simp only [decide_eq_true_eq, decide_eq_false_iff_not] at hc0
    refine aw_exit ?_
    simp only [thenA_normal, thenA_ret, thenA_exit, blockA_normal, blockA_ret, blockA_exit, ↓reduceIte, Nat.reduceEqDiff]
    refine aw_region_seq C (pb := false) rfl fun K hK => ?_
    repeat' (first | refine wy0 (h := ?_) | fail)
    refine awOps_nil (hK _ _ ?_)
    clear hK K
    refine aw_ret ?_
    simp only [go_sem, ↓reduceIte, Nat.reduceEqDiff, reduceCtorEq, Nat.reduceAdd, Nat.reduceMul, Nat.reduceLeDiff, aLoad, aStore, FnQ, resA]
    -- 0f.x0.ret
    exact fun _ => ⟨by first | rfl | trivial, hs1.2.1, hs1.2.2, by first | rfl | trivial⟩
end Go.Am.Seat
/-
  MADE BY PROGRAM (am.py): the walks of functions 107.
-/
namespace Go.Am.Seat
open Go.Proofs
theorem bod107 : Try.f107.body = some (Try.f107.body.getD .skip) := rfl
theorem fn107 (L : Loops) (l : List Int) (id : Nat) (s : Me) (hid : id < s.nx) (ho : s.ob id = .cs (arrR l) 0) (hl : l.length ≤ 1000000000) (hf : ∀ n ∈ l, 32 ≤ n ∧ n ≤ 126 ∧ n ≠ 39) : FnL Try.prog L 107 [.av (.own id 0 l.length 1), .av (.fn 106 [] [])] s fun r s' => (r = vB false) ∧ s' = s := by
  refine FnL.pure (R := fun r => r = vB false) ?_
  refine fn_of_body (ts := [4]) Try.func107 bod107 rfl (by simp) (by simp [Try.ntmps107]) fun D0 => ?_
  unfold Try.f107
  simp only [Option.getD_some, initSl]
  refine aw_region_seq C (pb := false) rfl fun K hK => ?_
  repeat' (first | refine wy0 (h := ?_) | fail)
  refine awOps_nil (hK _ _ ?_)
  clear hK K
  refine aw_region_seq C (pb := false) rfl fun K hK => ?_
  repeat' (first | refine wy0 (h := ?_) | fail)
  (refine wc (And.intro Try.call109 (fn109 L l id _ (by first | omega | (dsimp only; omega) | (dsimp only at *; omega)) ho hl hf)) ?_; rintro _ _ ⟨rfl, rfl⟩)
  repeat' (first | refine wy0 (h := ?_) | fail)
  refine awOps_nil (hK _ _ ?_)
  clear hK K
  refine aw_ret ?_
  simp only [go_sem, ↓reduceIte, Nat.reduceEqDiff, reduceCtorEq, Nat.reduceAdd, Nat.reduceMul, Nat.reduceLeDiff, aLoad, aStore, FnQ, resA]
  -- .ret
  exact fun _ => ⟨by first | rfl | trivial, by first | exact fun _ _ => rfl | trivial, by first | rfl | trivial, by first | rfl | trivial⟩
end Go.Am.Seat
/-
  MADE BY PROGRAM (am.py): the walks of functions 99.
-/
namespace Go.Am.Seat
open Go.Proofs

theorem rn120 {ob : Nat → Obj} {nid : Nat} {s : ByteArray} (h : s.size ≤ 1000000) : aRunes T ob nid 9 120 (.av (.sc (.str s))) = some (.av (.own nid 0 (runesL s s.size 0).length 1), upd ob nid (.cs (arrR (runesL s s.size 0)) 0)) := by
  unfold aRunes
  simp only [T9, T120, Option.bind_some, y9, y120, T21, y21]
  rw [if_pos ⟨by omega, trivial⟩]
  rfl
theorem runes_fine {s : ByteArray} (h : ∀ b ∈ s.data.toList, 32 ≤ b.toNat ∧ b.toNat ≤ 126 ∧ b.toNat ≠ 39) : ∀ (b i : Nat), ∀ n ∈ runesL s b i, 32 ≤ n ∧ n ≤ 126 ∧ n ≠ 39
  | 0, i, n, hn => by simp [runesL] at hn
  | b + 1, i, n, hn => by
    unfold runesL at hn
    split at hn
    · rename_i hi
      have hi' : i < s.data.size := hi
      have hb := h s.data[i] (by simp)
      have hd : Utf8.decode s i = (s.data[i].toNat, 1) := by
        have hg : (s.get! (i + 0)).toNat = s.data[i].toNat := by
          show (s.data[i + 0]!).toNat = _
          rw [Nat.add_zero, getElem!_pos s.data i hi']
        unfold Utf8.decode
        simp only [hg]
        rw [if_pos (by omega)]
      rw [hd] at hn
      rcases List.mem_cons.1 hn with rfl | hn
      · dsimp only; omega
      · exact runes_fine h b _ n hn
    · simp at hn

theorem bod99 : Try.f99.body = some (Try.f99.body.getD .skip) := rfl
theorem fn99a (L : Loops) (n : Int) (s : Me) (hn : 0 ≤ n ∧ n ≤ 999) : FnL Try.prog L 99 [.agg [.sc (.int .i64 1), .sc (.str ⟨#[]⟩), .sc (.int .i64 n)]] s fun r s' => (r = vB true) ∧ s' = s := by
  refine FnL.pure (R := fun r => r = vB true) ?_
  refine fn_of_body (ts := [2]) Try.func99 bod99 rfl (by simp) (by simp [Try.ntmps99]) fun D0 => ?_
  unfold Try.f99
  simp only [Option.getD_some, initSl]
  refine aw_region_seq C (pb := false) rfl fun K hK => ?_
  repeat' (first | refine wy0 (h := ?_) | fail)
  refine awOps_nil (hK _ _ ?_)
  clear hK K
  refine aw_seq ?_
  refine aw_region_seq C (pb := false) rfl fun K hK => ?_
  repeat' (first | refine wy1 (a := by simp only [go_sem, ↓reduceIte, Nat.reduceEqDiff, reduceCtorEq, Nat.reduceAdd, Nat.reduceMul, Nat.reduceLeDiff, aLoad, aStore, upd_same]; exact rfl) (h := ?_) | fail)
  refine awOps_nil (hK _ _ ?_)
  clear hK K
  refine aw_block ?_
  refine aw_region_seq C (pb := false) rfl fun K hK => ?_
  repeat' (first | refine wy0 (h := ?_) | fail)
  refine awOps_nil (hK _ _ ?_)
  clear hK K
  refine aw_cond (by rfl) ?_ ?_
  · intro hc0
    refine aw_region_seq C (pb := false) rfl fun K hK => ?_
    repeat' (first | refine wy1 (a := by simp only [go_sem, ↓reduceIte, Nat.reduceEqDiff, reduceCtorEq, Nat.reduceAdd, Nat.reduceMul, Nat.reduceLeDiff, aLoad, aStore, upd_same, pl41, aEq, eqCells, eqSc, beq_self_eq_true, Bool.and_true, zeroA, C, E]; exact rfl) (h := ?_) | refine wn (h := ?_) | fail)
    try (first | (refine wc (And.intro Try.call84 (fn84t L n 0 999 _ hn)) ?_; rintro _ _ ⟨rfl, rfl⟩) | refine wn (h := ?_) | fail)
    repeat' (first | refine wy1 (a := by simp only [go_sem, ↓reduceIte, Nat.reduceEqDiff, reduceCtorEq, Nat.reduceAdd, Nat.reduceMul, Nat.reduceLeDiff, aLoad, aStore, upd_same, pl41, aEq, eqCells, eqSc, beq_self_eq_true, Bool.and_true, zeroA, C, E]; exact rfl) (h := ?_) | fail)
    refine awOps_nil (hK _ _ ?_)
    clear hK K
    refine aw_ret ?_
    try simp only [thenA_normal, thenA_ret, thenA_exit, blockA_normal, blockA_ret, blockA_exit]
    simp only [go_sem, ↓reduceIte, Nat.reduceEqDiff, reduceCtorEq, Nat.reduceAdd, Nat.reduceMul, Nat.reduceLeDiff, aLoad, aStore, FnQ, resA]
    -- 0t.ret
    exact fun _ => ⟨by first | rfl | trivial, fun i hi => by first | rfl | exact upd_ne _ _ (by omega) | exact (upd_ne _ _ (by omega)).trans (upd_ne _ _ (by omega)), by first | rfl | trivial, by first | rfl | trivial⟩
  · intro hc0
    exact absurd hc0 (by decide)
theorem fn99b (L : Loops) (n : Int) (s : Me) (hn : -2147483647 ≤ n ∧ n ≤ 2147483647) : FnL Try.prog L 99 [.agg [.sc (.int .i64 2), .sc (.str ⟨#[]⟩), .sc (.int .i64 n)]] s fun r s' => (r = vB true) ∧ s' = s := by
  refine FnL.pure (R := fun r => r = vB true) ?_
  refine fn_of_body (ts := [2]) Try.func99 bod99 rfl (by simp) (by simp [Try.ntmps99]) fun D0 => ?_
  unfold Try.f99
  simp only [Option.getD_some, initSl]
  refine aw_region_seq C (pb := false) rfl fun K hK => ?_
  repeat' (first | refine wy0 (h := ?_) | fail)
  refine awOps_nil (hK _ _ ?_)
  clear hK K
  refine aw_seq ?_
  refine aw_region_seq C (pb := false) rfl fun K hK => ?_
  repeat' (first | refine wy1 (a := by simp only [go_sem, ↓reduceIte, Nat.reduceEqDiff, reduceCtorEq, Nat.reduceAdd, Nat.reduceMul, Nat.reduceLeDiff, aLoad, aStore, upd_same]; exact rfl) (h := ?_) | fail)
  refine awOps_nil (hK _ _ ?_)
  clear hK K
  refine aw_block ?_
  refine aw_region_seq C (pb := false) rfl fun K hK => ?_
  repeat' (first | refine wy0 (h := ?_) | fail)
  refine awOps_nil (hK _ _ ?_)
  clear hK K
  refine aw_cond (by rfl) ?_ ?_
  · intro hc0
    exact absurd hc0 (by decide)
  · intro hc0
    refine aw_region_seq C (pb := false) rfl fun K hK => ?_
    repeat' (first | refine wy0 (h := ?_) | fail)
    refine awOps_nil (hK _ _ ?_)
    clear hK K
    refine aw_cond (by rfl) ?_ ?_
    · intro hc1
      refine aw_region_seq C (pb := false) rfl fun K hK => ?_
      repeat' (first | refine wy1 (a := by simp only [go_sem, ↓reduceIte, Nat.reduceEqDiff, reduceCtorEq, Nat.reduceAdd, Nat.reduceMul, Nat.reduceLeDiff, aLoad, aStore, upd_same, pl41, aEq, eqCells, eqSc, beq_self_eq_true, Bool.and_true, zeroA, C, E]; exact rfl) (h := ?_) | refine wn (h := ?_) | fail)
      try (first | (refine wc (And.intro Try.call84 (fn84t L n (-2147483647) 2147483647 _ hn)) ?_; rintro _ _ ⟨rfl, rfl⟩) | refine wn (h := ?_) | fail)
      repeat' (first | refine wy1 (a := by simp only [go_sem, ↓reduceIte, Nat.reduceEqDiff, reduceCtorEq, Nat.reduceAdd, Nat.reduceMul, Nat.reduceLeDiff, aLoad, aStore, upd_same, pl41, aEq, eqCells, eqSc, beq_self_eq_true, Bool.and_true, zeroA, C, E]; exact rfl) (h := ?_) | fail)
      refine awOps_nil (hK _ _ ?_)
      clear hK K
      refine aw_ret ?_
      try simp only [thenA_normal, thenA_ret, thenA_exit, blockA_normal, blockA_ret, blockA_exit]
      simp only [go_sem, ↓reduceIte, Nat.reduceEqDiff, reduceCtorEq, Nat.reduceAdd, Nat.reduceMul, Nat.reduceLeDiff, aLoad, aStore, FnQ, resA]
      -- 0f1t.ret
      exact fun _ => ⟨by first | rfl | trivial, fun i hi => by first | rfl | exact upd_ne _ _ (by omega) | exact (upd_ne _ _ (by omega)).trans (upd_ne _ _ (by omega)), by first | rfl | trivial, by first | rfl | trivial⟩
    · intro hc1
      exact absurd hc1 (by decide)
theorem fn99c (L : Loops) (n : Int) (nm : ByteArray) (s : Me) (hn : 0 ≤ n ∧ n ≤ 6) (hs : 1 ≤ nm.size ∧ nm.size ≤ 12) (hb : ∀ b ∈ nm.data.toList, 32 ≤ b.toNat ∧ b.toNat ≤ 126 ∧ b.toNat ≠ 39) : FnL Try.prog L 99 [.agg [.sc (.int .i64 3), .sc (.str nm), .sc (.int .i64 n)]] s fun r s' => (r = vB true) ∧ s' = s := by
  refine FnL.pure (R := fun r => r = vB true) ?_
  refine fn_of_body (ts := [2]) Try.func99 bod99 rfl (by simp) (by simp [Try.ntmps99]) fun D0 => ?_
  unfold Try.f99
  simp only [Option.getD_some, initSl]
  refine aw_region_seq C (pb := false) rfl fun K hK => ?_
  repeat' (first | refine wy0 (h := ?_) | fail)
  refine awOps_nil (hK _ _ ?_)
  clear hK K
  refine aw_seq ?_
  refine aw_region_seq C (pb := false) rfl fun K hK => ?_
  repeat' (first | refine wy1 (a := by simp only [go_sem, ↓reduceIte, Nat.reduceEqDiff, reduceCtorEq, Nat.reduceAdd, Nat.reduceMul, Nat.reduceLeDiff, aLoad, aStore, upd_same]; exact rfl) (h := ?_) | fail)
  refine awOps_nil (hK _ _ ?_)
  clear hK K
  refine aw_block ?_
  refine aw_region_seq C (pb := false) rfl fun K hK => ?_
  repeat' (first | refine wy0 (h := ?_) | fail)
  refine awOps_nil (hK _ _ ?_)
  clear hK K
  refine aw_cond (by rfl) ?_ ?_
  · intro hc0
    exact absurd hc0 (by decide)
  · intro hc0
    refine aw_region_seq C (pb := false) rfl fun K hK => ?_
    repeat' (first | refine wy0 (h := ?_) | fail)
    refine awOps_nil (hK _ _ ?_)
    clear hK K
    refine aw_cond (by rfl) ?_ ?_
    · intro hc1
      exact absurd hc1 (by decide)
    · intro hc1
      refine aw_region_seq C (pb := false) rfl fun K hK => ?_
      repeat' (first | refine wy0 (h := ?_) | fail)
      refine awOps_nil (hK _ _ ?_)
      clear hK K
      refine aw_cond (by rfl) ?_ ?_
      · intro hc2
        refine aw_region_seq C (pb := false) rfl fun K hK => ?_
        repeat' (first | refine wy0 (h := ?_) | fail)
        refine awOps_nil (hK _ _ ?_)
        clear hK K
        refine aw_region_seq C (pb := false) rfl fun K hK => ?_
        repeat' (first | refine wy1 (a := by simp (disch := omega) only [go_sem, ↓reduceIte, Nat.reduceEqDiff, reduceCtorEq, Nat.reduceAdd, Nat.reduceMul, Nat.reduceLeDiff, aLoad, aStore, upd_same, lenS, rn120 (show nm.size ≤ 1000000 by omega), upd_ne]; exact rfl) (h := ?_) | fail)
        (refine wc (And.intro Try.call84 (fn84t L n 0 6 _ hn)) ?_; rintro _ _ ⟨rfl, rfl⟩)
        repeat' (first | refine wy1 (a := by simp (disch := omega) only [go_sem, ↓reduceIte, Nat.reduceEqDiff, reduceCtorEq, Nat.reduceAdd, Nat.reduceMul, Nat.reduceLeDiff, aLoad, aStore, upd_same, lenS, rn120 (show nm.size ≤ 1000000 by omega), upd_ne]; exact rfl) (h := ?_) | refine wn (h := ?_) | fail)
        try (first | (refine wc (And.intro Try.call84 (fn84t L (nm.size : Int) 1 12 _ (by omega))) ?_; rintro _ _ ⟨rfl, rfl⟩) | refine wn (h := ?_) | fail)
        repeat' (first | refine wy1 (a := by simp (disch := omega) only [go_sem, ↓reduceIte, Nat.reduceEqDiff, reduceCtorEq, Nat.reduceAdd, Nat.reduceMul, Nat.reduceLeDiff, aLoad, aStore, upd_same, lenS, rn120 (show nm.size ≤ 1000000 by omega), upd_ne]; exact rfl) (h := ?_) | refine wn (h := ?_) | fail)
        try (first | (refine wc (And.intro Try.call107 (fn107 L (runesL nm nm.size 0) _ _ (by first | omega | (dsimp only; omega) | (dsimp only at *; omega)) (upd_same _ _ _) (by have := runesL_len nm nm.size 0; omega) (runes_fine hb _ _))) ?_; rintro _ _ ⟨rfl, rfl⟩) | refine wn (h := ?_) | fail)
        repeat' (first | refine wy1 (a := by simp (disch := omega) only [go_sem, ↓reduceIte, Nat.reduceEqDiff, reduceCtorEq, Nat.reduceAdd, Nat.reduceMul, Nat.reduceLeDiff, aLoad, aStore, upd_same, lenS, rn120 (show nm.size ≤ 1000000 by omega), upd_ne]; exact rfl) (h := ?_) | refine wn (h := ?_) | fail)
        refine awOps_nil (hK _ _ ?_)
        clear hK K
        refine aw_ret ?_
        try simp only [thenA_normal, thenA_ret, thenA_exit, blockA_normal, blockA_ret, blockA_exit]
        simp only [go_sem, ↓reduceIte, Nat.reduceEqDiff, reduceCtorEq, Nat.reduceAdd, Nat.reduceMul, Nat.reduceLeDiff, aLoad, aStore, FnQ, resA]
        -- 0f1f2t.ret
        exact fun _ => ⟨by first | rfl | trivial, fun i hi => by first | rfl | exact upd_ne _ _ (by omega) | exact (upd_ne _ _ (by omega)).trans (upd_ne _ _ (by omega)), by first | rfl | trivial, by first | rfl | trivial⟩
      · intro hc2
        exact absurd hc2 (by decide)
theorem name_nil {s : ByteArray} (h : (s.toList == noName.toList) = true) : s = ⟨#[]⟩ := by
  have h1 : (s == noName) = true := by rw [bytes_beq]; exact h
  rw [ba_beq] at h1
  obtain ⟨d⟩ := s
  have h2 : d = #[] := eq_of_beq h1
  rw [h2]
theorem fn99 (L : Loops) (c : Cell) (s : Me) (h : cellOk c = true) : FnL Try.prog L 99 [aggC c] s fun r s' => r = vB true ∧ s' = s := by
  obtain ⟨k, nm, n⟩ := c
  unfold cellOk at h
  dsimp only at h
  split at h
  · rename_i hk
    subst hk
    simp only [Bool.and_eq_true, decide_eq_true_eq] at h
    obtain rfl := name_nil h.1.1
    exact fn99a L n s ⟨h.1.2, h.2⟩
  split at h
  · rename_i hk
    subst hk
    simp only [Bool.and_eq_true, decide_eq_true_eq] at h
    obtain rfl := name_nil h.1.1
    exact fn99b L n s ⟨h.1.2, h.2⟩
  split at h
  · rename_i hk
    subst hk
    simp only [nameOk, Bool.and_eq_true, decide_eq_true_eq, List.all_eq_true, byteOk] at h
    exact fn99c L n nm s ⟨h.1.2, h.2⟩ h.1.1.2 fun b hb => by have := h.1.1.1 b hb; omega
  · cases h
end Go.Am.Seat
/-
  MADE BY PROGRAM (am.py): the walks of functions 98.
-/
namespace Go.Am.Seat
open Go.Proofs

def Of98 (t : List Cell) (x : Sc) (F : Nat) : Prop := ∀ (L : Loops) (s : Me) (bt bv at_ kk : Nat), s.ob bt = .cs [.sc x] 0 → s.ob bv = .cs [.fn 98 [] [.ptr bt 0, .ptr bv 0]] 0 → bt < s.nx → bv < s.nx → kk ≤ F → takes (t.drop at_) 1 = some kk →
  FnL Try.prog L 98 [vI (at_ : Nat), .av (.ptr bt 0), .av (.ptr bv 0)] s fun r s' => r = vI ((at_ + kk : Nat) : Int) ∧ s' = s

-- many steps
theorem bod98 : Try.f98.body = some (Try.f98.body.getD .skip) := rfl
set_option maxHeartbeats 1000000 in
theorem fn98s (L : Loops) (F at_ kk bt bv : Nat) (t : List Cell) (s : Me) (x : Sc) (hx : GSl encC x t) (hl : t.length ≤ 1000000) (hok : ∀ c ∈ t, cellOk c = true) (ih : Of98 t x F) (hbt : s.ob bt = .cs [.sc x] 0) (hbv : s.ob bv = .cs [.fn 98 [] [.ptr bt 0, .ptr bv 0]] 0) (hn1 : bt < s.nx) (hn2 : bv < s.nx) (hkF : kk ≤ F + 1) (hk : takes (t.drop at_) 1 = some kk) : FnL Try.prog L 98 [vI (at_ : Nat), .av (.ptr bt 0), .av (.ptr bv 0)] s fun r s' => (r = vI ((at_ + kk : Nat) : Int)) ∧ s' = s := by
  refine FnL.pure (R := fun r => r = vI ((at_ + kk : Nat) : Int)) ?_
  have hat : at_ < t.length := by
    rcases Nat.lt_or_ge at_ t.length with h | h
    · exact h
    · rw [List.drop_of_length_le h] at hk; exact (takes_nil (by omega) hk).elim
  have hco := hok t[at_] (List.getElem_mem hat)
  have hk1 := hk
  rw [List.drop_eq_getElem_cons hat] at hk1
  obtain ⟨p0, hkp, hp0⟩ := takes_cons (by omega) hk1
  refine fn_of_body (ts := [4]) Try.func98 bod98 rfl (by simp) (by simp [Try.ntmps98]) fun D0 => ?_
  unfold Try.f98
  simp only [Option.getD_some, initSl]
  refine aw_region_seq C (pb := false) rfl fun K hK => ?_
  repeat' (first | refine wy0 (h := ?_) | fail)
  refine awOps_nil (hK _ _ ?_)
  clear hK K
  refine aw_seq ?_
  refine aw_region_seq C (pb := false) rfl fun K hK => ?_
  repeat' (first | refine wy1 (a := by simp only [go_sem, ↓reduceIte, Nat.reduceEqDiff, reduceCtorEq, Nat.reduceAdd, Nat.reduceMul, Nat.reduceLeDiff, aLoad, aStore, hbt, lenC hx, show decide ((at_ : Int) ≥ (t.length : Int)) = false from decide_eq_false (by omega), idxC hx hat]; exact rfl) (h := ?_) | refine wn (h := ?_) | fail)
  try (first | (refine wc (And.intro Try.call99 (fn99 L t[at_] _ hco)) ?_; rintro _ _ ⟨rfl, rfl⟩) | refine wn (h := ?_) | fail)
  repeat' (first | refine wy1 (a := by simp only [go_sem, ↓reduceIte, Nat.reduceEqDiff, reduceCtorEq, Nat.reduceAdd, Nat.reduceMul, Nat.reduceLeDiff, aLoad, aStore, hbt, lenC hx, show decide ((at_ : Int) ≥ (t.length : Int)) = false from decide_eq_false (by omega), idxC hx hat]; exact rfl) (h := ?_) | refine wn (h := ?_) | fail)
  refine awOps_nil (hK _ _ ?_)
  clear hK K
  refine aw_cond (by rfl) ?_ ?_
  · intro hc0
    cases hc0
  · intro hc0
    refine aw_skip ?_
    simp only [thenA_normal, thenA_ret, thenA_exit, blockA_normal, blockA_ret, blockA_exit, ↓reduceIte, Nat.reduceEqDiff]
    refine aw_region_seq C (pb := false) rfl fun K hK => ?_
    repeat' (first | refine wy1 (a := by simp only [go_sem, ↓reduceIte, Nat.reduceEqDiff, reduceCtorEq, Nat.reduceAdd, Nat.reduceMul, Nat.reduceLeDiff, aLoad, aStore, wrap_small ((at_ : Int) + 1) (by omega) (by omega)]; exact rfl) (h := ?_) | fail)
    refine awOps_nil (hK _ _ ?_)
    clear hK K
    refine aw_seq ?_
    refine aw_region_seq C (pb := false) rfl fun K hK => ?_
    repeat' (first | refine wy1 (a := by simp only [go_sem, ↓reduceIte, Nat.reduceEqDiff, reduceCtorEq, Nat.reduceAdd, Nat.reduceMul, Nat.reduceLeDiff, aLoad, aStore, hbt, idxC hx hat]; exact rfl) (h := ?_) | fail)
    refine awOps_nil (hK _ _ ?_)
    clear hK K
    refine aw_cond (by rfl) ?_ ?_
    · intro hc1
      try simp only [bne_iff_ne, ne_eq, bne_eq_false_iff_eq] at hc1
      rw [show 1 - 1 + arC t[at_] = 0 by rw [arC, if_neg hc1]] at hp0
      have hp00 := takes_zero hp0
      refine aw_region_seq C (pb := false) rfl fun K hK => ?_
      repeat' (first | refine wy0 (h := ?_) | fail)
      refine awOps_nil (hK _ _ ?_)
      clear hK K
      refine aw_ret ?_
      try simp only [thenA_normal, thenA_ret, thenA_exit, blockA_normal, blockA_ret, blockA_exit]
      simp only [go_sem, ↓reduceIte, Nat.reduceEqDiff, reduceCtorEq, Nat.reduceAdd, Nat.reduceMul, Nat.reduceLeDiff, aLoad, aStore, FnQ, resA]
      -- 0f1t.ret
      exact fun _ => ⟨by first | rfl | trivial, by first | exact fun _ _ => rfl | trivial, by first | rfl | trivial, by rw [hkp, hp00]; rfl⟩
    · intro hc1
      try simp only [bne_iff_ne, ne_eq, bne_eq_false_iff_eq] at hc1
      have hn0 := cellOk_n hco hc1
      rw [show 1 - 1 + arC t[at_] = t[at_].n.toNat by rw [arC, if_pos hc1]; omega] at hp0
      refine aw_skip ?_
      simp only [thenA_normal, thenA_ret, thenA_exit, blockA_normal, blockA_ret, blockA_exit, ↓reduceIte, Nat.reduceEqDiff]
      refine aw_seq ?_
      refine aw_region_seq C (pb := false) rfl fun K hK => ?_
      repeat' (first | refine wy1 (a := by simp only [go_sem, ↓reduceIte, Nat.reduceEqDiff, reduceCtorEq, Nat.reduceAdd, Nat.reduceMul, Nat.reduceLeDiff, aLoad, aStore, hbt, idxC hx hat]; exact rfl) (h := ?_) | fail)
      refine awOps_nil (hK _ _ ?_)
      clear hK K
      refine aw_block ?_
      refine AW.less (sl' := [(0, vI (at_ : Nat)), (1, .av (.ptr bt 0)), (2, .av (.ptr bv 0)), (5, vI (at_ + 1)), (31, vI t[at_].n), (32, vI (0))]) (AllIn.less ⟨rfl, rfl, rfl, rfl, rfl, rfl, trivial⟩) (aw_loop (fun k sl1 s1 => ∃ (i : Nat) (to : Nat) (q : Nat) (m : Nat), k = m ∧ sl1 = [(0, vI (at_ : Nat)), (1, .av (.ptr bt 0)), (2, .av (.ptr bv 0)), (5, vI (to)), (31, vI t[at_].n), (32, vI (i))] ∧ (Kp s s1) ∧ ((i : Int) + m = t[at_].n ∧ to + q = at_ + kk ∧ 1 ≤ to ∧ q ≤ F) ∧ (takes (t.drop to) m = some q)) (k := (t[at_].n.toNat)) ⟨0, at_ + 1, p0, t[at_].n.toNat, rfl, rfl, (Kp.refl s).up (by omega), by omega, hp0⟩ ?_)
      rintro k1 _ s1 ⟨i, to, q, m, hk1, rfl, hs1, hb, hq⟩
      refine aw_region_seq C (pb := false) rfl fun K hK => ?_
      repeat' (first | refine wy0 (h := ?_) | fail)
      refine awOps_nil (hK _ _ ?_)
      clear hK K
      refine aw_seq ?_
      refine aw_cond (by rfl) ?_ ?_
      · intro hc2
        try simp only [decide_eq_true_eq, decide_eq_false_iff_not] at hc2
        have hm : 0 < m := by omega
        obtain ⟨p, hp, hpq0, hpq1⟩ := takes_add (a := 1) (b := m - 1) (by rw [show 1 + (m - 1) = m by omega]; exact hq)
        have hpq : takes (t.drop (to + p)) (m - 1) = some (q - p) := by rw [← List.drop_drop]; exact hpq1
        refine aw_skip ?_
        simp only [thenA_normal, thenA_ret, thenA_exit, blockA_normal, blockA_ret, blockA_exit, ↓reduceIte, Nat.reduceEqDiff]
        refine aw_seq ?_
        refine aw_block ?_
        refine aw_region_seq C (pb := false) rfl fun K hK => ?_
        repeat' (first | refine wy1 (a := by simp only [go_sem, ↓reduceIte, Nat.reduceEqDiff, reduceCtorEq, Nat.reduceAdd, Nat.reduceMul, Nat.reduceLeDiff, aLoad, aStore, (hs1.2.1 _ hn2).trans hbv]; exact rfl) (h := ?_) | fail)
        refine wc (And.intro Try.call98 (ih L _ bt bv to p ((hs1.2.1 _ hn1).trans hbt) ((hs1.2.1 _ hn2).trans hbv) (by have := hs1.1; exact (by first | omega | (dsimp only; omega) | (dsimp only at *; omega))) (by have := hs1.1; exact (by first | omega | (dsimp only; omega) | (dsimp only at *; omega))) (by omega) hp)) ?_
        rintro _ _ ⟨rfl, rfl⟩
        repeat' (first | refine wy1 (a := by simp only [go_sem, ↓reduceIte, Nat.reduceEqDiff, reduceCtorEq, Nat.reduceAdd, Nat.reduceMul, Nat.reduceLeDiff, aLoad, aStore, (hs1.2.1 _ hn2).trans hbv]; exact rfl) (h := ?_) | fail)
        refine awOps_nil (hK _ _ ?_)
        clear hK K
        refine aw_region_seq C (pb := false) rfl fun K hK => ?_
        repeat' (first | refine wy0 (h := ?_) | fail)
        refine awOps_nil (hK _ _ ?_)
        clear hK K
        refine aw_cond (by rfl) ?_ ?_
        · intro hc3
          try simp only [beq_iff_eq, beq_eq_false_iff_ne, ne_eq] at hc3
          exact absurd hc3 (by omega)
        · intro hc3
          try simp only [beq_iff_eq, beq_eq_false_iff_ne, ne_eq] at hc3
          refine aw_skip ?_
          simp only [thenA_normal, thenA_ret, thenA_exit, blockA_normal, blockA_ret, blockA_exit, ↓reduceIte, Nat.reduceEqDiff]
          refine aw_region C (pb := false) rfl ?_
          repeat' (first | refine wy1 (a := by simp only [go_sem, ↓reduceIte, Nat.reduceEqDiff, reduceCtorEq, Nat.reduceAdd, Nat.reduceMul, Nat.reduceLeDiff, aLoad, aStore, wrap_small ((i : Int) + 1) (by omega) (by omega)]; exact rfl) (h := ?_) | fail)
          refine awOps_nil ?_
          try simp only [thenA_normal, thenA_ret, thenA_exit, blockA_normal, blockA_ret, blockA_exit]
          -- end of round 0 at 0f1f2t3f
          refine ⟨(m - 1), [(0, vI (at_ : Nat)), (1, .av (.ptr bt 0)), (2, .av (.ptr bv 0)), (5, vI (to + p)), (31, vI t[at_].n), (32, vI (i + 1))], by omega, AllIn.less ⟨rfl, rfl, rfl, rfl, rfl, rfl, trivial⟩, i + 1, to + p, q - p, m - 1, rfl, rfl, ?_, ?_, ?_⟩
          · exact hs1.up (by omega)
          · omega
          · exact hpq
      · intro hc2
        try simp only [decide_eq_true_eq, decide_eq_false_iff_not] at hc2
        refine aw_exit ?_
        simp only [thenA_normal, thenA_ret, thenA_exit, blockA_normal, blockA_ret, blockA_exit, ↓reduceIte, Nat.reduceEqDiff]
        refine aw_region_seq C (pb := false) rfl fun K hK => ?_
        repeat' (first | refine wy0 (h := ?_) | fail)
        refine awOps_nil (hK _ _ ?_)
        clear hK K
        refine aw_ret ?_
        simp only [go_sem, ↓reduceIte, Nat.reduceEqDiff, reduceCtorEq, Nat.reduceAdd, Nat.reduceMul, Nat.reduceLeDiff, aLoad, aStore, FnQ, resA]
        -- 0f1f2f.x0.ret
        have hm : m = 0 := by omega
        subst hm
        have hq0 := takes_zero hq
        exact fun _ => ⟨by first | rfl | trivial, hs1.2.1, hs1.2.2, by rw [show at_ + kk = to by omega]⟩
theorem fn98 {t : List Cell} {x : Sc} (hx : GSl encC x t) (hl : t.length ≤ 1000000) (hok : ∀ c ∈ t, cellOk c = true) : ∀ F, Of98 t x F
  | 0 => fun _ _ _ _ at_ kk _ _ _ _ hF hk => by
    exfalso
    have h0 : kk = 0 := by omega
    subst h0
    rcases Nat.lt_or_ge at_ t.length with h | h
    · rw [List.drop_eq_getElem_cons h] at hk
      obtain ⟨p, hp, _⟩ := takes_cons (by omega) hk
      omega
    · rw [List.drop_of_length_le h] at hk; exact takes_nil (by omega) hk
  | F + 1 => fun L s bt bv at_ kk h1 h2 h3 h4 h5 h6 => fn98s L F at_ kk bt bv t s x hx hl hok (fn98 hx hl hok F) h1 h2 h3 h4 h5 h6
end Go.Am.Seat
/-
  MADE BY PROGRAM (am.py): the walks of functions 85.
-/
namespace Go.Am.Seat
open Go.Proofs
theorem bod85 : Try.f85.body = some (Try.f85.body.getD .skip) := rfl
theorem fn85 (L : Loops) (kk : Nat) (t : List Cell) (s : Me) (x : Sc) (hx : GSl encC x t) (hl : t.length ≤ 1000000) (hok : ∀ c ∈ t, cellOk c = true) (hk : takes t 1 = some kk) : FnL Try.prog L 85 [.av (.sc x), vI 0] s fun r s' => (r = vI (kk : Nat)) ∧ s' = s := by
  refine FnL.pure (R := fun r => r = vI (kk : Nat)) ?_
  refine fn_of_body (ts := [4]) Try.func85 bod85 rfl (by simp) (by simp [Try.ntmps85]) fun D0 => ?_
  unfold Try.f85
  simp only [Option.getD_some, initSl]
  refine aw_region_seq C (pb := false) rfl fun K hK => ?_
  repeat' (first | refine wy0 (h := ?_) | fail)
  refine awOps_nil (hK _ _ ?_)
  clear hK K
  refine aw_region_seq C (pb := false) rfl fun K hK => ?_
  repeat' (first | refine wy0 (h := ?_) | fail)
  refine awOps_nil (hK _ _ ?_)
  clear hK K
  refine aw_region_seq C (pb := false) rfl fun K hK => ?_
  repeat' (first | refine wy1 (a := by simp only [go_sem, ↓reduceIte, Nat.reduceEqDiff, reduceCtorEq, Nat.reduceAdd, Nat.reduceMul, Nat.reduceLeDiff, aLoad, aStore, avs, upd_same, storeL]; exact rfl) (h := ?_) | refine wz1 (a := by simp only [go_sem, ↓reduceIte, Nat.reduceEqDiff, reduceCtorEq, Nat.reduceAdd, Nat.reduceMul, Nat.reduceLeDiff, aLoad, aStore, avs, upd_same, storeL]; exact rfl) (h := ?_) | fail)
  refine awOps_nil (hK _ _ ?_)
  refine AW.less (sl' := [(1, vI 0), (5, .av (.ptr (s.nx + 2) 0))]) (AllIn.less ⟨rfl, rfl, trivial⟩) ?_
  refine aw_state (J := fun s2 => Kp s s2 ∧ s2.ob s.nx = .cs [.sc x] 0 ∧ s2.ob (s.nx + 2) = .cs [.fn 98 [] [.ptr s.nx 0, .ptr (s.nx + 2) 0]] 0 ∧ s.nx + 2 < s2.nx) ⟨⟨(by first | omega | (dsimp only; omega) | (dsimp only at *; omega)), fun j hj => (upd_ne _ _ (by omega)).trans ((upd_ne _ _ (by omega)).trans (upd_ne _ _ (by omega))), rfl⟩, (upd_ne _ _ (by omega)).trans ((upd_ne _ _ (by omega)).trans (upd_same _ _ _)), upd_same _ _ _, (by first | omega | (dsimp only; omega) | (dsimp only at *; omega))⟩ fun s2 hJ2 => ?_
  obtain ⟨hK2, hb2, hv2, hn2⟩ := hJ2
  clear hK K
  refine aw_region_seq C (pb := false) rfl fun K hK => ?_
  repeat' (first | refine wy1 (a := by simp only [go_sem, ↓reduceIte, Nat.reduceEqDiff, reduceCtorEq, Nat.reduceAdd, Nat.reduceMul, Nat.reduceLeDiff, aLoad, aStore, hv2]; exact rfl) (h := ?_) | fail)
  refine wc (And.intro Try.call98 (fn98 hx hl hok kk L _ s.nx (s.nx + 2) 0 kk hb2 hv2 (by first | omega | (dsimp only; omega) | (dsimp only at *; omega)) (by first | omega | (dsimp only; omega) | (dsimp only at *; omega)) (Nat.le_refl _) (by rw [List.drop_zero]; exact hk))) ?_
  rintro _ _ ⟨rfl, rfl⟩
  repeat' (first | refine wy1 (a := by simp only [go_sem, ↓reduceIte, Nat.reduceEqDiff, reduceCtorEq, Nat.reduceAdd, Nat.reduceMul, Nat.reduceLeDiff, aLoad, aStore, hv2]; exact rfl) (h := ?_) | fail)
  refine awOps_nil (hK _ _ ?_)
  clear hK K
  refine aw_ret ?_
  simp only [go_sem, ↓reduceIte, Nat.reduceEqDiff, reduceCtorEq, Nat.reduceAdd, Nat.reduceMul, Nat.reduceLeDiff, aLoad, aStore, FnQ, resA]
  -- .ret
  exact fun _ => ⟨by first | rfl | trivial, hK2.2.1, hK2.2.2, by rw [Nat.zero_add]⟩
end Go.Am.Seat
/-
  MADE BY PROGRAM (am.py): the walks of functions 74.
-/
namespace Go.Am.Seat
open Go.Proofs
theorem bod74 : Try.f74.body = some (Try.f74.body.getD .skip) := rfl
theorem fn74 (L : Loops) (t : List Cell) (s : Me) (x : Sc) (hx : GSl encC x t) (hl : 1 ≤ t.length ∧ t.length ≤ 200) (hok : ∀ c ∈ t, cellOk c = true) (hk : takes t 1 = some t.length) : FnL Try.prog L 74 [.av (.sc x)] s fun r s' => (r = vB true) ∧ s' = s := by
  refine FnL.pure (R := fun r => r = vB true) ?_
  refine fn_of_body (ts := [2]) Try.func74 bod74 rfl (by simp) (by simp [Try.ntmps74]) fun D0 => ?_
  unfold Try.f74
  simp only [Option.getD_some, initSl]
  refine aw_region_seq C (pb := false) rfl fun K hK => ?_
  repeat' (first | refine wy0 (h := ?_) | fail)
  refine awOps_nil (hK _ _ ?_)
  clear hK K
  refine aw_region_seq C (pb := false) rfl fun K hK => ?_
  repeat' (first | refine wy1 (a := by simp only [go_sem, ↓reduceIte, Nat.reduceEqDiff, reduceCtorEq, Nat.reduceAdd, Nat.reduceMul, Nat.reduceLeDiff, aLoad, aStore, lenC hx, beq_self_eq_true]; exact rfl) (h := ?_) | fail)
  (refine wc (And.intro Try.call84 (fn84t L (t.length : Int) 1 200 _ (by omega))) ?_; rintro _ _ ⟨rfl, rfl⟩)
  repeat' (first | refine wy1 (a := by simp only [go_sem, ↓reduceIte, Nat.reduceEqDiff, reduceCtorEq, Nat.reduceAdd, Nat.reduceMul, Nat.reduceLeDiff, aLoad, aStore, lenC hx, beq_self_eq_true]; exact rfl) (h := ?_) | refine wn (h := ?_) | fail)
  try (first | (refine wc (And.intro Try.call85 (fn85 L t.length t _ x hx (by omega) hok hk)) ?_; rintro _ _ ⟨rfl, rfl⟩) | refine wn (h := ?_) | fail)
  repeat' (first | refine wy1 (a := by simp only [go_sem, ↓reduceIte, Nat.reduceEqDiff, reduceCtorEq, Nat.reduceAdd, Nat.reduceMul, Nat.reduceLeDiff, aLoad, aStore, lenC hx, beq_self_eq_true]; exact rfl) (h := ?_) | refine wn (h := ?_) | fail)
  refine awOps_nil (hK _ _ ?_)
  clear hK K
  refine aw_ret ?_
  simp only [go_sem, ↓reduceIte, Nat.reduceEqDiff, reduceCtorEq, Nat.reduceAdd, Nat.reduceMul, Nat.reduceLeDiff, aLoad, aStore, FnQ, resA]
  -- .ret
  exact fun _ => ⟨by first | rfl | trivial, by first | exact fun _ _ => rfl | trivial, by first | rfl | trivial, by first | rfl | trivial⟩
end Go.Am.Seat
/-
  MADE BY PROGRAM (am.py): the walks of functions 75.
-/
namespace Go.Am.Seat
open Go.Proofs
theorem bod75 : Try.f75.body = some (Try.f75.body.getD .skip) := rfl
theorem fn75 (L : Loops) (t : List Cell) (n : Int) (s : Me) (x : Sc) (hx : GSl encC x t) (hp : 0 < t.length) (hne : ¬ (t.length = 1 ∧ t[0].kind = 1 ∧ t[0].n = n)) : FnL Try.prog L 75 [.av (.sc x), vI n] s fun r s' => (r = vB false) ∧ s' = s := by
  refine FnL.pure (R := fun r => r = vB false) ?_
  have hat : 0 < t.length := hp
  have hix := idxC hx hat
  refine fn_of_body (ts := [4]) Try.func75 bod75 rfl (by simp) (by simp [Try.ntmps75]) fun D0 => ?_
  unfold Try.f75
  simp only [Option.getD_some, initSl]
  refine aw_region_seq C (pb := false) rfl fun K hK => ?_
  repeat' (first | refine wy0 (h := ?_) | fail)
  refine awOps_nil (hK _ _ ?_)
  clear hK K
  refine aw_cut_seq C (pb := false) [(4, vB ((((t.length : Int) == 1) && (t[0].kind == 1)) && (t[0].n == n)))] rfl ?_ fun n1 hn1 => ?_
  · cases hA0 : ((t.length : Int) == 1 : Bool) <;> cases hA1 : (t[0].kind == 1 : Bool) <;> cases hA2 : (t[0].n == n : Bool)
    all_goals (repeat' (first | refine wy1 (a := by simp only [go_sem, ↓reduceIte, Nat.reduceEqDiff, reduceCtorEq, Nat.reduceAdd, Nat.reduceMul, Nat.reduceLeDiff, aLoad, aStore, lenC hx, show aIndex T 22 (.av (.sc x)) (.av (.sc (.int .i64 0))) = _ from hix, hA0, hA1, hA2]; exact rfl) (h := ?_) | refine wn (h := ?_) | fail))
    all_goals (exact awOps_nil ⟨⟨rfl, trivial⟩, rfl, (by first | omega | (dsimp only; omega)), rfl⟩)
  refine aw_ret ?_
  simp only [go_sem, ↓reduceIte, Nat.reduceEqDiff, reduceCtorEq, Nat.reduceAdd, Nat.reduceMul, Nat.reduceLeDiff, aLoad, aStore, FnQ, resA]
  -- .ret
  have hv : ((((t.length : Int) == 1) && (t[0].kind == 1)) && (t[0].n == n)) = false := by
    rw [Bool.eq_false_iff]; intro h; simp only [Bool.and_eq_true, beq_iff_eq] at h; exact hne ⟨by omega, h.1.2, h.2⟩
  exact fun _ => ⟨by first | rfl | trivial, by first | exact fun _ _ => rfl | trivial, by first | rfl | trivial, by rw [hv]⟩
end Go.Am.Seat
/-
  MADE BY PROGRAM (am.py): the walks of functions 53.
-/
namespace Go.Am.Seat
open Go.Proofs

/-- Bindings that are right: variables rising, terms right, none just its own variable. -/
def RightB (bs : List (Int × List Cell)) : Prop := (∀ b ∈ bs, 0 ≤ b.1 ∧ b.1 ≤ 999 ∧ 1 ≤ b.2.length ∧ b.2.length ≤ 200 ∧ (∀ c ∈ b.2, cellOk c = true) ∧ takes b.2 1 = some b.2.length ∧ ∀ h : 0 < b.2.length, ¬ (b.2.length = 1 ∧ b.2[0].kind = 1 ∧ b.2[0].n = b.1)) ∧ bs.Pairwise fun a b => a.1 < b.1
def bndI (b : Int × List Cell) : Bnd := ⟨b.1, .sl b.2.length (b.2.flatMap encC)⟩

theorem bod53 : Try.f53.body = some (Try.f53.body.getD .skip) := rfl
theorem fn53 (L : Loops) (bs : List (Int × List Cell)) (s : Me) (x : Sc) (hx : GSl encB x (bs.map bndI)) (hl : bs.length ≤ 1000000) (hr : RightB bs) : FnL Try.prog L 53 [.av (.sc x)] s fun r s' => (r = vB true) ∧ s' = s := by
  refine FnL.pure (R := fun r => r = vB true) ?_
  refine fn_of_body (ts := [2]) Try.func53 bod53 rfl (by simp) (by simp [Try.ntmps53]) fun D0 => ?_
  unfold Try.f53
  simp only [Option.getD_some, initSl]
  refine aw_region_seq C (pb := false) rfl fun K hK => ?_
  repeat' (first | refine wy0 (h := ?_) | fail)
  refine awOps_nil (hK _ _ ?_)
  clear hK K
  refine aw_region_seq C (pb := false) rfl fun K hK => ?_
  repeat' (first | refine wy0 (h := ?_) | fail)
  refine awOps_nil (hK _ _ ?_)
  clear hK K
  refine aw_seq ?_
  refine aw_region_seq C (pb := false) rfl fun K hK => ?_
  repeat' (first | refine wy1 (a := by simp only [go_sem, ↓reduceIte, Nat.reduceEqDiff, reduceCtorEq, Nat.reduceAdd, Nat.reduceMul, Nat.reduceLeDiff, aLoad, aStore, lenB hx]; exact rfl) (h := ?_) | fail)
  refine awOps_nil (hK _ _ ?_)
  clear hK K
  refine aw_block ?_
  refine AW.less (sl' := [(3, vI (-1)), (6, .av (.sc x)), (7, vI bs.length), (8, vI (0))]) (AllIn.less ⟨rfl, rfl, by rw [List.length_map]; rfl, rfl, trivial⟩) (aw_loop (fun k sl1 s1 => ∃ (i : Nat) (pv : Int), k = bs.length - i ∧ sl1 = [(3, vI (pv)), (6, .av (.sc x)), (7, vI bs.length), (8, vI (i))] ∧ (Kp s s1) ∧ (i ≤ bs.length) ∧ ((i = 0 ∧ pv = -1) ∨ ∃ h : i - 1 < bs.length, 0 < i ∧ pv = bs[i - 1].1)) (k := bs.length - (0)) ⟨0, -1, rfl, rfl, (Kp.refl s).up (by omega), Nat.zero_le _, .inl ⟨rfl, rfl⟩⟩ ?_)
  rintro k1 _ s1 ⟨i, pv, hk1, rfl, hs1, hb, hpv⟩
  refine aw_region_seq C (pb := false) rfl fun K hK => ?_
  repeat' (first | refine wy0 (h := ?_) | fail)
  refine awOps_nil (hK _ _ ?_)
  clear hK K
  refine aw_seq ?_
  refine aw_cond (by rfl) ?_ ?_
  · intro hc0
    try simp only [decide_eq_true_eq, decide_eq_false_iff_not] at hc0
    have hi2 : i < bs.length := by omega
    have hi3 : i < (bs.map bndI).length := by rw [List.length_map]; exact hi2
    obtain ⟨q1, q2, q3, q4, q5, q6, q7⟩ := hr.1 bs[i] (List.getElem_mem hi2)
    have hgt : pv < bs[i].1 := by
      rcases hpv with ⟨_, h⟩ | ⟨h1, h2, h3⟩
      · omega
      · rw [h3]; exact List.pairwise_iff_getElem.1 hr.2 (i - 1) i h1 hi2 (by omega)
    have h75 : ∀ s' : Me, FnL Try.prog L 75 [vC bs[i].2, vI bs[i].1] s' fun r s'' => r = vB false ∧ s'' = s' := fun s' => fn75 L bs[i].2 bs[i].1 s' _ (gslC _) (by omega) (q7 (by omega))
    have hix : aIndex T 25 (.av (.sc x)) (vI i) = some (.av (.sc (.cptr (.int .i64 bs[i].1 :: .sl bs[i].2.length (bs[i].2.flatMap encC) :: ((bs.map bndI).drop (i + 1)).flatMap encB)))) := by
      have := idxB hx hi3
      rw [List.getElem_map] at this
      exact this
    refine aw_skip ?_
    simp only [thenA_normal, thenA_ret, thenA_exit, blockA_normal, blockA_ret, blockA_exit, ↓reduceIte, Nat.reduceEqDiff]
    refine aw_seq ?_
    refine aw_block ?_
    refine aw_region_seq C (pb := false) rfl fun K hK => ?_
    repeat' (first | refine wy1 (a := by simp only [go_sem, ↓reduceIte, Nat.reduceEqDiff, reduceCtorEq, Nat.reduceAdd, Nat.reduceMul, Nat.reduceLeDiff, aLoad, aStore, hix, pl38]; exact rfl) (h := ?_) | refine wz1 (a := by simp only [go_sem, ↓reduceIte, Nat.reduceEqDiff, reduceCtorEq, Nat.reduceAdd, Nat.reduceMul, Nat.reduceLeDiff, aLoad, aStore, hix, pl38]; exact rfl) (h := ?_) | fail)
    refine awOps_nil (hK _ _ ?_)
    refine AW.less (sl' := [(3, vI pv), (6, .av (.sc x)), (7, vI bs.length), (8, vI i), (5, .av (.ptr (s1.nx + 3) 0))]) (AllIn.less ⟨rfl, rfl, rfl, rfl, rfl, trivial⟩) ?_
    refine aw_state (J := fun s4 => Kp s s4 ∧ s4.ob (s1.nx + 3) = .cs [.sc (.int .i64 bs[i].1), .sc (.sl bs[i].2.length (bs[i].2.flatMap encC))] 0) ⟨⟨by have := hs1.1; exact (by first | omega | (dsimp only; omega) | (dsimp only at *; omega)), fun j hj => (upd_ne _ _ (by have := hs1.1; omega)).trans ((upd_ne _ _ (by have := hs1.1; omega)).trans (hs1.2.1 j hj)), hs1.2.2⟩, upd_same _ _ _⟩ fun s4 hJ4 => ?_
    obtain ⟨hK4, hx4⟩ := hJ4
    clear hK K
    refine aw_seq ?_
    refine aw_region_seq C (pb := false) rfl fun K hK => ?_
    repeat' (first | refine wy1 (a := by simp only [go_sem, ↓reduceIte, Nat.reduceEqDiff, reduceCtorEq, Nat.reduceAdd, Nat.reduceMul, Nat.reduceLeDiff, aLoad, aStore, hx4, show decide (bs[i].1 ≤ pv) = false from decide_eq_false (by omega), show decide (bs[i].1 > 999) = false from decide_eq_false (by omega)]; exact rfl) (h := ?_) | refine wn (h := ?_) | fail)
    try (first | (refine wc (And.intro Try.call74 (fn74 L bs[i].2 _ _ (gslC _) ⟨q3, q4⟩ q5 q6)) ?_; rintro _ _ ⟨rfl, rfl⟩) | refine wn (h := ?_) | fail)
    repeat' (first | refine wy1 (a := by simp only [go_sem, ↓reduceIte, Nat.reduceEqDiff, reduceCtorEq, Nat.reduceAdd, Nat.reduceMul, Nat.reduceLeDiff, aLoad, aStore, hx4, show decide (bs[i].1 ≤ pv) = false from decide_eq_false (by omega), show decide (bs[i].1 > 999) = false from decide_eq_false (by omega)]; exact rfl) (h := ?_) | refine wn (h := ?_) | fail)
    try (first | (refine wc (And.intro Try.call75 (h75 _)) ?_; rintro _ _ ⟨rfl, rfl⟩) | refine wn (h := ?_) | fail)
    repeat' (first | refine wy1 (a := by simp only [go_sem, ↓reduceIte, Nat.reduceEqDiff, reduceCtorEq, Nat.reduceAdd, Nat.reduceMul, Nat.reduceLeDiff, aLoad, aStore, hx4, show decide (bs[i].1 ≤ pv) = false from decide_eq_false (by omega), show decide (bs[i].1 > 999) = false from decide_eq_false (by omega)]; exact rfl) (h := ?_) | fail)
    refine awOps_nil (hK _ _ ?_)
    clear hK K
    refine aw_cond (by rfl) ?_ ?_
    · intro hc1
      cases hc1
    · intro hc1
      refine aw_skip ?_
      simp only [thenA_normal, thenA_ret, thenA_exit, blockA_normal, blockA_ret, blockA_exit, ↓reduceIte, Nat.reduceEqDiff]
      refine aw_region C (pb := false) rfl ?_
      repeat' (first | refine wy1 (a := by simp only [go_sem, ↓reduceIte, Nat.reduceEqDiff, reduceCtorEq, Nat.reduceAdd, Nat.reduceMul, Nat.reduceLeDiff, aLoad, aStore, hx4]; exact rfl) (h := ?_) | fail)
      refine awOps_nil ?_
      try simp only [thenA_normal, thenA_ret, thenA_exit, blockA_normal, blockA_ret, blockA_exit]
      refine aw_region C (pb := false) rfl ?_
      repeat' (first | refine wy1 (a := by simp only [go_sem, ↓reduceIte, Nat.reduceEqDiff, reduceCtorEq, Nat.reduceAdd, Nat.reduceMul, Nat.reduceLeDiff, aLoad, aStore, wrap_small ((i : Int) + 1) (by omega) (by omega)]; exact rfl) (h := ?_) | fail)
      refine awOps_nil ?_
      try simp only [thenA_normal, thenA_ret, thenA_exit, blockA_normal, blockA_ret, blockA_exit]
      -- end of round 0 at 0t1f
      refine ⟨bs.length - (i + 1), [(3, vI (bs[i].1)), (6, .av (.sc x)), (7, vI bs.length), (8, vI (i + 1))], by omega, AllIn.less ⟨rfl, rfl, rfl, rfl, trivial⟩, i + 1, bs[i].1, rfl, rfl, ?_, ?_, ?_⟩
      · exact hK4.up (by omega)
      · omega
      · exact .inr ⟨by omega, by omega, by simp⟩
  · intro hc0
    try simp only [decide_eq_true_eq, decide_eq_false_iff_not] at hc0
    refine aw_exit ?_
    simp only [thenA_normal, thenA_ret, thenA_exit, blockA_normal, blockA_ret, blockA_exit, ↓reduceIte, Nat.reduceEqDiff]
    refine aw_region_seq C (pb := false) rfl fun K hK => ?_
    repeat' (first | refine wy0 (h := ?_) | fail)
    refine awOps_nil (hK _ _ ?_)
    clear hK K
    refine aw_ret ?_
    simp only [go_sem, ↓reduceIte, Nat.reduceEqDiff, reduceCtorEq, Nat.reduceAdd, Nat.reduceMul, Nat.reduceLeDiff, aLoad, aStore, FnQ, resA]
    -- 0f.x0.ret
    exact fun _ => ⟨by first | rfl | trivial, hs1.2.1, hs1.2.2, by first | rfl | trivial⟩
end Go.Am.Seat
/-
  MADE BY PROGRAM (am.py): the walks of functions 69.
-/
namespace Go.Am.Seat
open Go.Proofs
theorem bod69 : Try.f69.body = some (Try.f69.body.getD .skip) := rfl
theorem fn69 (L : Loops) (a b : List Cell) (s : Me) (x y : Sc) (hx : GSl encC x a) (hy : GSl encC y b) (hl : a.length ≤ 2199023255552) : FnL Try.prog L 69 [.av (.sc x), .av (.sc y)] s fun r s' => (r = vB (sameL a b)) ∧ s' = s := by
  refine FnL.pure (R := fun r => r = vB (sameL a b)) ?_
  refine fn_of_body (ts := [4]) Try.func69 bod69 rfl (by simp) (by simp [Try.ntmps69]) fun D0 => ?_
  unfold Try.f69
  simp only [Option.getD_some, initSl]
  refine aw_region_seq C (pb := false) rfl fun K hK => ?_
  repeat' (first | refine wy0 (h := ?_) | fail)
  refine awOps_nil (hK _ _ ?_)
  clear hK K
  refine aw_seq ?_
  refine aw_region_seq C (pb := false) rfl fun K hK => ?_
  repeat' (first | refine wy1 (a := by simp only [go_sem, ↓reduceIte, Nat.reduceEqDiff, reduceCtorEq, Nat.reduceAdd, Nat.reduceMul, Nat.reduceLeDiff, aLoad, aStore, lenC hx, lenC hy]; exact rfl) (h := ?_) | fail)
  refine awOps_nil (hK _ _ ?_)
  clear hK K
  refine aw_cond (by rfl) ?_ ?_
  · intro hc0
    try simp only [bne_iff_ne, ne_eq, bne_eq_false_iff_eq] at hc0
    refine aw_region_seq C (pb := false) rfl fun K hK => ?_
    repeat' (first | refine wy0 (h := ?_) | fail)
    refine awOps_nil (hK _ _ ?_)
    clear hK K
    refine aw_ret ?_
    try simp only [thenA_normal, thenA_ret, thenA_exit, blockA_normal, blockA_ret, blockA_exit]
    simp only [go_sem, ↓reduceIte, Nat.reduceEqDiff, reduceCtorEq, Nat.reduceAdd, Nat.reduceMul, Nat.reduceLeDiff, aLoad, aStore, FnQ, resA]
    -- 0t.ret
    have hne : sameL a b = false := by
      cases h : sameL a b
      · rfl
      · exact absurd (sameL_len h) (by omega)
    exact fun _ => ⟨by first | rfl | trivial, by first | exact fun _ _ => rfl | trivial, by first | rfl | trivial, by rw [hne]⟩
  · intro hc0
    try simp only [bne_iff_ne, ne_eq, bne_eq_false_iff_eq] at hc0
    refine aw_skip ?_
    simp only [thenA_normal, thenA_ret, thenA_exit, blockA_normal, blockA_ret, blockA_exit, ↓reduceIte, Nat.reduceEqDiff]
    refine aw_seq ?_
    refine aw_region_seq C (pb := false) rfl fun K hK => ?_
    repeat' (first | refine wy1 (a := by simp only [go_sem, ↓reduceIte, Nat.reduceEqDiff, reduceCtorEq, Nat.reduceAdd, Nat.reduceMul, Nat.reduceLeDiff, aLoad, aStore, lenC hx]; exact rfl) (h := ?_) | fail)
    refine awOps_nil (hK _ _ ?_)
    clear hK K
    refine aw_block ?_
    refine AW.less (sl' := [(0, .av (.sc x)), (1, .av (.sc y)), (12, vI a.length), (13, vI (0))]) (AllIn.less ⟨rfl, rfl, rfl, rfl, trivial⟩) (aw_loop (fun k sl1 s1 => ∃ (i : Nat), k = a.length - i ∧ sl1 = [(0, .av (.sc x)), (1, .av (.sc y)), (12, vI a.length), (13, vI (i))] ∧ (Kp s s1) ∧ (i ≤ a.length) ∧ (sameL (a.drop i) (b.drop i) = sameL a b)) (k := a.length - (0)) ⟨0, rfl, rfl, (Kp.refl s).up (by omega), Nat.zero_le _, by simp⟩ ?_)
    rintro k1 _ s1 ⟨i, hk1, rfl, hs1, hb, h3⟩
    refine aw_region_seq C (pb := false) rfl fun K hK => ?_
    repeat' (first | refine wy0 (h := ?_) | fail)
    refine awOps_nil (hK _ _ ?_)
    clear hK K
    refine aw_seq ?_
    refine aw_cond (by rfl) ?_ ?_
    · intro hc1
      try simp only [decide_eq_true_eq, decide_eq_false_iff_not] at hc1
      have hi2 : i < a.length := by omega
      have hi3 : i < b.length := by omega
      refine aw_skip ?_
      simp only [thenA_normal, thenA_ret, thenA_exit, blockA_normal, blockA_ret, blockA_exit, ↓reduceIte, Nat.reduceEqDiff]
      refine aw_seq ?_
      refine aw_block ?_
      refine aw_region_seq C (pb := false) rfl fun K hK => ?_
      repeat' (first | refine wy0 (h := ?_) | fail)
      refine awOps_nil (hK _ _ ?_)
      clear hK K
      refine aw_sil_seq C (pb := false) 9 _ rfl (by kernel_rfl) rfl (fun _ _ => rfl) fun K hK => ?_
      repeat' (first | refine ws1 (a := by simp only [go_sem, ↓reduceIte, Nat.reduceEqDiff, reduceCtorEq, Nat.reduceAdd, Nat.reduceMul, Nat.reduceLeDiff, aLoad, aStore, idxC hx hi2, idxC hy hi3]; exact rfl) (h := ?_) | fail)
      refine sil_nil (hK _ ?_)
      clear hK K
      refine aw_cond (by rfl) ?_ ?_
      · intro hc2
        refine aw_region_seq C (pb := false) rfl fun K hK => ?_
        repeat' (first | refine wy0 (h := ?_) | fail)
        refine awOps_nil (hK _ _ ?_)
        clear hK K
        refine aw_ret ?_
        try simp only [thenA_normal, thenA_ret, thenA_exit, blockA_normal, blockA_ret, blockA_exit]
        simp only [go_sem, ↓reduceIte, Nat.reduceEqDiff, reduceCtorEq, Nat.reduceAdd, Nat.reduceMul, Nat.reduceLeDiff, aLoad, aStore, FnQ, resA]
        -- 0f1t2t.ret
        have hne : sameL a b = false := by
          rw [← h3, List.drop_eq_getElem_cons hi2, List.drop_eq_getElem_cons hi3, sameL]
          have : cellEq a[i] b[i] = false := by
            unfold cellEq
            cases h : (a[i].kind == b[i].kind && (a[i].name == b[i].name && (a[i].n == b[i].n && true)))
            · rfl
            · have hc2n : (!(a[i].kind == b[i].kind && (a[i].name == b[i].name && (a[i].n == b[i].n && true)))) = true := hc2
              rw [h] at hc2n; cases hc2n
          rw [this]; rfl
        exact fun _ => ⟨by first | rfl | trivial, hs1.2.1, hs1.2.2, by rw [hne]⟩
      · intro hc2
        refine aw_skip ?_
        simp only [thenA_normal, thenA_ret, thenA_exit, blockA_normal, blockA_ret, blockA_exit, ↓reduceIte, Nat.reduceEqDiff]
        refine aw_region C (pb := false) rfl ?_
        repeat' (first | refine wy1 (a := by simp only [go_sem, ↓reduceIte, Nat.reduceEqDiff, reduceCtorEq, Nat.reduceAdd, Nat.reduceMul, Nat.reduceLeDiff, aLoad, aStore, wrap_small ((i : Int) + 1) (by omega) (by omega)]; exact rfl) (h := ?_) | fail)
        refine awOps_nil ?_
        try simp only [thenA_normal, thenA_ret, thenA_exit, blockA_normal, blockA_ret, blockA_exit]
        -- end of round 0 at 0f1t2f
        refine ⟨a.length - (i + 1), [(0, .av (.sc x)), (1, .av (.sc y)), (12, vI a.length), (13, vI (i + 1))], by omega, AllIn.less ⟨rfl, rfl, rfl, rfl, trivial⟩, i + 1, rfl, rfl, ?_, ?_, ?_⟩
        · exact hs1.up (by omega)
        · omega
        · rw [← h3, List.drop_eq_getElem_cons hi2, List.drop_eq_getElem_cons hi3, sameL]
          have : cellEq a[i] b[i] = true := by
            unfold cellEq
            cases h : (a[i].kind == b[i].kind && (a[i].name == b[i].name && (a[i].n == b[i].n && true)))
            · have hc2n : (!(a[i].kind == b[i].kind && (a[i].name == b[i].name && (a[i].n == b[i].n && true)))) = false := hc2
              rw [h] at hc2n; cases hc2n
            · rfl
          rw [this]; rfl
    · intro hc1
      try simp only [decide_eq_true_eq, decide_eq_false_iff_not] at hc1
      refine aw_exit ?_
      simp only [thenA_normal, thenA_ret, thenA_exit, blockA_normal, blockA_ret, blockA_exit, ↓reduceIte, Nat.reduceEqDiff]
      refine aw_region_seq C (pb := false) rfl fun K hK => ?_
      repeat' (first | refine wy0 (h := ?_) | fail)
      refine awOps_nil (hK _ _ ?_)
      clear hK K
      refine aw_ret ?_
      simp only [go_sem, ↓reduceIte, Nat.reduceEqDiff, reduceCtorEq, Nat.reduceAdd, Nat.reduceMul, Nat.reduceLeDiff, aLoad, aStore, FnQ, resA]
      -- 0f1f.x0.ret
      have hne : sameL a b = true := by
        rw [← h3, List.drop_of_length_le (by omega), List.drop_of_length_le (by omega)]; rfl
      exact fun _ => ⟨by first | rfl | trivial, hs1.2.1, hs1.2.2, by rw [hne]⟩
end Go.Am.Seat
/-
  MADE BY PROGRAM (am.py): the walks of functions 48.
-/
namespace Go.Am.Seat
open Go.Proofs
theorem bod48 : Try.f48.body = some (Try.f48.body.getD .skip) := rfl
theorem fn48 (L : Loops) (a b : List Cell) (s : Me) (x y : Sc) (hx : GSl encC x a) (hy : GSl encC y b) (hl : a.length ≤ 2199023255552) : FnL Try.prog L 48 [.av (.sc x), .av (.sc y)] s fun r s' => (r = vB (sameL a b)) ∧ s' = s := by
  refine FnL.pure (R := fun r => r = vB (sameL a b)) ?_
  refine fn_of_body (ts := [4]) Try.func48 bod48 rfl (by simp) (by simp [Try.ntmps48]) fun D0 => ?_
  unfold Try.f48
  simp only [Option.getD_some, initSl]
  refine aw_region_seq C (pb := false) rfl fun K hK => ?_
  repeat' (first | refine wy0 (h := ?_) | fail)
  refine awOps_nil (hK _ _ ?_)
  clear hK K
  refine aw_region_seq C (pb := false) rfl fun K hK => ?_
  repeat' (first | refine wy0 (h := ?_) | fail)
  (refine wc (And.intro Try.call69 (fn69 L a b _ x y hx hy hl)) ?_; rintro _ _ ⟨rfl, rfl⟩)
  repeat' (first | refine wy0 (h := ?_) | fail)
  refine awOps_nil (hK _ _ ?_)
  clear hK K
  refine aw_ret ?_
  simp only [go_sem, ↓reduceIte, Nat.reduceEqDiff, reduceCtorEq, Nat.reduceAdd, Nat.reduceMul, Nat.reduceLeDiff, aLoad, aStore, FnQ, resA]
  -- .ret
  exact fun _ => ⟨by first | rfl | trivial, by first | exact fun _ _ => rfl | trivial, by first | rfl | trivial, by first | rfl | trivial⟩
end Go.Am.Seat
/-
  MADE BY PROGRAM (am.py): the walks of functions 72.
-/
namespace Go.Am.Seat
open Go.Proofs
theorem bod72 : Try.f72.body = some (Try.f72.body.getD .skip) := rfl
theorem fn72 (L : Loops) (I : Nat → Me → Prop) (l : Nat) (t : List Int) (bt : Nat) (s : Me) (x : Sc) (hx : GSl encI x t) (hl : t.length ≤ 1000000000) (hlp : (L.rc l).params.size = 1) (hI : ∀ j s', I j s' → s'.ob bt = .cs [.sc x] 0) (hup : ∀ j s' m, I j s' → s'.nx ≤ m → I j ⟨s'.ob, m, s'.ls⟩) (hr : ∀ j s' (h : j < t.length), I j s' → RoundL Try.prog L l [vI t[j]] s' fun r s'' => r = vB true ∧ I (j + 1) s'') (h0 : I 0 s) : FnL Try.prog L 72 [.av (.yl l), .av (.ptr bt 0)] s fun r s' => I t.length s' := by
  have hbt := hI 0 s h0
  refine fn_of_body (ts := []) Try.func72 bod72 rfl (by simp) (by simp [Try.ntmps72]) fun D0 => ?_
  unfold Try.f72
  simp only [Option.getD_some, initSl]
  refine aw_region_seq C (pb := false) rfl fun K hK => ?_
  repeat' (first | refine wy1 (a := by simp only [go_sem, ↓reduceIte, Nat.reduceEqDiff, reduceCtorEq, Nat.reduceAdd, Nat.reduceMul, Nat.reduceLeDiff, aLoad, aStore, hbt, lenI hx]; exact rfl) (h := ?_) | fail)
  refine awOps_nil (hK _ _ ?_)
  clear hK K
  refine aw_block ?_
  refine AW.less (sl' := [(0, .av (.yl l)), (1, .av (.ptr bt 0)), (5, .av (.sc x)), (6, vI t.length), (7, vI (0))]) (AllIn.less ⟨rfl, rfl, rfl, rfl, rfl, trivial⟩) (aw_loop (fun k sl1 s1 => ∃ (i : Nat), k = t.length - i ∧ sl1 = [(0, .av (.yl l)), (1, .av (.ptr bt 0)), (5, .av (.sc x)), (6, vI t.length), (7, vI (i))] ∧ (I i s1) ∧ (i ≤ t.length)) (k := t.length - (0)) ⟨0, rfl, rfl, hup _ _ _ h0 (by omega), Nat.zero_le _⟩ ?_)
  rintro k1 _ s1 ⟨i, hk1, rfl, hs1, hb⟩
  refine aw_region_seq C (pb := false) rfl fun K hK => ?_
  repeat' (first | refine wy0 (h := ?_) | fail)
  refine awOps_nil (hK _ _ ?_)
  clear hK K
  refine aw_seq ?_
  refine aw_cond (by rfl) ?_ ?_
  · intro hc0
    try simp only [decide_eq_true_eq, decide_eq_false_iff_not] at hc0
    have hil : i < t.length := by omega
    refine aw_skip ?_
    simp only [thenA_normal, thenA_ret, thenA_exit, blockA_normal, blockA_ret, blockA_exit, ↓reduceIte, Nat.reduceEqDiff]
    refine aw_seq ?_
    refine aw_block ?_
    refine aw_region_seq C (pb := false) rfl fun K hK => ?_
    repeat' (first | refine wy1 (a := by simp only [go_sem, ↓reduceIte, Nat.reduceEqDiff, reduceCtorEq, Nat.reduceAdd, Nat.reduceMul, Nat.reduceLeDiff, aLoad, aStore, idxI hx hil]; exact rfl) (h := ?_) | fail)
    refine awOps_nil (hK _ _ ?_)
    clear hK K
    refine aw_region_seq C (pb := false) rfl fun K hK => ?_
    repeat' (first | refine wy0 (h := ?_) | fail)
    refine wc (And.intro (by rw [hlp]; rfl) (by show RoundL _ _ l [vI t[i]] _ _; exact hr i _ hil (hup _ _ _ hs1 (by omega)))) ?_
    rintro _ s6 ⟨rfl, hI6⟩
    repeat' (first | refine wy0 (h := ?_) | fail)
    refine awOps_nil (hK _ _ ?_)
    clear hK K
    refine aw_cond (by rfl) ?_ ?_
    · intro hc1
      cases hc1
    · intro hc1
      refine aw_skip ?_
      simp only [thenA_normal, thenA_ret, thenA_exit, blockA_normal, blockA_ret, blockA_exit, ↓reduceIte, Nat.reduceEqDiff]
      refine aw_region C (pb := false) rfl ?_
      repeat' (first | refine wy1 (a := by simp only [go_sem, ↓reduceIte, Nat.reduceEqDiff, reduceCtorEq, Nat.reduceAdd, Nat.reduceMul, Nat.reduceLeDiff, aLoad, aStore, wrap_small ((i : Int) + 1) (by omega) (by omega)]; exact rfl) (h := ?_) | fail)
      refine awOps_nil ?_
      try simp only [thenA_normal, thenA_ret, thenA_exit, blockA_normal, blockA_ret, blockA_exit]
      -- end of round 0 at 0t1f
      refine ⟨t.length - (i + 1), [(0, .av (.yl l)), (1, .av (.ptr bt 0)), (5, .av (.sc x)), (6, vI t.length), (7, vI (i + 1))], by omega, AllIn.less ⟨rfl, rfl, rfl, rfl, rfl, trivial⟩, i + 1, rfl, rfl, ?_, ?_⟩
      · exact hup _ _ _ hI6 (by omega)
      · omega
  · intro hc0
    try simp only [decide_eq_true_eq, decide_eq_false_iff_not] at hc0
    refine aw_exit ?_
    simp only [thenA_normal, thenA_ret, thenA_exit, blockA_normal, blockA_ret, blockA_exit, ↓reduceIte, Nat.reduceEqDiff]
    -- 0f.x0.end
    have hin : i = t.length := by omega
    exact fun _ => by rw [← hin]; exact hup _ _ _ hs1 (by omega)
end Go.Am.Seat
/-
  MADE BY PROGRAM (am.py): the walks of functions 81.
-/
namespace Go.Am.Seat
open Go.Proofs
-- many steps
theorem bod81 : Try.f81.body = some (Try.f81.body.getD .skip) := rfl
set_option maxHeartbeats 1000000 in
theorem fn81 (L : Loops) (t : List Int) (bt : Nat) (s : Me) (x : Sc) (hx : GSl encI x t) (hl : t.length ≤ 1000000) (hbt : s.ob bt = .cs [.sc x] 0) (hlt : bt < s.nx) : FnL Try.prog L 81 [.av (.sc .nilsl), .av (.fn 72 [] [.ptr bt 0])] s fun r s' => ∃ io ob' m, r = .av (slOf io t.length) ∧ s' = ⟨ob', m, s.ls⟩ ∧ s.nx ≤ io ∧ s.nx ≤ m ∧ (t.length ≠ 0 → ob' io = .cs (arr t.length fun k => t.getD k 0) 0 ∧ io < m) ∧ ∀ i, i < s.nx → ob' i = s.ob i := by
  refine fn_of_body (ts := [4]) Try.func81 bod81 rfl (by simp) (by simp [Try.ntmps81]) fun D0 => ?_
  unfold Try.f81
  simp only [Option.getD_some, initSl]
  refine aw_region_seq C (pb := false) rfl fun K hK => ?_
  repeat' (first | refine wy0 (h := ?_) | fail)
  refine awOps_nil (hK _ _ ?_)
  clear hK K
  refine aw_seq ?_
  refine aw_region_seq C (pb := false) rfl fun K hK => ?_
  repeat' (first | refine wy0 (h := ?_) | fail)
  refine awOps_nil (hK _ _ ?_)
  refine AW.less (sl' := [(2, .av (.ptr s.nx 0)), (6, .av (.fn 72 [] [.ptr bt 0]))]) (AllIn.less ⟨rfl, rfl, trivial⟩) ?_
  refine aw_state (J := fun s2 => Kp s s2 ∧ s2.ob s.nx = .cs [.sc .nilsl] 0 ∧ s.nx < s2.nx ∧ s2.ob bt = .cs [.sc x] 0) ⟨⟨(by first | omega | (dsimp only; omega) | (dsimp only at *; omega)), fun j hj => upd_ne _ _ (by omega), rfl⟩, upd_same _ _ _, (by first | omega | (dsimp only; omega) | (dsimp only at *; omega)), (upd_ne _ _ (by omega)).trans hbt⟩ fun s2 hJ2 => ?_
  obtain ⟨hK2, ho2, hn2, hb2⟩ := hJ2
  clear hK K
  refine aw_block ?_
  refine aw_rangeFunc rfl (by rfl) Try.call72 fun L0 l0 hL0 => ?_
  refine FnL.mono (fn72 L0 (fun j s' => s'.ls = upd s2.ls l0 .ready ∧ s2.nx ≤ s'.nx ∧ (∀ i, i < s2.nx → i ≠ s.nx → s'.ob i = s2.ob i) ∧ (∀ i, s2.nx ≤ i → (s'.ob i).noyl = true) ∧ ∃ io, s2.nx ≤ io ∧ s'.ob s.nx = .cs [slOf io j] 0 ∧ (j ≠ 0 → s'.ob io = .cs (arr j fun k => t.getD k 0) 0 ∧ io < s'.nx)) l0 t bt _ x hx (by omega) (by rw [hL0.params]; rfl) ?_ ?_ ?_ ?_) ?_
  · rintro j s' ⟨h1, h2, h3', h4, io, h5, h6, h7⟩
    exact (h3' bt (by omega) (by omega)).trans hb2
  · rintro j s' m ⟨h1, h2, h3', h4, io, h5, h6, h7⟩ hm
    exact ⟨h1, Nat.le_trans h2 hm, h3', h4, io, h5, h6, fun h => ⟨(h7 h).1, Nat.lt_of_lt_of_le (h7 h).2 hm⟩⟩
  · intro j0 sJ0 hj0 hJ0
    obtain ⟨g1, g2, g3, g4, io, g5, g6, g7⟩ := hJ0
    refine roundL_of hL0.params hL0.assign hL0.body hL0.size (fun p hp => by have e : p = 7 := (by simpa using hp); subst e; exact (show (7 : Nat) < 13 from by decide)) ?_
    rw [hL0.sl]
    simp only [setPs]
    refine aw_region C (pb := false) rfl ?_
    repeat' (first | refine wy0 (h := ?_) | fail)
    refine awOps_nil ?_
    try simp only [thenA_normal, thenA_ret, thenA_exit, blockA_normal, blockA_ret, blockA_exit]
    refine ⟨?_, ?_⟩
    · show sJ0.ls l0 = _; rw [g1, upd_same]
    refine aw_block ?_
    refine aw_region C (pb := false) rfl ?_
    repeat' (first | refine wy1 (a := by simp only [go_sem, ↓reduceIte, Nat.reduceEqDiff, reduceCtorEq, Nat.reduceAdd, Nat.reduceMul, Nat.reduceLeDiff, aLoad, aStore, g6]; exact rfl) (h := ?_) | fail)
    refine wy2 ((show aop C false _ _ _ _ = aAppend T _ _ 36 _ _ from rfl).trans (appO (id := io) (n := j0) (f := fun k => t.getD k 0) (v := t[j0]) (fun h => (upd_ne _ _ (by have := (g7 h).2; omega)).trans (g7 h).1) (upd_same _ _ _) (by omega))) ?_
    repeat' (first | refine wz1 (a := by simp (disch := omega) only [go_sem, ↓reduceIte, Nat.reduceEqDiff, reduceCtorEq, Nat.reduceAdd, Nat.reduceMul, Nat.reduceLeDiff, aLoad, aStore, g6, upd_ne, kill_ne]; exact rfl) (h := ?_) | fail)
    refine awOps_nil ?_
    try simp only [thenA_normal, thenA_ret, thenA_exit, blockA_normal, blockA_ret, blockA_exit]
    -- end of round of range 0 at R0.b
    refine ⟨rfl, ?_, (by first | omega | (dsimp only; omega) | (dsimp only at *; omega)), fun i hi hne => (upd_ne _ _ hne).trans ((upd_ne _ _ (by omega)).trans ((kill_ne (by omega)).trans ((upd_ne _ _ (by omega)).trans (g3 i hi hne)))), fun i hi => upd_noyl rfl (upd_noyl arr_noyl (kill_noyl (upd_noyl rfl (g4 i hi)))), sJ0.nx + 1 + 1 + 1 + 1, by omega, upd_same _ _ _, fun _ => ⟨(upd_ne _ _ (by omega)).trans ((upd_same _ _ _).trans ?_), (by first | omega | (dsimp only; omega) | (dsimp only at *; omega))⟩⟩
    · show upd (upd sJ0.ls l0 .busy) l0 .ready = _
      rw [g1, upd_upd, upd_upd]
    · congr 1
      refine arr_congr fun k hk => ?_
      by_cases h' : k = j0
      · subst h'; rw [upd_same, List.getD_eq_getElem?_getD, List.getElem?_eq_getElem hj0]; rfl
      · rw [upd_ne _ _ h']
  · exact ⟨rfl, Nat.le_refl _, fun i hi _ => if_pos hi, fun i hi => by dsimp only; rw [if_neg (by omega)]; rfl, s2.nx, Nat.le_refl _, (if_pos (by omega)).trans ho2, fun h => (h rfl).elim⟩
  · rintro r0 s0' hm0
    obtain ⟨g1, g2, g3, g4, io, g5, g6, g7⟩ := hm0
    refine ⟨fun i hi => ?_, ?_⟩
    · by_cases h1 : i < s2.nx
      · by_cases h2 : i = s.nx
        · rw [h2, g6]; refine .inr ?_; show (slOf io _).noyl && true = true; unfold slOf; split <;> rfl
        · exact .inl ⟨h1, g3 i h1 h2⟩
      · exact .inr (g4 i (by omega))
    rw [g1, upd_same, upd_back]
    simp only [leftBy]
    simp only [thenA_normal, thenA_ret, thenA_exit, blockA_normal, blockA_ret, blockA_exit]
    refine aw_region_seq C (pb := false) rfl fun K hK => ?_
    repeat' (first | refine wy1 (a := by simp only [go_sem, ↓reduceIte, Nat.reduceEqDiff, reduceCtorEq, Nat.reduceAdd, Nat.reduceMul, Nat.reduceLeDiff, aLoad, aStore, g6]; exact rfl) (h := ?_) | fail)
    refine awOps_nil (hK _ _ ?_)
    clear hK K
    refine aw_ret ?_
    simp only [go_sem, ↓reduceIte, Nat.reduceEqDiff, reduceCtorEq, Nat.reduceAdd, Nat.reduceMul, Nat.reduceLeDiff, aLoad, aStore, FnQ, resA]
    -- .ret
    exact fun _ => ⟨io, s0'.ob, _, rfl, by rw [hK2.2.2], by omega, (by first | omega | (dsimp only; omega) | (dsimp only at *; omega)), fun h => ⟨(g7 h).1, by have := (g7 h).2; exact (by first | omega | (dsimp only; omega) | (dsimp only at *; omega))⟩, fun i hi => (g3 i (by omega) (by omega)).trans (hK2.2.1 i hi)⟩
end Go.Am.Seat
/-
  MADE BY PROGRAM (am.py): the walks of functions 70.
-/
namespace Go.Am.Seat
open Go.Proofs
theorem bod70 : Try.f70.body = some (Try.f70.body.getD .skip) := rfl
theorem fn70 (L : Loops) (t : List Int) (bt : Nat) (s : Me) (x : Sc) (hx : GSl encI x t) (hl : t.length ≤ 1000000) (hbt : s.ob bt = .cs [.sc x] 0) (hlt : bt < s.nx) : FnL Try.prog L 70 [.av (.fn 72 [] [.ptr bt 0])] s fun r s' => ∃ io ob' m, r = .av (slOf io t.length) ∧ s' = ⟨ob', m, s.ls⟩ ∧ s.nx ≤ io ∧ s.nx ≤ m ∧ (t.length ≠ 0 → ob' io = .cs (arr t.length fun k => t.getD k 0) 0 ∧ io < m) ∧ ∀ i, i < s.nx → ob' i = s.ob i := by
  refine fn_of_body (ts := [2]) Try.func70 bod70 rfl (by simp) (by simp [Try.ntmps70]) fun D0 => ?_
  unfold Try.f70
  simp only [Option.getD_some, initSl]
  refine aw_region_seq C (pb := false) rfl fun K hK => ?_
  repeat' (first | refine wy0 (h := ?_) | fail)
  refine awOps_nil (hK _ _ ?_)
  clear hK K
  refine aw_region_seq C (pb := false) rfl fun K hK => ?_
  repeat' (first | refine wy0 (h := ?_) | fail)
  refine wc (And.intro Try.call81 (fn81 L t bt _ x hx hl hbt (by first | omega | (dsimp only; omega) | (dsimp only at *; omega)))) ?_
  rintro _ _ ⟨io, ob', m, rfl, rfl, h1, h2, h3, h4⟩
  repeat' (first | refine wy0 (h := ?_) | fail)
  refine awOps_nil (hK _ _ ?_)
  clear hK K
  refine aw_ret ?_
  simp only [go_sem, ↓reduceIte, Nat.reduceEqDiff, reduceCtorEq, Nat.reduceAdd, Nat.reduceMul, Nat.reduceLeDiff, aLoad, aStore, FnQ, resA]
  -- .ret
  exact fun _ => ⟨io, ob', _, rfl, rfl, (by first | omega | (dsimp only; omega) | (dsimp only at *; omega)), (by first | omega | (dsimp only; omega) | (dsimp only at *; omega)), fun h => ⟨(h3 h).1, by have := (h3 h).2; exact (by first | omega | (dsimp only; omega) | (dsimp only at *; omega))⟩, fun i hi => h4 i (by first | omega | (dsimp only; omega) | (dsimp only at *; omega))⟩
end Go.Am.Seat
/-
  slices.Sort at []int: the kit's contract (laid at this program by its own tool, lay-plain.mjs), told of a slice of our own.
-/
namespace Go.Proofs
open Go.Shelf
def Try.lays189_ren : Go.Shelf.Ren := ⟨fun | 189 => 71 | 125 => 83 | 257 => 82 | 128 => 96 | 129 => 97 | 294 => 87 | 295 => 88 | 296 => 89 | 297 => 90 | 298 => 91 | 299 => 92 | 216 => 93 | 300 => 94 | 301 => 95 | 328 => 100 | 329 => 101 | 330 => 102 | 331 => 103 | 332 => 104 | 215 => 105 | 343 => 108 | n => n, fun | 28 => 36 | 3 => 3 | 46 => 98 | 0 => 0 | 51 => 109 | 53 => 111 | 4 => 4 | 183 => 103 | 182 => 102 | 131 => 64 | 5 => 5 | 9 => 9 | 218 => 112 | 222 => 116 | 228 => 121 | 229 => 122 | n => n, fun | n => n⟩
theorem Try.lays189 : Go.Proofs.Lays.n189 Try.prog Try.lays189_ren := {
  mixed := by kernel_rfl
  f125 := Try.func83.trans (congrArg some (by kernel_rfl))
  f128 := Try.func96.trans (congrArg some (by kernel_rfl))
  f129 := Try.func97.trans (congrArg some (by kernel_rfl))
  f189 := Try.func71.trans (congrArg some (by kernel_rfl))
  f215 := Try.func105.trans (congrArg some (by kernel_rfl))
  f216 := Try.func93.trans (congrArg some (by kernel_rfl))
  f257 := Try.func82.trans (congrArg some (by kernel_rfl))
  f294 := Try.func87.trans (congrArg some (by kernel_rfl))
  f295 := Try.func88.trans (congrArg some (by kernel_rfl))
  f296 := Try.func89.trans (congrArg some (by kernel_rfl))
  f297 := Try.func90.trans (congrArg some (by kernel_rfl))
  f298 := Try.func91.trans (congrArg some (by kernel_rfl))
  f299 := Try.func92.trans (congrArg some (by kernel_rfl))
  f300 := Try.func94.trans (congrArg some (by kernel_rfl))
  f301 := Try.func95.trans (congrArg some (by kernel_rfl))
  f328 := Try.func100.trans (congrArg some (by kernel_rfl))
  f329 := Try.func101.trans (congrArg some (by kernel_rfl))
  f330 := Try.func102.trans (congrArg some (by kernel_rfl))
  f331 := Try.func103.trans (congrArg some (by kernel_rfl))
  f332 := Try.func104.trans (congrArg some (by kernel_rfl))
  f343 := Try.func108.trans (congrArg some (by kernel_rfl))
  t0 := Try.underlying0
  a0 := Try.isAgg0
  z0 := Try.sizeOf0
  v0 := Try.zeroValue0
  t3 := Try.underlying3
  a3 := Try.isAgg3
  z3 := Try.sizeOf3
  v3 := Try.zeroValue3
  t4 := Try.underlying4
  a4 := Try.isAgg4
  z4 := Try.sizeOf4
  v4 := Try.zeroValue4
  t5 := Try.underlying5
  a5 := Try.isAgg5
  z5 := Try.sizeOf5
  v5 := Try.zeroValue5
  t9 := Try.underlying9
  a9 := Try.isAgg9
  z9 := Try.sizeOf9
  v9 := Try.zeroValue9
  t28 := Try.underlying36
  a28 := Try.isAgg36
  z28 := Try.sizeOf36
  v28 := Try.zeroValue36
  t46 := Try.underlying98
  a46 := Try.isAgg98
  z46 := Try.sizeOf98
  v46 := Try.zeroValue98
  t51 := Try.underlying109
  a51 := Try.isAgg109
  z51 := Try.sizeOf109
  v51 := Try.zeroValue109
  t53 := Try.underlying111
  a53 := Try.isAgg111
  z53 := Try.sizeOf111
  v53 := Try.zeroValue111
  t131 := Try.underlying64
  a131 := Try.isAgg64
  z131 := Try.sizeOf64
  v131 := Try.zeroValue64
  t182 := Try.underlying102
  a182 := Try.isAgg102
  z182 := Try.sizeOf102
  v182 := Try.zeroValue102
  t183 := Try.underlying103
  a183 := Try.isAgg103
  z183 := Try.sizeOf103
  v183 := Try.zeroValue103
  t218 := Try.underlying112
  a218 := Try.isAgg112
  z218 := Try.sizeOf112
  v218 := Try.zeroValue112
  t222 := Try.underlying116
  a222 := Try.isAgg116
  z222 := Try.sizeOf116
  v222 := Try.zeroValue116
  t228 := Try.underlying121
  a228 := Try.isAgg121
  z228 := Try.sizeOf121
  v228 := Try.zeroValue121
  t229 := Try.underlying122
  a229 := Try.isAgg122
  z229 := Try.sizeOf122
  v229 := Try.zeroValue122 }
end Go.Proofs
namespace Go.Am
theorem Rel.grown {m : Nat → Option Ent} {lb : Nat → Option Nat} {G : Nat → Nat → Prop} {w w' : World} {ob : Nat → Obj} {nx : Nat} (h : Rel m lb G w ob nx) (os : Array Go.Obj) (hh : w'.heap = w.heap ++ os) (h1 : w'.os = w.os) (h2 : w'.tape = w.tape) (h3 : w'.output = w.output) :
    Rel m lb G w' ob nx ∧ Evo m lb G w m G w' := by
  have hold : ∀ b : Nat, b < w.heap.size → w'.heap[b]? = w.heap[b]? := fun b hb => by rw [hh, Array.getElem?_append_left hb]
  have hsz : w.heap.size ≤ w'.heap.size := by rw [hh]; simp
  have on : On m lb G w m lb G w' := ⟨⟨fun _ _ h => h, fun b o hg => cell_of_heap (hold b (h.glt b o hg))⟩, fun _ _ h => h, fun _ _ h => h⟩
  exact ⟨⟨fun i f hf => OR.on on (hold _ (h.mlt i f hf)) (fun _ h => h) (h.obj i f hf), h.inj, fun b o hg => Nat.lt_of_lt_of_le (h.glt b o hg) hsz, fun i f hf => Nat.lt_of_lt_of_le (h.mlt i f hf) hsz, h.fresh, fun l b hl => ⟨Nat.lt_of_lt_of_le (h.ll l b hl).1 hsz, (h.ll l b hl).2⟩⟩,
    on, h1, h2, h3, hsz, fun b hb _ => hold b hb, fun id e he => .inl ⟨id, e, he, rfl⟩⟩
namespace Seat
open Go.Proofs Go.Sort
def cI (l : List Int) : List Av := l.map fun i => .sc (.int .i64 i)
def sortI (l : List Int) : List Int := l.mergeSort fun x y => decide (x ≤ y)
theorem cI_of {m : Nat → Option Ent} {lb : Nat → Option Nat} {G : Nat → Nat → Prop} {w : World} : ∀ {l : List Int} {us : List Value}, ARs m lb G w (cI l) us → us = l.map (Value.int .i64)
  | [], us, h => by simpa [cI, ARs] using h
  | a :: l, us, h => by
    simp only [cI, List.map_cons, ARs, AR, SR] at h
    obtain ⟨u, us', rfl, rfl, h⟩ := h
    rw [cI_of (l := l) (us := us') h]
    rfl
theorem cI_ars {m : Nat → Option Ent} {lb : Nat → Option Nat} {G : Nat → Nat → Prop} {w : World} : ∀ (l : List Int), ARs m lb G w (cI l) (l.map (Value.int .i64))
  | [] => ARs.nil
  | a :: l => ARs.cons (by simp only [AR, SR]) (cI_ars l)
theorem fn71n (L : Loops) (s : Me) : FnL Try.prog L 71 [.av (.sc .nilsl)] s fun r s' => s' = s := by
  intro m G w vs hvs hw
  obtain ⟨v, rfl, hv⟩ := hvs.one
  simp only [VR, AR, SR] at hv
  subst hv
  have h := (callsIn_wide (n := 0)).2 (Any.slices_Sort_int_none Try.lays189 none 0 w)
  refine CallsIn.mono h fun e w' he => ?_
  obtain ⟨rfl, rfl⟩ := he
  exact ⟨.tuple #[], .tup [], s, m, G, rfl, rfl, by simp only [VR]; exact ⟨[], rfl, VRs.nil⟩, hw, Ev.refl, Nat.le_refl _, fun _ _ h => h⟩
theorem fn71 (L : Loops) (l : List Int) (id : Nat) (s : Me) (ho : s.ob id = .cs (cI l) 0) (hl : l.length ≤ 1000000000) : FnL Try.prog L 71 [.av (.own id 0 l.length 1)] s fun r s' => s' = ⟨upd s.ob id (.cs (cI (sortI l)) 0), s.nx, s.ls⟩ := by
  intro m G w vs hvs hw
  obtain ⟨v, rfl, hv⟩ := hvs.one
  simp only [VR, AR] at hv
  obtain ⟨e, hm, hv⟩ := hv
  have hob := hw.rel.obj id e hm
  rw [ho] at hob
  obtain ⟨A, us, hA, hsz, hars, hle, hcell, hfz⟩ := hob
  obtain rfl := cI_of hars
  rcases hv with ⟨c, rfl, hn, hcm, hfit⟩ | ⟨h0, A', rfl⟩
  · have hlt := hw.rel.mlt id e hm
    have hH : Holds (Value.int .i64) w e.b (e.s + 0) l.toArray := by
      intro j hj
      have hj' : j < l.length := by simpa using hj
      refine ⟨?_, by simp [World.frozen?, hA]⟩
      have := hcell j (.int .i64 l[j]) (by simp [List.getElem?_eq_getElem hj'])
      simp only [World.cell?, hA, Nat.add_zero, Option.isSome_none, Bool.false_eq_true, if_false]
      rw [this]
      simp [hj']
    have h := (callsIn_wide (n := 0)).2 (Any.slices_Sort_int Try.lays189 e.b (e.s + 0) c l w hH hlt (by omega))
    refine CallsIn.mono h fun en w' he => ?_
    obtain ⟨rfl, k, os, rfl⟩ := he
    have hlen : (sortI l).length = l.length := by simp [sortI]
    have hblk : (putRow (Value.int .i64) (Sort.ahead w k) e.b (e.s + 0) (sortI l).toArray).heap[e.b]? = some (.cells (putCells (Value.int .i64) (e.s + 0) (sortI l).toArray A) e.t (0, 0)) := by
      simp [putRow, mapBlock, Sort.ahead, Array.getElem?_modify, hA, onCells]
    have hpc : ∀ o : Nat, (putCells (Value.int .i64) (e.s + 0) (sortI l).toArray A)[o]? = if e.s ≤ o ∧ o < e.s + l.length then (if o < A.size then some (.int .i64 (sortI l)[o - e.s]!) else none) else A[o]? := by
      intro o
      simp only [putCells, Nat.add_zero, List.size_toArray, hlen]
      by_cases hoA : o < A.size
      · simp [hoA]
        split <;> simp_all
      · simp [hoA]
    obtain ⟨r1, e1⟩ := hw.rel.turn (w' := putRow (Value.int .i64) (Sort.ahead w k) e.b (e.s + 0) (sortI l).toArray) hm (by rw [ho]; simp) (.cs (cI (sortI l)) 0) (by simp) (by simp [putRow, mapBlock, Sort.ahead]) (fun b hb => by
        simp only [putRow, mapBlock, Sort.ahead, Array.getElem?_modify]
        rw [if_neg (fun h => hb (by rw [h]))]) (fun o hg => by
        have hlo : o < e.s := by
          rcases Nat.lt_or_ge o e.s with h | h
          · exact h
          · exact absurd hg (by have := hfz (o - e.s) (Nat.zero_le _); rwa [show e.s + (o - e.s) = o by omega] at this)
        simp only [World.cell?, hblk, hA, Option.isSome_none, Bool.false_eq_true, if_false]
        rw [hpc, if_neg (by omega)]) rfl rfl rfl (fun on => by
        refine ⟨_, (sortI l).map (Value.int .i64), hblk, by simp [putCells, hsz], cI_ars _, by simpa [cI, hlen] using hle, fun j v hj => ?_, hfz⟩
        have hj' := (List.getElem?_eq_some_iff.1 hj).1
        simp only [List.length_map] at hj'
        have hle' : e.s + l.length ≤ e.sz := by simpa [cI] using hle
        rw [hpc, if_pos (by omega), if_pos (by omega), Nat.add_sub_cancel_left]
        simp [List.getElem?_eq_getElem hj'] at hj
        rw [← hj]
        simp [hj'])
    obtain ⟨r2, e2⟩ := r1.grown (w' := grow (putRow (Value.int .i64) (Sort.ahead w k) e.b (e.s + 0) (sortI l).toArray) os) os rfl rfl rfl rfl
    exact ⟨.tuple #[], .tup [], ⟨upd s.ob id (.cs (cI (sortI l)) 0), s.nx, s.ls⟩, m, G, rfl, rfl, by simp only [VR]; exact ⟨[], rfl, VRs.nil⟩, hw.evo r2 (e1.trans e2) rfl, (e1.trans e2).ev, Nat.le_refl _, fun _ _ h => h⟩
  · have hl0 : l = [] := List.length_eq_zero_iff.1 h0
    subst hl0
    have h := (callsIn_wide (n := 0)).2 (Any.slices_Sort_int_none Try.lays189 A' 0 w)
    refine CallsIn.mono h fun en w' he => ?_
    obtain ⟨rfl, rfl⟩ := he
    exact ⟨.tuple #[], .tup [], ⟨upd s.ob id (.cs (cI (sortI [])) 0), s.nx, s.ls⟩, m, G, rfl, rfl, by simp only [VR]; exact ⟨[], rfl, VRs.nil⟩, hw.agree (fun i _ => upd_self (by rw [ho]; simp [sortI, cI]) i) (Nat.le_refl _) rfl, Ev.refl, Nat.le_refl _, fun _ _ h => h⟩
end Seat
end Go.Am
/-
  MADE BY PROGRAM (am.py): the walks of functions 49.
-/
namespace Go.Am.Seat
open Go.Proofs

theorem cI_arr {l : List Int} : arr l.length (fun k => l.getD k 0) = cI l := by
  refine List.ext_getElem (by simp [arr, cI]) fun i h1 h2 => ?_
  simp only [arr, List.length_map, List.length_range] at h1
  simp [arr, cI, h1]
theorem sortI_len {l : List Int} : (sortI l).length = l.length := by simp [sortI]
theorem cI_pure {ob : Nat → Obj} {id : Nat} {l : List Int} (h : ob id = .cs (cI l) 0) : purV ob (.av (.own id 0 l.length 1)) = some (.av (.sc (.sl l.length (l.map fun i => .int .i64 i))), upd ob id (.cs (cI l) (max 0 (0 + l.length * 1)))) := by
  have hcl : (cI l).length = l.length := by simp [cI]
  simp only [purV, purD, pur, h]
  rw [if_pos (by rw [hcl]; omega), List.drop_zero, List.take_of_length_le (by rw [hcl]; omega)]
  have : cI l = (l.map fun i => Sc.int .i64 i).map .sc := by simp [cI]
  rw [show purL (pur 3) _ (cI l) = _ from (congrArg (purL (pur 3) _) this).trans (purL_plain (fun ob s => by simp [pur]) _ _)]
  rfl
theorem cI_gsl {l : List Int} : GSl encI (.sl l.length (l.map fun i => .int .i64 i)) l := by
  refine .inr ?_
  congr 1
  induction l with
  | nil => rfl
  | cons a l ih => simp [encI, ih]

theorem bod49 : Try.f49.body = some (Try.f49.body.getD .skip) := rfl
theorem fn49 (L : Loops) (t : List Int) (bt : Nat) (s : Me) (x : Sc) (hx : GSl encI x t) (hl : t.length ≤ 1000000) (hbt : s.ob bt = .cs [.sc x] 0) (hlt : bt < s.nx) (hne : t.length ≠ 0) : FnL Try.prog L 49 [.av (.fn 72 [] [.ptr bt 0])] s fun r s' => ∃ io ob' m, r = .av (slOf io t.length) ∧ s' = ⟨ob', m, s.ls⟩ ∧ s.nx ≤ io ∧ s.nx ≤ m ∧ (t.length ≠ 0 → ob' io = .cs (cI (sortI t)) 0 ∧ io < m) ∧ ∀ i, i < s.nx → ob' i = s.ob i := by
  refine fn_of_body (ts := [2]) Try.func49 bod49 rfl (by simp) (by simp [Try.ntmps49]) fun D0 => ?_
  unfold Try.f49
  simp only [Option.getD_some, initSl]
  refine aw_region_seq C (pb := false) rfl fun K hK => ?_
  repeat' (first | refine wy0 (h := ?_) | fail)
  refine awOps_nil (hK _ _ ?_)
  clear hK K
  refine aw_region_seq C (pb := false) rfl fun K hK => ?_
  repeat' (first | refine wy0 (h := ?_) | fail)
  refine wc (And.intro Try.call70 (fn70 L t bt _ x hx hl hbt (by first | omega | (dsimp only; omega) | (dsimp only at *; omega)))) ?_
  rintro _ _ ⟨io, ob', m, rfl, rfl, h1, h2, h3, h4⟩
  have h3 := h3 hne
  rw [slOf_pos hne]
  repeat' (first | refine wy0 (h := ?_) | fail)
  refine awOps_nil (hK _ _ ?_)
  clear hK K
  refine aw_region_seq C (pb := false) rfl fun K hK => ?_
  repeat' (first | refine wy0 (h := ?_) | fail)
  refine wc (And.intro Try.call71 (fn71 L t io _ (h3.1.trans (congrArg (Obj.cs · 0) cI_arr)) (by omega))) ?_
  rintro r1 _ rfl
  refine awOps_nil (hK _ _ ?_)
  clear hK K
  refine aw_region_seq C (pb := false) rfl fun K hK => ?_
  repeat' (first | refine wy0 (h := ?_) | fail)
  refine awOps_nil (hK _ _ ?_)
  clear hK K
  refine aw_ret ?_
  simp only [go_sem, ↓reduceIte, Nat.reduceEqDiff, reduceCtorEq, Nat.reduceAdd, Nat.reduceMul, Nat.reduceLeDiff, aLoad, aStore, FnQ, resA]
  -- .ret
  exact fun _ => ⟨io, upd ob' io (.cs (cI (sortI t)) 0), _, by rw [slOf_pos hne], rfl, (by first | omega | (dsimp only; omega) | (dsimp only at *; omega)), (by first | omega | (dsimp only; omega) | (dsimp only at *; omega)), fun _ => ⟨upd_same _ _ _, by have := h3.2; exact (by first | omega | (dsimp only; omega) | (dsimp only at *; omega))⟩, fun i hi => (upd_ne _ _ (by dsimp only at *; omega)).trans (h4 i (by first | omega | (dsimp only; omega) | (dsimp only at *; omega)))⟩
theorem fn49n (L : Loops) (t : List Int) (bt : Nat) (s : Me) (x : Sc) (hx : GSl encI x t) (hl : t.length ≤ 1000000) (hbt : s.ob bt = .cs [.sc x] 0) (hlt : bt < s.nx) (hne : t.length = 0) : FnL Try.prog L 49 [.av (.fn 72 [] [.ptr bt 0])] s fun r s' => ∃ io ob' m, r = .av (slOf io t.length) ∧ s' = ⟨ob', m, s.ls⟩ ∧ s.nx ≤ io ∧ s.nx ≤ m ∧ (t.length ≠ 0 → ob' io = .cs (cI (sortI t)) 0 ∧ io < m) ∧ ∀ i, i < s.nx → ob' i = s.ob i := by
  refine fn_of_body (ts := [2]) Try.func49 bod49 rfl (by simp) (by simp [Try.ntmps49]) fun D0 => ?_
  unfold Try.f49
  simp only [Option.getD_some, initSl]
  refine aw_region_seq C (pb := false) rfl fun K hK => ?_
  repeat' (first | refine wy0 (h := ?_) | fail)
  refine awOps_nil (hK _ _ ?_)
  clear hK K
  refine aw_region_seq C (pb := false) rfl fun K hK => ?_
  repeat' (first | refine wy0 (h := ?_) | fail)
  refine wc (And.intro Try.call70 (fn70 L t bt _ x hx hl hbt (by first | omega | (dsimp only; omega) | (dsimp only at *; omega)))) ?_
  rintro _ _ ⟨io, ob', m, rfl, rfl, h1, h2, h3, h4⟩
  rw [show slOf io t.length = .sc .nilsl from if_pos hne]
  repeat' (first | refine wy0 (h := ?_) | fail)
  refine awOps_nil (hK _ _ ?_)
  clear hK K
  refine aw_region_seq C (pb := false) rfl fun K hK => ?_
  repeat' (first | refine wy0 (h := ?_) | fail)
  refine wc (And.intro Try.call71 (fn71n L _)) ?_
  rintro r1 _ rfl
  refine awOps_nil (hK _ _ ?_)
  clear hK K
  refine aw_region_seq C (pb := false) rfl fun K hK => ?_
  repeat' (first | refine wy0 (h := ?_) | fail)
  refine awOps_nil (hK _ _ ?_)
  clear hK K
  refine aw_ret ?_
  simp only [go_sem, ↓reduceIte, Nat.reduceEqDiff, reduceCtorEq, Nat.reduceAdd, Nat.reduceMul, Nat.reduceLeDiff, aLoad, aStore, FnQ, resA]
  -- .ret
  exact fun _ => ⟨io, ob', _, by rw [show slOf io t.length = .sc .nilsl from if_pos hne], rfl, (by first | omega | (dsimp only; omega) | (dsimp only at *; omega)), (by first | omega | (dsimp only; omega) | (dsimp only at *; omega)), fun h => absurd hne h, fun i hi => h4 i (by first | omega | (dsimp only; omega) | (dsimp only at *; omega))⟩

theorem fn49p (L : Loops) (t : List Int) (bt : Nat) (s : Me) (x : Sc) (hx : GSl encI x t) (hl : t.length ≤ 1000000) (hbt : s.ob bt = .cs [.sc x] 0) (hlt : bt < s.nx) : FnL Try.prog L 49 [.av (.fn 72 [] [.ptr bt 0])] s fun r s' => (∃ y, r = .av (.sc y) ∧ GSl encI y (sortI t)) ∧ s' = s := by
  refine FnL.pure (R := fun r => ∃ y, r = .av (.sc y) ∧ GSl encI y (sortI t)) (FnL.purR ?_)
  by_cases hne : t.length = 0
  · refine (fn49n L t bt s x hx hl hbt hlt hne).mono fun r s' ⟨io, ob', m, h1, h2, h3, h4, h5, h6⟩ => ?_
    subst h1 h2
    refine ⟨.av (.sc .nilsl), ob', by rw [show slOf io t.length = .sc .nilsl from if_pos hne]; rfl, rfl, fun i hi => h6 i hi, rfl, .nilsl, rfl, .inl ⟨rfl, List.length_eq_zero_iff.1 (by rw [sortI_len, hne])⟩⟩
  · refine (fn49 L t bt s x hx hl hbt hlt hne).mono fun r s' ⟨io, ob', m, h1, h2, h3, h4, h5, h6⟩ => ?_
    subst h1 h2
    have h7 := h5 hne
    refine ⟨_, _, by rw [slOf_pos hne, ← sortI_len (l := t)]; exact cI_pure h7.1, rfl, fun i hi => (upd_ne _ _ (by omega)).trans (h6 i hi), rfl, _, rfl, cI_gsl⟩

end Go.Am.Seat
/-
  MADE BY PROGRAM (am.py): the walks of functions 50.
-/
namespace Go.Am.Seat
open Go.Proofs
theorem bod50 : Try.f50.body = some (Try.f50.body.getD .skip) := rfl
theorem fn50 (L : Loops) (x : Sc) (s : Me)  : FnL Try.prog L 50 [.av (.sc x)] s fun r s' => ∃ bt m, r = .av (.fn 72 [] [.ptr bt 0]) ∧ s.nx ≤ bt ∧ bt < m ∧ s' = ⟨upd s.ob bt (.cs [.sc x] 0), m, s.ls⟩ := by
  refine fn_of_body (ts := [2]) Try.func50 bod50 rfl (by simp) (by simp [Try.ntmps50]) fun D0 => ?_
  unfold Try.f50
  simp only [Option.getD_some, initSl]
  refine aw_region_seq C (pb := false) rfl fun K hK => ?_
  repeat' (first | refine wy0 (h := ?_) | fail)
  refine awOps_nil (hK _ _ ?_)
  clear hK K
  refine aw_region_seq C (pb := false) rfl fun K hK => ?_
  repeat' (first | refine wy1 (a := by simp only [go_sem, ↓reduceIte, Nat.reduceEqDiff, reduceCtorEq, Nat.reduceAdd, Nat.reduceMul, Nat.reduceLeDiff, aLoad, aStore, avs]; exact rfl) (h := ?_) | fail)
  refine awOps_nil (hK _ _ ?_)
  clear hK K
  refine aw_ret ?_
  simp only [go_sem, ↓reduceIte, Nat.reduceEqDiff, reduceCtorEq, Nat.reduceAdd, Nat.reduceMul, Nat.reduceLeDiff, aLoad, aStore, FnQ, resA]
  -- .ret
  exact fun _ => ⟨s.nx, _, rfl, Nat.le_refl _, (by first | omega | (dsimp only; omega) | (dsimp only at *; omega)), rfl⟩
end Go.Am.Seat
/-
  MADE BY PROGRAM (am.py): the walks of functions 61.
-/
namespace Go.Am.Seat
open Go.Proofs

/-- A number's place; -1: it is not there. -/
def placeI : List Int → Int → Nat → Int
  | [], _, _ => -1
  | a :: l, n, i => if (a == n) = true then (i : Int) else placeI l n (i + 1)

theorem bod61 : Try.f61.body = some (Try.f61.body.getD .skip) := rfl
theorem fn61 (L : Loops) (l : List Int) (n : Int) (s : Me) (x : Sc) (hx : GSl encI x l) (hl : l.length ≤ 2199023255552) : FnL Try.prog L 61 [.av (.sc x), vI n] s fun r s' => (r = vI (placeI l n 0)) ∧ s' = s := by
  refine FnL.pure (R := fun r => r = vI (placeI l n 0)) ?_
  refine fn_of_body (ts := [4]) Try.func61 bod61 rfl (by simp) (by simp [Try.ntmps61]) fun D0 => ?_
  unfold Try.f61
  simp only [Option.getD_some, initSl]
  refine aw_region_seq C (pb := false) rfl fun K hK => ?_
  repeat' (first | refine wy0 (h := ?_) | fail)
  refine awOps_nil (hK _ _ ?_)
  clear hK K
  refine aw_seq ?_
  refine aw_region_seq C (pb := false) rfl fun K hK => ?_
  repeat' (first | refine wy0 (h := ?_) | fail)
  refine awOps_nil (hK _ _ ?_)
  clear hK K
  refine aw_block ?_
  refine AW.less (sl' := [(0, .av (.sc x)), (1, vI n), (5, vI (0))]) (AllIn.less ⟨rfl, rfl, rfl, trivial⟩) (aw_loop (fun k sl1 s1 => ∃ (i : Nat), k = l.length - i ∧ sl1 = [(0, .av (.sc x)), (1, vI n), (5, vI (i))] ∧ (Kp s s1) ∧ (i ≤ l.length) ∧ (placeI (l.drop i) n i = placeI l n 0)) (k := l.length - (0)) ⟨0, rfl, rfl, (Kp.refl s).up (by omega), Nat.zero_le _, rfl⟩ ?_)
  rintro k1 _ s1 ⟨i, hk1, rfl, hs1, hb, h3⟩
  refine aw_seq ?_
  refine aw_region_seq C (pb := false) rfl fun K hK => ?_
  repeat' (first | refine wy1 (a := by simp only [go_sem, ↓reduceIte, Nat.reduceEqDiff, reduceCtorEq, Nat.reduceAdd, Nat.reduceMul, Nat.reduceLeDiff, aLoad, aStore, lenI hx]; exact rfl) (h := ?_) | fail)
  refine awOps_nil (hK _ _ ?_)
  clear hK K
  refine aw_cond (by rfl) ?_ ?_
  · intro hc0
    try simp only [decide_eq_true_eq, decide_eq_false_iff_not] at hc0
    have hi2 : i < l.length := by omega
    have hi3 : 1 ≤ l.length - i := by omega
    refine aw_skip ?_
    simp only [thenA_normal, thenA_ret, thenA_exit, blockA_normal, blockA_ret, blockA_exit, ↓reduceIte, Nat.reduceEqDiff]
    refine aw_seq ?_
    refine aw_block ?_
    refine aw_region_seq C (pb := false) rfl fun K hK => ?_
    repeat' (first | refine wy1 (a := by simp only [go_sem, ↓reduceIte, Nat.reduceEqDiff, reduceCtorEq, Nat.reduceAdd, Nat.reduceMul, Nat.reduceLeDiff, aLoad, aStore, idxI hx hi2]; exact rfl) (h := ?_) | fail)
    refine awOps_nil (hK _ _ ?_)
    clear hK K
    refine aw_cond (by rfl) ?_ ?_
    · intro hc1
      try simp only [decide_eq_true_eq, decide_eq_false_iff_not] at hc1
      refine aw_region_seq C (pb := false) rfl fun K hK => ?_
      repeat' (first | refine wy0 (h := ?_) | fail)
      refine awOps_nil (hK _ _ ?_)
      clear hK K
      refine aw_ret ?_
      try simp only [thenA_normal, thenA_ret, thenA_exit, blockA_normal, blockA_ret, blockA_exit]
      simp only [go_sem, ↓reduceIte, Nat.reduceEqDiff, reduceCtorEq, Nat.reduceAdd, Nat.reduceMul, Nat.reduceLeDiff, aLoad, aStore, FnQ, resA]
      -- 0t1t.ret
      refine fun _ => ⟨rfl, hs1.2.1, hs1.2.2, ?_⟩
      rw [← h3, List.drop_eq_getElem_cons hi2, placeI, if_pos hc1]
    · intro hc1
      try simp only [decide_eq_true_eq, decide_eq_false_iff_not] at hc1
      refine aw_skip ?_
      simp only [thenA_normal, thenA_ret, thenA_exit, blockA_normal, blockA_ret, blockA_exit, ↓reduceIte, Nat.reduceEqDiff]
      refine aw_region C (pb := false) rfl ?_
      repeat' (first | refine wy1 (a := by simp only [go_sem, ↓reduceIte, Nat.reduceEqDiff, reduceCtorEq, Nat.reduceAdd, Nat.reduceMul, Nat.reduceLeDiff, aLoad, aStore, wrap_small ((i : Int) + 1) (by omega) (by omega)]; exact rfl) (h := ?_) | fail)
      refine awOps_nil ?_
      try simp only [thenA_normal, thenA_ret, thenA_exit, blockA_normal, blockA_ret, blockA_exit]
      -- end of round 0 at 0t1f
      refine ⟨l.length - (i + 1), [(0, .av (.sc x)), (1, vI n), (5, vI (i + 1))], by omega, AllIn.less ⟨rfl, rfl, rfl, trivial⟩, i + 1, rfl, rfl, ?_, ?_, ?_⟩
      · exact hs1.up (by omega)
      · omega
      · rw [← h3, List.drop_eq_getElem_cons hi2, placeI, if_neg (by rw [hc1]; exact Bool.false_ne_true)]
  · intro hc0
    try simp only [decide_eq_true_eq, decide_eq_false_iff_not] at hc0
    refine aw_exit ?_
    simp only [thenA_normal, thenA_ret, thenA_exit, blockA_normal, blockA_ret, blockA_exit, ↓reduceIte, Nat.reduceEqDiff]
    refine aw_region_seq C (pb := false) rfl fun K hK => ?_
    repeat' (first | refine wy0 (h := ?_) | fail)
    refine awOps_nil (hK _ _ ?_)
    clear hK K
    refine aw_ret ?_
    simp only [go_sem, ↓reduceIte, Nat.reduceEqDiff, reduceCtorEq, Nat.reduceAdd, Nat.reduceMul, Nat.reduceLeDiff, aLoad, aStore, FnQ, resA]
    -- 0f.x0.ret
    refine fun _ => ⟨rfl, hs1.2.1, hs1.2.2, ?_⟩
    rw [← h3, List.drop_of_length_le (by omega), placeI]
end Go.Am.Seat
/-
  MADE BY PROGRAM (am.py): the walks of functions 78.
-/
namespace Go.Am.Seat
open Go.Proofs
theorem bod78 : Try.f78.body = some (Try.f78.body.getD .skip) := rfl
theorem fn78 (L : Loops) (l : List Int) (n : Int) (s : Me) (x : Sc) (hx : GSl encI x l) (hl : l.length ≤ 2199023255552) : FnL Try.prog L 78 [.av (.sc x), vI n] s fun r s' => (r = vI (placeI l n 0)) ∧ s' = s := by
  refine FnL.pure (R := fun r => r = vI (placeI l n 0)) ?_
  refine fn_of_body (ts := [4]) Try.func78 bod78 rfl (by simp) (by simp [Try.ntmps78]) fun D0 => ?_
  unfold Try.f78
  simp only [Option.getD_some, initSl]
  refine aw_region_seq C (pb := false) rfl fun K hK => ?_
  repeat' (first | refine wy0 (h := ?_) | fail)
  refine awOps_nil (hK _ _ ?_)
  clear hK K
  refine aw_seq ?_
  refine aw_region_seq C (pb := false) rfl fun K hK => ?_
  repeat' (first | refine wy1 (a := by simp only [go_sem, ↓reduceIte, Nat.reduceEqDiff, reduceCtorEq, Nat.reduceAdd, Nat.reduceMul, Nat.reduceLeDiff, aLoad, aStore, lenI hx]; exact rfl) (h := ?_) | fail)
  refine awOps_nil (hK _ _ ?_)
  clear hK K
  refine aw_block ?_
  refine AW.less (sl' := [(0, .av (.sc x)), (1, vI n), (7, vI l.length), (8, vI (0))]) (AllIn.less ⟨rfl, rfl, rfl, rfl, trivial⟩) (aw_loop (fun k sl1 s1 => ∃ (i : Nat), k = l.length - i ∧ sl1 = [(0, .av (.sc x)), (1, vI n), (7, vI l.length), (8, vI (i))] ∧ (Kp s s1) ∧ (i ≤ l.length) ∧ (placeI (l.drop i) n i = placeI l n 0)) (k := l.length - (0)) ⟨0, rfl, rfl, (Kp.refl s).up (by omega), Nat.zero_le _, rfl⟩ ?_)
  rintro k1 _ s1 ⟨i, hk1, rfl, hs1, hb, h3⟩
  refine aw_region_seq C (pb := false) rfl fun K hK => ?_
  repeat' (first | refine wy0 (h := ?_) | fail)
  refine awOps_nil (hK _ _ ?_)
  clear hK K
  refine aw_seq ?_
  refine aw_cond (by rfl) ?_ ?_
  · intro hc0
    try simp only [decide_eq_true_eq, decide_eq_false_iff_not] at hc0
    have hi2 : i < l.length := by omega
    refine aw_skip ?_
    simp only [thenA_normal, thenA_ret, thenA_exit, blockA_normal, blockA_ret, blockA_exit, ↓reduceIte, Nat.reduceEqDiff]
    refine aw_seq ?_
    refine aw_block ?_
    refine aw_region_seq C (pb := false) rfl fun K hK => ?_
    repeat' (first | refine wy0 (h := ?_) | fail)
    refine awOps_nil (hK _ _ ?_)
    clear hK K
    refine aw_region_seq C (pb := false) rfl fun K hK => ?_
    repeat' (first | refine wy1 (a := by simp only [go_sem, ↓reduceIte, Nat.reduceEqDiff, reduceCtorEq, Nat.reduceAdd, Nat.reduceMul, Nat.reduceLeDiff, aLoad, aStore, idxI hx hi2]; exact rfl) (h := ?_) | fail)
    refine awOps_nil (hK _ _ ?_)
    clear hK K
    refine aw_cond (by rfl) ?_ ?_
    · intro hc1
      try simp only [beq_iff_eq, beq_eq_false_iff_ne, ne_eq] at hc1
      refine aw_region_seq C (pb := false) rfl fun K hK => ?_
      repeat' (first | refine wy0 (h := ?_) | fail)
      refine awOps_nil (hK _ _ ?_)
      clear hK K
      refine aw_ret ?_
      try simp only [thenA_normal, thenA_ret, thenA_exit, blockA_normal, blockA_ret, blockA_exit]
      simp only [go_sem, ↓reduceIte, Nat.reduceEqDiff, reduceCtorEq, Nat.reduceAdd, Nat.reduceMul, Nat.reduceLeDiff, aLoad, aStore, FnQ, resA]
      -- 0t1t.ret
      exact fun _ => ⟨by first | rfl | trivial, hs1.2.1, hs1.2.2, by rw [← h3, List.drop_eq_getElem_cons hi2, placeI, if_pos (by rw [beq_iff_eq]; exact hc1.symm)]⟩
    · intro hc1
      try simp only [beq_iff_eq, beq_eq_false_iff_ne, ne_eq] at hc1
      refine aw_skip ?_
      simp only [thenA_normal, thenA_ret, thenA_exit, blockA_normal, blockA_ret, blockA_exit, ↓reduceIte, Nat.reduceEqDiff]
      refine aw_region C (pb := false) rfl ?_
      repeat' (first | refine wy1 (a := by simp only [go_sem, ↓reduceIte, Nat.reduceEqDiff, reduceCtorEq, Nat.reduceAdd, Nat.reduceMul, Nat.reduceLeDiff, aLoad, aStore, wrap_small ((i : Int) + 1) (by omega) (by omega)]; exact rfl) (h := ?_) | fail)
      refine awOps_nil ?_
      try simp only [thenA_normal, thenA_ret, thenA_exit, blockA_normal, blockA_ret, blockA_exit]
      -- end of round 0 at 0t1f
      refine ⟨l.length - (i + 1), [(0, .av (.sc x)), (1, vI n), (7, vI l.length), (8, vI (i + 1))], by omega, AllIn.less ⟨rfl, rfl, rfl, rfl, trivial⟩, i + 1, rfl, rfl, ?_, ?_, ?_⟩
      · exact hs1.up (by omega)
      · omega
      · rw [← h3, List.drop_eq_getElem_cons hi2, placeI, if_neg (by rw [beq_iff_eq]; exact fun h => hc1 h.symm)]
  · intro hc0
    try simp only [decide_eq_true_eq, decide_eq_false_iff_not] at hc0
    refine aw_exit ?_
    simp only [thenA_normal, thenA_ret, thenA_exit, blockA_normal, blockA_ret, blockA_exit, ↓reduceIte, Nat.reduceEqDiff]
    refine aw_region_seq C (pb := false) rfl fun K hK => ?_
    repeat' (first | refine wy0 (h := ?_) | fail)
    refine awOps_nil (hK _ _ ?_)
    clear hK K
    refine aw_ret ?_
    simp only [go_sem, ↓reduceIte, Nat.reduceEqDiff, reduceCtorEq, Nat.reduceAdd, Nat.reduceMul, Nat.reduceLeDiff, aLoad, aStore, FnQ, resA]
    -- 0f.x0.ret
    exact fun _ => ⟨by first | rfl | trivial, hs1.2.1, hs1.2.2, by rw [← h3, List.drop_of_length_le (by omega), placeI]⟩
end Go.Am.Seat
/-
  MADE BY PROGRAM (am.py): the walks of functions 73.
-/
namespace Go.Am.Seat
open Go.Proofs

theorem placeI_ge : ∀ (l : List Int) (n : Int) (k : Nat), decide (placeI l n k ≥ 0) = l.contains n
  | [], n, k => by simp [placeI]
  | a :: l, n, k => by
    rw [placeI, List.contains_cons]
    by_cases h : (a == n) = true
    · rw [if_pos h, show (n == a) = true by rw [beq_iff_eq] at h ⊢; exact h.symm]
      simp
    · rw [if_neg h, placeI_ge l n (k + 1), show (n == a) = false by
        rw [Bool.eq_false_iff]; intro h'; rw [beq_iff_eq] at h'; exact h (by rw [beq_iff_eq]; exact h'.symm)]
      simp

theorem bod73 : Try.f73.body = some (Try.f73.body.getD .skip) := rfl
theorem fn73 (L : Loops) (l : List Int) (n : Int) (s : Me) (x : Sc) (hx : GSl encI x l) (hl : l.length ≤ 2199023255552) : FnL Try.prog L 73 [.av (.sc x), vI n] s fun r s' => (r = vB (l.contains n)) ∧ s' = s := by
  refine FnL.pure (R := fun r => r = vB (l.contains n)) ?_
  refine fn_of_body (ts := [4]) Try.func73 bod73 rfl (by simp) (by simp [Try.ntmps73]) fun D0 => ?_
  unfold Try.f73
  simp only [Option.getD_some, initSl]
  refine aw_region_seq C (pb := false) rfl fun K hK => ?_
  repeat' (first | refine wy0 (h := ?_) | fail)
  refine awOps_nil (hK _ _ ?_)
  clear hK K
  refine aw_region_seq C (pb := false) rfl fun K hK => ?_
  repeat' (first | refine wy0 (h := ?_) | fail)
  (refine wc (And.intro Try.call78 (fn78 L l n _ x hx hl)) ?_; rintro _ _ ⟨rfl, rfl⟩)
  repeat' (first | refine wy0 (h := ?_) | fail)
  refine awOps_nil (hK _ _ ?_)
  clear hK K
  refine aw_ret ?_
  simp only [go_sem, ↓reduceIte, Nat.reduceEqDiff, reduceCtorEq, Nat.reduceAdd, Nat.reduceMul, Nat.reduceLeDiff, aLoad, aStore, FnQ, resA]
  -- .ret
  exact fun _ => ⟨by first | rfl | trivial, by first | exact fun _ _ => rfl | trivial, by first | rfl | trivial, by rw [← placeI_ge l n 0]⟩
end Go.Am.Seat
/-
  MADE BY PROGRAM (am.py): the walks of functions 60.
-/
namespace Go.Am.Seat
open Go.Proofs
theorem bod60 : Try.f60.body = some (Try.f60.body.getD .skip) := rfl
theorem fn60 (L : Loops) (l : List Int) (n : Int) (s : Me) (x : Sc) (hx : GSl encI x l) (hl : l.length ≤ 2199023255552) : FnL Try.prog L 60 [.av (.sc x), vI n] s fun r s' => (r = vB (l.contains n)) ∧ s' = s := by
  refine FnL.pure (R := fun r => r = vB (l.contains n)) ?_
  refine fn_of_body (ts := [4]) Try.func60 bod60 rfl (by simp) (by simp [Try.ntmps60]) fun D0 => ?_
  unfold Try.f60
  simp only [Option.getD_some, initSl]
  refine aw_region_seq C (pb := false) rfl fun K hK => ?_
  repeat' (first | refine wy0 (h := ?_) | fail)
  refine awOps_nil (hK _ _ ?_)
  clear hK K
  refine aw_seq ?_
  refine aw_region_seq C (pb := false) rfl fun K hK => ?_
  repeat' (first | refine wy0 (h := ?_) | fail)
  refine awOps_nil (hK _ _ ?_)
  clear hK K
  refine aw_block ?_
  refine AW.less (sl' := [(0, .av (.sc x)), (1, vI n), (5, vI (0))]) (AllIn.less ⟨rfl, rfl, rfl, trivial⟩) (aw_loop (fun k sl1 s1 => ∃ (i : Nat), k = l.length - i ∧ sl1 = [(0, .av (.sc x)), (1, vI n), (5, vI (i))] ∧ (Kp s s1) ∧ (i ≤ l.length) ∧ ((l.take i).contains n = false)) (k := l.length - (0)) ⟨0, rfl, rfl, (Kp.refl s).up (by omega), Nat.zero_le _, by simp⟩ ?_)
  rintro k1 _ s1 ⟨i, hk1, rfl, hs1, hb, h3⟩
  refine aw_seq ?_
  refine aw_region_seq C (pb := false) rfl fun K hK => ?_
  repeat' (first | refine wy1 (a := by simp only [go_sem, ↓reduceIte, Nat.reduceEqDiff, reduceCtorEq, Nat.reduceAdd, Nat.reduceMul, Nat.reduceLeDiff, aLoad, aStore, lenI hx]; exact rfl) (h := ?_) | fail)
  refine awOps_nil (hK _ _ ?_)
  clear hK K
  refine aw_cond (by rfl) ?_ ?_
  · intro hc0
    try simp only [decide_eq_true_eq, decide_eq_false_iff_not] at hc0
    have hi2 : i < l.length := by omega
    have hi3 : 1 ≤ l.length - i := by omega
    refine aw_skip ?_
    simp only [thenA_normal, thenA_ret, thenA_exit, blockA_normal, blockA_ret, blockA_exit, ↓reduceIte, Nat.reduceEqDiff]
    refine aw_seq ?_
    refine aw_block ?_
    refine aw_region_seq C (pb := false) rfl fun K hK => ?_
    repeat' (first | refine wy1 (a := by simp only [go_sem, ↓reduceIte, Nat.reduceEqDiff, reduceCtorEq, Nat.reduceAdd, Nat.reduceMul, Nat.reduceLeDiff, aLoad, aStore, idxI hx hi2]; exact rfl) (h := ?_) | fail)
    refine awOps_nil (hK _ _ ?_)
    clear hK K
    refine aw_cond (by rfl) ?_ ?_
    · intro hc1
      try simp only [decide_eq_true_eq, decide_eq_false_iff_not] at hc1
      refine aw_region_seq C (pb := false) rfl fun K hK => ?_
      repeat' (first | refine wy0 (h := ?_) | fail)
      refine awOps_nil (hK _ _ ?_)
      clear hK K
      refine aw_ret ?_
      try simp only [thenA_normal, thenA_ret, thenA_exit, blockA_normal, blockA_ret, blockA_exit]
      simp only [go_sem, ↓reduceIte, Nat.reduceEqDiff, reduceCtorEq, Nat.reduceAdd, Nat.reduceMul, Nat.reduceLeDiff, aLoad, aStore, FnQ, resA]
      -- 0t1t.ret
      refine fun _ => ⟨rfl, hs1.2.1, hs1.2.2, ?_⟩
      have : l.contains n = true := by
        rw [List.contains_iff_mem]
        simp only [beq_iff_eq] at hc1
        exact hc1 ▸ List.getElem_mem hi2
      rw [this]
    · intro hc1
      try simp only [decide_eq_true_eq, decide_eq_false_iff_not] at hc1
      refine aw_skip ?_
      simp only [thenA_normal, thenA_ret, thenA_exit, blockA_normal, blockA_ret, blockA_exit, ↓reduceIte, Nat.reduceEqDiff]
      refine aw_region C (pb := false) rfl ?_
      repeat' (first | refine wy1 (a := by simp only [go_sem, ↓reduceIte, Nat.reduceEqDiff, reduceCtorEq, Nat.reduceAdd, Nat.reduceMul, Nat.reduceLeDiff, aLoad, aStore, wrap_small ((i : Int) + 1) (by omega) (by omega)]; exact rfl) (h := ?_) | fail)
      refine awOps_nil ?_
      try simp only [thenA_normal, thenA_ret, thenA_exit, blockA_normal, blockA_ret, blockA_exit]
      -- end of round 0 at 0t1f
      refine ⟨l.length - (i + 1), [(0, .av (.sc x)), (1, vI n), (5, vI (i + 1))], by omega, AllIn.less ⟨rfl, rfl, rfl, trivial⟩, i + 1, rfl, rfl, ?_, ?_, ?_⟩
      · exact hs1.up (by omega)
      · omega
      · rw [List.take_succ_eq_append_getElem hi2]
        simp only [List.contains_append, h3, Bool.false_or]
        simp only [beq_eq_false_iff_ne] at hc1
        simpa using fun h => hc1 h.symm
  · intro hc0
    try simp only [decide_eq_true_eq, decide_eq_false_iff_not] at hc0
    refine aw_exit ?_
    simp only [thenA_normal, thenA_ret, thenA_exit, blockA_normal, blockA_ret, blockA_exit, ↓reduceIte, Nat.reduceEqDiff]
    refine aw_region_seq C (pb := false) rfl fun K hK => ?_
    repeat' (first | refine wy0 (h := ?_) | fail)
    refine awOps_nil (hK _ _ ?_)
    clear hK K
    refine aw_ret ?_
    simp only [go_sem, ↓reduceIte, Nat.reduceEqDiff, reduceCtorEq, Nat.reduceAdd, Nat.reduceMul, Nat.reduceLeDiff, aLoad, aStore, FnQ, resA]
    -- 0f.x0.ret
    refine fun _ => ⟨rfl, hs1.2.1, hs1.2.2, ?_⟩
    rw [List.take_of_length_le (by omega)] at h3
    rw [h3]
end Go.Am.Seat
/-
  MADE BY PROGRAM (am.py): the walks of functions 24.
-/
namespace Go.Am.Seat
open Go.Proofs

def varsG : List Cell → List Int → List Int
  | [], out => out
  | c :: l, out => varsG l (if ((c.kind == 1) && !(out.contains c.n)) = true then out ++ [c.n] else out)

theorem bod24 : Try.f24.body = some (Try.f24.body.getD .skip) := rfl
theorem fn24 (L : Loops) (t : List Cell) (s : Me) (x : Sc) (hx : GSl encC x t) (hl : t.length ≤ 1000000000) : FnL Try.prog L 24 [.av (.sc x)] s fun r s' => (∃ y, r = .av (.sc y) ∧ GSl encI y (varsG t [])) ∧ s' = s := by
  refine FnL.pure (R := fun r => ∃ y, r = .av (.sc y) ∧ GSl encI y (varsG t [])) ?_
  refine fn_of_body (ts := [2]) Try.func24 bod24 rfl (by simp) (by simp [Try.ntmps24]) fun D0 => ?_
  unfold Try.f24
  simp only [Option.getD_some, initSl]
  refine aw_region_seq C (pb := false) rfl fun K hK => ?_
  repeat' (first | refine wy0 (h := ?_) | fail)
  refine awOps_nil (hK _ _ ?_)
  clear hK K
  refine aw_region_seq C (pb := false) rfl fun K hK => ?_
  repeat' (first | refine wy0 (h := ?_) | fail)
  refine awOps_nil (hK _ _ ?_)
  clear hK K
  refine aw_seq ?_
  refine aw_region_seq C (pb := false) rfl fun K hK => ?_
  repeat' (first | refine wy0 (h := ?_) | fail)
  refine awOps_nil (hK _ _ ?_)
  clear hK K
  refine aw_block ?_
  refine AW.less (sl' := [(0, .av (.sc x)), (3, (_)), (4, vI (0))]) (AllIn.less ⟨rfl, rfl, rfl, trivial⟩) (aw_loop (fun k sl1 s1 => ∃ (i : Nat) (xo : Va) (out : List Int), k = t.length - i ∧ sl1 = [(0, .av (.sc x)), (3, (xo)), (4, vI (i))] ∧ (Kp s s1) ∧ (i ≤ t.length ∧ out.length ≤ i) ∧ (Acc s.nx s1.nx s1.ob xo out.length 1 ((out.flatMap encI).map .sc)) ∧ (varsG (t.drop i) out = varsG t [])) (k := t.length - (0)) ⟨0, _, [], rfl, rfl, ⟨by first | omega | (dsimp only; omega), fun j hj => upd_ne _ _ (by omega), rfl⟩, by simp, .inr ⟨_, 0, rfl, by first | omega | (dsimp only; omega), by first | omega | (dsimp only; omega), upd_same _ _ _, by simp, by simp⟩, rfl⟩ ?_)
  rintro k1 _ s1 ⟨i, xo, out, hk1, rfl, hs1, hb, hacc, h3⟩
  refine aw_seq ?_
  refine aw_region_seq C (pb := false) rfl fun K hK => ?_
  repeat' (first | refine wy1 (a := by simp only [go_sem, ↓reduceIte, Nat.reduceEqDiff, reduceCtorEq, Nat.reduceAdd, Nat.reduceMul, Nat.reduceLeDiff, aLoad, aStore, lenC hx]; exact rfl) (h := ?_) | fail)
  refine awOps_nil (hK _ _ ?_)
  clear hK K
  refine aw_cond (by rfl) ?_ ?_
  · intro hc0
    try simp only [decide_eq_true_eq, decide_eq_false_iff_not] at hc0
    have hi2 : i < t.length := by omega
    have hdrop : t.drop i = t[i] :: t.drop (i + 1) := List.drop_eq_getElem_cons hi2
    refine aw_skip ?_
    simp only [thenA_normal, thenA_ret, thenA_exit, blockA_normal, blockA_ret, blockA_exit, ↓reduceIte, Nat.reduceEqDiff]
    refine aw_seq ?_
    refine aw_block ?_
    obtain ⟨tx, ob2, hpv, htx, hacc2, hlow, _⟩ := Acc.pure (enc := encI) (k := 1) (fun _ => rfl) hacc
    refine aw_cutM_seq C (pb := false) [(0, .av (.sc x)), (3, xo), (4, vI i), (27, vB ((t[i].kind == 1) && !(out.contains t[i].n)))] (fun s2 => Kp s s2 ∧ Acc s.nx s2.nx s2.ob xo out.length 1 ((out.flatMap encI).map .sc)) rfl ?_ fun sM5 hM5 => ?_
    · cases hA0 : (t[i].kind == 1 : Bool) <;> cases hA1 : (out.contains t[i].n : Bool)
      all_goals (repeat' (first | refine wy1 (a := by simp only [go_sem, ↓reduceIte, Nat.reduceEqDiff, reduceCtorEq, Nat.reduceAdd, Nat.reduceMul, Nat.reduceLeDiff, aLoad, aStore, idxC hx hi2, hA0, hA1]; exact rfl) (h := ?_) | refine wn (h := ?_) | fail))
      all_goals (try (first | (refine wc (And.intro Try.call60 (FnL.pur (PurArgs.pur hpv (PurArgs.keep PurArgs.nil)) (fn60 L out t[i].n _ tx htx (by omega)))) ?_; rintro _ _ ⟨rfl, rfl⟩) | refine wn (h := ?_) | fail))
      all_goals (repeat' (first | refine wy1 (a := by simp only [go_sem, ↓reduceIte, Nat.reduceEqDiff, reduceCtorEq, Nat.reduceAdd, Nat.reduceMul, Nat.reduceLeDiff, aLoad, aStore, idxC hx hi2, hA0, hA1]; exact rfl) (h := ?_) | refine wn (h := ?_) | fail))
      all_goals (first | exact awOps_nil ⟨⟨rfl, rfl, rfl, rfl, trivial⟩, hs1.up (by omega), hacc.up (by first | omega | (dsimp only; omega)) fun _ _ _ => rfl⟩ | exact awOps_nil ⟨⟨rfl, rfl, rfl, rfl, trivial⟩, ⟨by have := hs1.1; dsimp only; omega, fun i hi => (hlow i hi).trans (hs1.2.1 i hi), hs1.2.2⟩, hacc2.up (by first | omega | (dsimp only; omega)) fun _ _ _ => rfl⟩ | fail)
    refine aw_cond (by rfl) ?_ ?_
    · intro hc1
      try simp only [decide_eq_true_eq, decide_eq_false_iff_not] at hc1
      refine aw_region C (pb := false) rfl ?_
      repeat' (first | refine wy1 (a := by simp only [go_sem, ↓reduceIte, Nat.reduceEqDiff, reduceCtorEq, Nat.reduceAdd, Nat.reduceMul, Nat.reduceLeDiff, aLoad, aStore, idxC hx hi2]; exact rfl) (h := ?_) | fail)
      refine awOps_append (by rfl) (by rfl) (by rfl) (by rfl) (hM5.2.up (hi' := sM5.nx + 7) (by omega) fun j h1 h2 => upd_ne _ _ (by omega)) T36 rfl T3 rfl (by simp) (by simp [y3]) (k := 1) (new := [.sc (.int .i64 t[i].n)]) (by simp [aSrc, evA, get, upd, zerosA]) (by simp) (by omega) (by omega) (by have := hM5.1.1; omega) fun x6 ob6 hacc6 hlow6 _ => ?_
      repeat' (first | refine wy1 (a := by simp only [go_sem, ↓reduceIte, Nat.reduceEqDiff, reduceCtorEq, Nat.reduceAdd, Nat.reduceMul, Nat.reduceLeDiff, aLoad, aStore, idxC hx hi2]; exact rfl) (h := ?_) | fail)
      refine awOps_nil ?_
      try simp only [thenA_normal, thenA_ret, thenA_exit, blockA_normal, blockA_ret, blockA_exit]
      refine aw_region C (pb := false) rfl ?_
      repeat' (first | refine wy1 (a := by simp only [go_sem, ↓reduceIte, Nat.reduceEqDiff, reduceCtorEq, Nat.reduceAdd, Nat.reduceMul, Nat.reduceLeDiff, aLoad, aStore, wrap_small ((i : Int) + 1) (by omega) (by omega)]; exact rfl) (h := ?_) | fail)
      refine awOps_nil ?_
      try simp only [thenA_normal, thenA_ret, thenA_exit, blockA_normal, blockA_ret, blockA_exit]
      -- end of round 0 at 0t1t
      refine ⟨t.length - (i + 1), [(0, .av (.sc x)), (3, (x6)), (4, vI (i + 1))], by omega, AllIn.less ⟨rfl, rfl, rfl, trivial⟩, i + 1, x6, out ++ [t[i].n], rfl, rfl, ?_, ?_, ?_, ?_⟩
      · exact ⟨by have := hM5.1.1; dsimp only; omega, fun j hj => (hlow6 j hj).trans ((upd_ne _ _ (by have := hM5.1.1; omega)).trans (hM5.1.2.1 j hj)), hM5.1.2.2⟩
      · simp only [List.length_append, List.length_cons, List.length_nil]
        omega
      · have h := hacc6.up (hi' := sM5.nx + 1 + 1 + 1 + 1 + 1 + 1 + 1 + 1 + 1 + 1 + 1 + 1) (by omega) fun _ _ _ => rfl
        simpa [encI] using h
      · rw [← h3, hdrop, varsG, if_pos hc1]
    · intro hc1
      try simp only [decide_eq_true_eq, decide_eq_false_iff_not] at hc1
      refine aw_skip ?_
      simp only [thenA_normal, thenA_ret, thenA_exit, blockA_normal, blockA_ret, blockA_exit, ↓reduceIte, Nat.reduceEqDiff]
      refine aw_region C (pb := false) rfl ?_
      repeat' (first | refine wy1 (a := by simp only [go_sem, ↓reduceIte, Nat.reduceEqDiff, reduceCtorEq, Nat.reduceAdd, Nat.reduceMul, Nat.reduceLeDiff, aLoad, aStore, wrap_small ((i : Int) + 1) (by omega) (by omega)]; exact rfl) (h := ?_) | fail)
      refine awOps_nil ?_
      try simp only [thenA_normal, thenA_ret, thenA_exit, blockA_normal, blockA_ret, blockA_exit]
      -- end of round 0 at 0t1f
      refine ⟨t.length - (i + 1), [(0, .av (.sc x)), (3, (xo)), (4, vI (i + 1))], by omega, AllIn.less ⟨rfl, rfl, rfl, trivial⟩, i + 1, xo, out, rfl, rfl, ?_, ?_, ?_, ?_⟩
      · exact hM5.1.up (by omega)
      · omega
      · exact hM5.2.up (by first | omega | (dsimp only; omega)) fun _ _ _ => rfl
      · rw [← h3, hdrop, varsG, if_neg (by rw [hc1]; exact Bool.false_ne_true)]
  · intro hc0
    try simp only [decide_eq_true_eq, decide_eq_false_iff_not] at hc0
    refine aw_exit ?_
    simp only [thenA_normal, thenA_ret, thenA_exit, blockA_normal, blockA_ret, blockA_exit, ↓reduceIte, Nat.reduceEqDiff]
    obtain ⟨ty, ob7, hpv7, hty, hacc7, hlow7, _⟩ := Acc.pure (enc := encI) (k := 1) (fun _ => rfl) hacc
    refine aw_pur 3 hpv7 ?_
    refine aw_region_seq C (pb := false) rfl fun K hK => ?_
    repeat' (first | refine wy0 (h := ?_) | fail)
    refine awOps_nil (hK _ _ ?_)
    clear hK K
    refine aw_ret ?_
    simp only [go_sem, ↓reduceIte, Nat.reduceEqDiff, reduceCtorEq, Nat.reduceAdd, Nat.reduceMul, Nat.reduceLeDiff, aLoad, aStore, FnQ, resA]
    -- 0f.x0.ret
    exact fun _ => ⟨rfl, fun j hj => (hlow7 j hj).trans (hs1.2.1 j hj), hs1.2.2, ty, rfl, by rw [List.drop_of_length_le (by omega), varsG] at h3; exact h3 ▸ hty⟩
end Go.Am.Seat
/-
  MADE BY PROGRAM (am.py): the walks of functions 51.
-/
namespace Go.Am.Seat
open Go.Proofs
theorem bod51 : Try.f51.body = some (Try.f51.body.getD .skip) := rfl
theorem fn51 (L : Loops) (t : List Cell) (s : Me) (x : Sc) (hx : GSl encC x t) (hl : t.length ≤ 1000000000) : FnL Try.prog L 51 [.av (.sc x)] s fun r s' => (∃ y, r = .av (.sc y) ∧ GSl encI y (varsG t [])) ∧ s' = s := by
  refine FnL.pure (R := fun r => ∃ y, r = .av (.sc y) ∧ GSl encI y (varsG t [])) ?_
  refine fn_of_body (ts := [2]) Try.func51 bod51 rfl (by simp) (by simp [Try.ntmps51]) fun D0 => ?_
  unfold Try.f51
  simp only [Option.getD_some, initSl]
  refine aw_region_seq C (pb := false) rfl fun K hK => ?_
  repeat' (first | refine wy0 (h := ?_) | fail)
  refine awOps_nil (hK _ _ ?_)
  clear hK K
  refine aw_region_seq C (pb := false) rfl fun K hK => ?_
  repeat' (first | refine wy0 (h := ?_) | fail)
  refine awOps_nil (hK _ _ ?_)
  clear hK K
  refine aw_seq ?_
  refine aw_region_seq C (pb := false) rfl fun K hK => ?_
  repeat' (first | refine wy1 (a := by simp only [go_sem, ↓reduceIte, Nat.reduceEqDiff, reduceCtorEq, Nat.reduceAdd, Nat.reduceMul, Nat.reduceLeDiff, aLoad, aStore, lenC hx]; exact rfl) (h := ?_) | fail)
  refine awOps_nil (hK _ _ ?_)
  clear hK K
  refine aw_block ?_
  refine AW.less (sl' := [(6, .av (.sc x)), (7, vI t.length), (8, vI (0)), (3, (_))]) (AllIn.less ⟨rfl, rfl, rfl, rfl, trivial⟩) (aw_loop (fun k sl1 s1 => ∃ (i : Nat) (xo : Va) (out : List Int), k = t.length - i ∧ sl1 = [(6, .av (.sc x)), (7, vI t.length), (8, vI (i)), (3, (xo))] ∧ (Kp s s1) ∧ (i ≤ t.length ∧ out.length ≤ i) ∧ (Acc s.nx s1.nx s1.ob xo out.length 1 ((out.flatMap encI).map .sc)) ∧ (varsG (t.drop i) out = varsG t [])) (k := t.length - (0)) ⟨0, _, [], rfl, rfl, (Kp.refl s).up (by omega), by simp, .inl ⟨rfl, rfl, rfl⟩, rfl⟩ ?_)
  rintro k1 _ s1 ⟨i, xo, out, hk1, rfl, hs1, hb, hacc, h3⟩
  refine aw_region_seq C (pb := false) rfl fun K hK => ?_
  repeat' (first | refine wy0 (h := ?_) | fail)
  refine awOps_nil (hK _ _ ?_)
  clear hK K
  refine aw_seq ?_
  refine aw_cond (by rfl) ?_ ?_
  · intro hc0
    try simp only [decide_eq_true_eq, decide_eq_false_iff_not] at hc0
    have hi2 : i < t.length := by omega
    have hdrop : t.drop i = t[i] :: t.drop (i + 1) := List.drop_eq_getElem_cons hi2
    have hn1 := hs1.1
    refine aw_skip ?_
    simp only [thenA_normal, thenA_ret, thenA_exit, blockA_normal, blockA_ret, blockA_exit, ↓reduceIte, Nat.reduceEqDiff]
    refine aw_seq ?_
    refine aw_block ?_
    refine aw_region_seq C (pb := false) rfl fun K hK => ?_
    repeat' (first | refine wy1 (a := by simp only [go_sem, ↓reduceIte, Nat.reduceEqDiff, reduceCtorEq, Nat.reduceAdd, Nat.reduceMul, Nat.reduceLeDiff, aLoad, aStore, idxC hx hi2]; exact rfl) (h := ?_) | refine wz1 (a := by simp only [go_sem, ↓reduceIte, Nat.reduceEqDiff, reduceCtorEq, Nat.reduceAdd, Nat.reduceMul, Nat.reduceLeDiff, aLoad, aStore, idxC hx hi2]; exact rfl) (h := ?_) | fail)
    refine awOps_nil (hK _ _ ?_)
    refine AW.less (sl' := [(6, .av (.sc x)), (7, vI t.length), (8, vI i), (3, xo), (5, .av (.ptr (s1.nx + 3) 0))]) (AllIn.less ⟨rfl, rfl, rfl, rfl, rfl, trivial⟩) ?_
    refine aw_state (J := fun s4 => Kp s s4 ∧ Acc s.nx (s1.nx + 1) s4.ob xo out.length 1 ((out.flatMap encI).map .sc) ∧ s4.ob (s1.nx + 3) = .cs [.sc (.int .i64 t[i].kind), .sc (.str t[i].name), .sc (.int .i64 t[i].n)] 0 ∧ s1.nx + 3 < s4.nx) ⟨⟨(by first | omega | (dsimp only; omega) | (dsimp only at *; omega)), fun j hj => (upd_ne _ _ (by omega)).trans ((upd_ne _ _ (by omega)).trans (hs1.2.1 j hj)), hs1.2.2⟩, hacc.up (by omega) (fun j h1 h2 => (upd_ne _ _ (by omega)).trans (upd_ne _ _ (by omega))), upd_same _ _ _, (by first | omega | (dsimp only; omega) | (dsimp only at *; omega))⟩ fun s4 hJ4 => ?_
    clear hK K
    obtain ⟨hK4, hac4, hx4, hn4⟩ := hJ4
    obtain ⟨tx, ob2, hpv, htx, hacc2, hlow, hoth⟩ := Acc.pure (enc := encI) (k := 1) (fun _ => rfl) hac4
    have hx42 : ob2 (s1.nx + 3) = .cs [.sc (.int .i64 t[i].kind), .sc (.str t[i].name), .sc (.int .i64 t[i].n)] 0 := (hoth _ (by intro j hj e; rcases hac4 with ⟨h, _⟩ | ⟨id, fz, h, h2, h3', _⟩; rw [h] at hj; cases hj; rw [h] at hj; cases hj; omega)).trans hx4
    refine aw_cutM_seq C (pb := false) [(6, .av (.sc x)), (7, vI t.length), (8, vI i), (3, xo), (5, .av (.ptr (s1.nx + 3) 0)), (21, vB ((t[i].kind == 1) && !(out.contains t[i].n)))] (fun s2 => Kp s s2 ∧ Acc s.nx s2.nx s2.ob xo out.length 1 ((out.flatMap encI).map .sc) ∧ s2.ob (s1.nx + 3) = .cs [.sc (.int .i64 t[i].kind), .sc (.str t[i].name), .sc (.int .i64 t[i].n)] 0 ∧ s4.nx ≤ s2.nx) rfl ?_ fun sM5 hM5 => ?_
    · cases hA0 : (t[i].kind == 1 : Bool) <;> cases hA1 : (out.contains t[i].n : Bool)
      all_goals (repeat' (first | refine wy1 (a := by simp only [go_sem, ↓reduceIte, Nat.reduceEqDiff, reduceCtorEq, Nat.reduceAdd, Nat.reduceMul, Nat.reduceLeDiff, aLoad, aStore, hx4, hx42, hA0, hA1]; exact rfl) (h := ?_) | refine wn (h := ?_) | fail))
      all_goals (try (first | (refine wc (And.intro Try.call73 (FnL.pur (PurArgs.pur hpv (PurArgs.keep PurArgs.nil)) (fn73 L out t[i].n _ tx htx (by omega)))) ?_; rintro _ _ ⟨rfl, rfl⟩) | refine wn (h := ?_) | fail))
      all_goals (repeat' (first | refine wy1 (a := by simp only [go_sem, ↓reduceIte, Nat.reduceEqDiff, reduceCtorEq, Nat.reduceAdd, Nat.reduceMul, Nat.reduceLeDiff, aLoad, aStore, hx4, hx42, hA0, hA1]; exact rfl) (h := ?_) | refine wn (h := ?_) | fail))
      all_goals (first | exact awOps_nil ⟨⟨rfl, rfl, rfl, rfl, rfl, rfl, trivial⟩, hK4.up (by omega), hac4.up (by first | omega | (dsimp only; omega)) fun _ _ _ => rfl, hx4, (by first | omega | (dsimp only; omega) | (dsimp only at *; omega))⟩ | exact awOps_nil ⟨⟨rfl, rfl, rfl, rfl, rfl, rfl, trivial⟩, ⟨by have := hK4.1; exact (by first | omega | (dsimp only; omega) | (dsimp only at *; omega)), fun i hi => (hlow i hi).trans (hK4.2.1 i hi), hK4.2.2⟩, hacc2.up (by first | omega | (dsimp only; omega)) fun _ _ _ => rfl, hx42, (by first | omega | (dsimp only; omega) | (dsimp only at *; omega))⟩ | fail)
    refine aw_cond (by rfl) ?_ ?_
    · intro hc1
      try simp only [decide_eq_true_eq, decide_eq_false_iff_not] at hc1
      refine aw_region C (pb := false) rfl ?_
      repeat' (first | refine wy1 (a := by simp only [go_sem, ↓reduceIte, Nat.reduceEqDiff, reduceCtorEq, Nat.reduceAdd, Nat.reduceMul, Nat.reduceLeDiff, aLoad, aStore, hM5.2.2.1]; exact rfl) (h := ?_) | fail)
      refine awOps_append (by rfl) (by rfl) (by rfl) (by rfl) (hM5.2.1.up (hi' := sM5.nx + 4) (by omega) fun j h1 h2 => upd_ne _ _ (by omega)) T36 rfl T3 rfl (by simp) (by simp [y3]) (k := 1) (new := [.sc (.int .i64 t[i].n)]) (by simp [aSrc, evA, get, upd, zerosA]) (by simp) (by omega) (by omega) (by have := hM5.1.1; omega) fun x6 ob6 hacc6 hlow6 _ => ?_
      repeat' (first | refine wy1 (a := by simp only [go_sem, ↓reduceIte, Nat.reduceEqDiff, reduceCtorEq, Nat.reduceAdd, Nat.reduceMul, Nat.reduceLeDiff, aLoad, aStore, hM5.2.2.1]; exact rfl) (h := ?_) | fail)
      refine awOps_nil ?_
      try simp only [thenA_normal, thenA_ret, thenA_exit, blockA_normal, blockA_ret, blockA_exit]
      refine aw_region C (pb := false) rfl ?_
      repeat' (first | refine wy1 (a := by simp only [go_sem, ↓reduceIte, Nat.reduceEqDiff, reduceCtorEq, Nat.reduceAdd, Nat.reduceMul, Nat.reduceLeDiff, aLoad, aStore, wrap_small ((i : Int) + 1) (by omega) (by omega)]; exact rfl) (h := ?_) | fail)
      refine awOps_nil ?_
      try simp only [thenA_normal, thenA_ret, thenA_exit, blockA_normal, blockA_ret, blockA_exit]
      -- end of round 0 at 0t1t
      refine ⟨t.length - (i + 1), [(6, .av (.sc x)), (7, vI t.length), (8, vI (i + 1)), (3, (x6))], by omega, AllIn.less ⟨rfl, rfl, rfl, rfl, trivial⟩, i + 1, x6, out ++ [t[i].n], rfl, rfl, ?_, ?_, ?_, ?_⟩
      · exact ⟨by have := hM5.1.1; exact (by first | omega | (dsimp only; omega) | (dsimp only at *; omega)), fun j hj => (hlow6 j hj).trans ((upd_ne _ _ (by have := hM5.1.1; omega)).trans (hM5.1.2.1 j hj)), hM5.1.2.2⟩
      · simp only [List.length_append, List.length_cons, List.length_nil]
        omega
      · simp only [List.length_append, List.length_cons, List.length_nil, List.flatMap_append, List.map_append, List.flatMap_cons, List.flatMap_nil, List.append_nil]
        exact hacc6.up (by first | omega | (dsimp only; omega) | (dsimp only at *; omega)) fun _ _ _ => rfl
      · rw [← h3, hdrop, varsG, if_pos hc1]
    · intro hc1
      try simp only [decide_eq_true_eq, decide_eq_false_iff_not] at hc1
      refine aw_skip ?_
      simp only [thenA_normal, thenA_ret, thenA_exit, blockA_normal, blockA_ret, blockA_exit, ↓reduceIte, Nat.reduceEqDiff]
      refine aw_region C (pb := false) rfl ?_
      repeat' (first | refine wy1 (a := by simp only [go_sem, ↓reduceIte, Nat.reduceEqDiff, reduceCtorEq, Nat.reduceAdd, Nat.reduceMul, Nat.reduceLeDiff, aLoad, aStore, wrap_small ((i : Int) + 1) (by omega) (by omega)]; exact rfl) (h := ?_) | fail)
      refine awOps_nil ?_
      try simp only [thenA_normal, thenA_ret, thenA_exit, blockA_normal, blockA_ret, blockA_exit]
      -- end of round 0 at 0t1f
      refine ⟨t.length - (i + 1), [(6, .av (.sc x)), (7, vI t.length), (8, vI (i + 1)), (3, (xo))], by omega, AllIn.less ⟨rfl, rfl, rfl, rfl, trivial⟩, i + 1, xo, out, rfl, rfl, ?_, ?_, ?_, ?_⟩
      · exact hM5.1.up (by omega)
      · omega
      · exact hM5.2.1.up (by first | omega | (dsimp only; omega)) fun _ _ _ => rfl
      · rw [← h3, hdrop, varsG, if_neg (by rw [hc1]; exact Bool.false_ne_true)]
  · intro hc0
    try simp only [decide_eq_true_eq, decide_eq_false_iff_not] at hc0
    refine aw_exit ?_
    simp only [thenA_normal, thenA_ret, thenA_exit, blockA_normal, blockA_ret, blockA_exit, ↓reduceIte, Nat.reduceEqDiff]
    obtain ⟨ty, ob7, hpv7, hty, hacc7, hlow7, _⟩ := Acc.pure (enc := encI) (k := 1) (fun _ => rfl) hacc
    refine aw_pur 3 hpv7 ?_
    refine aw_region_seq C (pb := false) rfl fun K hK => ?_
    repeat' (first | refine wy0 (h := ?_) | fail)
    refine awOps_nil (hK _ _ ?_)
    clear hK K
    refine aw_ret ?_
    simp only [go_sem, ↓reduceIte, Nat.reduceEqDiff, reduceCtorEq, Nat.reduceAdd, Nat.reduceMul, Nat.reduceLeDiff, aLoad, aStore, FnQ, resA]
    -- 0f.x0.ret
    exact fun _ => ⟨rfl, fun j hj => (hlow7 j hj).trans (hs1.2.1 j hj), hs1.2.2, ty, rfl, by rw [List.drop_of_length_le (by omega), varsG] at h3; exact h3 ▸ hty⟩
end Go.Am.Seat
/-
  MADE BY PROGRAM (am.py): the walks of functions 76.
-/
namespace Go.Am.Seat
open Go.Proofs

def mapC (g : Int → Int) (c : Cell) : Cell := if c.kind = 1 then ⟨c.kind, c.name, g c.n⟩ else c
def mixV (g : Int → Int) (t : List Cell) (i : Nat) : List Cell := (t.take i).map (mapC g) ++ t.drop i
theorem mixV_len {g : Int → Int} {t : List Cell} {i : Nat} : (mixV g t i).length = t.length := by
  simp [mixV]
  omega
theorem mixV_get {g : Int → Int} {t : List Cell} {i : Nat} (hi : i < t.length) : (mixV g t i)[i]'(by rw [mixV_len]; exact hi) = t[i] := by
  unfold mixV
  rw [List.getElem_append_right (by rw [List.length_map, List.length_take]; omega)]
  simp [Nat.min_eq_left (Nat.le_of_lt hi)]
theorem mixV_succ {g : Int → Int} {t : List Cell} {i : Nat} (hi : i < t.length) : mixV g t (i + 1) = (mixV g t i).set i (mapC g t[i]) := by
  have hl : ((t.take i).map (mapC g)).length = i := by rw [List.length_map, List.length_take]; omega
  unfold mixV
  rw [List.set_append_right _ _ (by omega), List.take_succ_eq_append_getElem hi, List.map_append, List.append_assoc, hl, Nat.sub_self, List.drop_eq_getElem_cons hi]
  rfl
theorem celC_at {l : List Cell} {i : Nat} (hi : i < l.length) : (celC l).drop (i * 3) = [.sc (.int .i64 l[i].kind), .sc (.str l[i].name), .sc (.int .i64 l[i].n)] ++ (celC l).drop (i * 3 + 3) := by
  unfold celC
  rw [← List.map_drop, flat_at (k := 3) (fun _ => rfl) l i hi, ← List.map_drop, show i * 3 + 3 = (i + 1) * 3 by omega, flat_drop (k := 3) (fun _ => rfl)]
  rfl
theorem ixC {id n i : Nat} (hi : i < n) : aIndex T 22 (.av (.own id 0 n 3)) (vI (i : Int)) = some (.av (.ptr id (i * 3))) := by
  unfold aIndex
  simp only [T22, Option.bind_some, y22, T42, y42]
  rw [if_pos ⟨trivial, by omega, by omega⟩]
  simp
theorem ldCell {ob : Nat → Obj} {id i fz : Nat} {l : List Cell} (h : ob id = .cs (celC l) fz) (hi : i < l.length) : aLoad T ob 42 (.av (.ptr id (i * 3))) = some (.agg [.sc (.int .i64 l[i].kind), .sc (.str l[i].name), .sc (.int .i64 l[i].n)]) := by
  rw [ldA h]
  simp only [T42, Option.bind_some, y42]
  rw [if_pos (by rw [celC_len]; omega), celC_at hi]
  rfl
theorem celC_set {l : List Cell} {i : Nat} (hi : i < l.length) (v : Int) : (celC l).set (i * 3 + 2) (.sc (.int .i64 v)) = celC (l.set i ⟨l[i].kind, l[i].name, v⟩) := by
  have e1 : celC l = celC (l.take i) ++ ([.sc (.int .i64 l[i].kind), .sc (.str l[i].name), .sc (.int .i64 l[i].n)] ++ celC (l.drop (i + 1))) := by
    rw [show ([.sc (.int .i64 l[i].kind), .sc (.str l[i].name), .sc (.int .i64 l[i].n)] : List Av) = celC [l[i]] from rfl, ← celC_app, ← celC_app]
    congr 1
    rw [List.singleton_append, ← List.drop_eq_getElem_cons hi, List.take_append_drop]
  have hl : (celC (l.take i)).length = i * 3 := by rw [celC_len, List.length_take, Nat.min_eq_left (Nat.le_of_lt hi)]
  rw [e1, List.set_append_right _ _ (by omega), hl, show i * 3 + 2 - i * 3 = 2 by omega]
  have e2 : l.set i ⟨l[i].kind, l[i].name, v⟩ = l.take i ++ ([⟨l[i].kind, l[i].name, v⟩] ++ l.drop (i + 1)) := by rw [List.set_eq_take_append_cons_drop, if_pos hi]; rfl
  rw [e2, celC_app, celC_app]
  rfl
theorem stCell {ob : Nat → Obj} {id i : Nat} {l : List Cell} (h : ob id = .cs (celC l) 0) (hi : i < l.length) (v : Int) : aStore T ob 3 (.av (.ptr id (i * 3 + 2))) (vI v) = some (upd ob id (.cs (celC (l.set i ⟨l[i].kind, l[i].name, v⟩)) 0)) := by
  rw [stA h (cs := [.sc (.int .i64 v)]) rfl]
  simp only [T3, Option.bind_some, y3, List.length_cons, List.length_nil]
  rw [if_pos ⟨trivial, Nat.zero_le _, by rw [celC_len]; omega⟩]
  simp only [storeL, celC_set hi]

-- many steps
theorem bod76 : Try.f76.body = some (Try.f76.body.getD .skip) := rfl
set_option maxHeartbeats 2000000 in
theorem fn76 (L : Loops) (t : List Cell) (f : FuncId) (caps : List Av) (g : Int → Int) (s : Me) (hl : 0 < t.length ∧ t.length ≤ 1000000) (hcall : Callable Try.prog f) (hg : ∀ (n : Int) (s' : Me), (∀ i, i < s.nx → s'.ob i = s.ob i) → FnL Try.prog L f ([vI n] ++ caps.map .av) s' fun r s'' => r = vI (g n) ∧ s'' = s') : FnL Try.prog L 76 [vC t, .av (.fn f [] caps)] s fun r s' => (r = vC (t.map (mapC g))) ∧ s' = s := by
  refine FnL.pure (R := fun r => r = vC (t.map (mapC g))) ?_
  refine fn_of_body (ts := [4]) Try.func76 bod76 rfl (by simp) (by simp [Try.ntmps76]) fun D0 => ?_
  unfold Try.f76
  simp only [Option.getD_some, initSl]
  refine aw_region_seq C (pb := false) rfl fun K hK => ?_
  repeat' (first | refine wy0 (h := ?_) | fail)
  refine awOps_nil (hK _ _ ?_)
  clear hK K
  refine aw_region_seq C (pb := false) rfl fun K hK => ?_
  repeat' (first | refine wy0 (h := ?_) | fail)
  refine wc (And.intro Try.call52 (fn52 L t _ hl)) ?_
  rintro _ _ ⟨oid, ob1, m1, rfl, rfl, hlo1, hid0, hid1, hob1⟩
  dsimp only at hlo1 hob1
  repeat' (first | refine wy0 (h := ?_) | fail)
  refine awOps_nil (hK _ _ ?_)
  refine AW.less (sl' := [(1, .av (.fn f [] caps)), (5, .av (.own oid 0 t.length 3))]) (AllIn.less ⟨rfl, rfl, trivial⟩) ?_
  refine aw_state (J := fun s2 => Kp s s2 ∧ s2.ob oid = .cs (celC (mixV g t 0)) 0 ∧ oid < s2.nx) ⟨⟨(by first | omega | (dsimp only; omega) | (dsimp only at *; omega)), fun j hj => hob1 j (by first | omega | (dsimp only; omega) | (dsimp only at *; omega)), rfl⟩, by rw [show mixV g t 0 = t by simp [mixV]]; exact hid1, (by first | omega | (dsimp only; omega) | (dsimp only at *; omega))⟩ fun s2 hJ2 => ?_
  clear hK K
  refine aw_seq ?_
  refine aw_region_seq C (pb := false) rfl fun K hK => ?_
  repeat' (first | refine wy1 (a := by simp only [go_sem, ↓reduceIte, Nat.reduceEqDiff, reduceCtorEq, Nat.reduceAdd, Nat.reduceMul, Nat.reduceLeDiff, aLoad, aStore, aLen]; exact rfl) (h := ?_) | fail)
  refine awOps_nil (hK _ _ ?_)
  clear hK K
  refine aw_block ?_
  refine AW.less (sl' := [(1, .av (.fn f [] caps)), (5, .av (.own oid 0 t.length 3)), (10, .av (.own oid 0 t.length 3)), (11, vI t.length), (12, vI (0))]) (AllIn.less ⟨rfl, rfl, rfl, rfl, rfl, trivial⟩) (aw_loop (fun k sl1 s1 => ∃ (i : Nat), k = t.length - i ∧ sl1 = [(1, .av (.fn f [] caps)), (5, .av (.own oid 0 t.length 3)), (10, .av (.own oid 0 t.length 3)), (11, vI t.length), (12, vI (i))] ∧ (Kp s s1 ∧ s1.ob oid = .cs (celC (mixV g t i)) 0 ∧ oid < s1.nx) ∧ (i ≤ t.length)) (k := t.length - (0)) ⟨0, rfl, rfl, ⟨hJ2.1.up (by omega), hJ2.2.1, (by first | omega | (dsimp only; omega) | (dsimp only at *; omega))⟩, Nat.zero_le _⟩ ?_)
  rintro k1 _ s1 ⟨i, hk1, rfl, hs1, hb⟩
  have hn1 := hs1.1.1
  have hm1 := hs1.2.2
  refine aw_region_seq C (pb := false) rfl fun K hK => ?_
  repeat' (first | refine wy0 (h := ?_) | fail)
  refine awOps_nil (hK _ _ ?_)
  clear hK K
  refine aw_seq ?_
  refine aw_cond (by rfl) ?_ ?_
  · intro hc0
    try simp only [decide_eq_true_eq, decide_eq_false_iff_not] at hc0
    have hi2 : i < t.length := by omega
    have hi3 : i < (mixV g t i).length := by rw [mixV_len]; exact hi2
    have hge := mixV_get (g := g) hi2
    refine aw_skip ?_
    simp only [thenA_normal, thenA_ret, thenA_exit, blockA_normal, blockA_ret, blockA_exit, ↓reduceIte, Nat.reduceEqDiff]
    refine aw_seq ?_
    refine aw_block ?_
    refine aw_region_seq C (pb := false) rfl fun K hK => ?_
    repeat' (first | refine wy1 (a := by simp only [go_sem, ↓reduceIte, Nat.reduceEqDiff, reduceCtorEq, Nat.reduceAdd, Nat.reduceMul, Nat.reduceLeDiff, ixC hi2, ldCell hs1.2.1 hi3, hge, aStore, upd_same]; exact rfl) (h := ?_) | refine wz1 (a := by simp only [go_sem, ↓reduceIte, Nat.reduceEqDiff, reduceCtorEq, Nat.reduceAdd, Nat.reduceMul, Nat.reduceLeDiff, ixC hi2, ldCell hs1.2.1 hi3, hge, aStore, upd_same]; exact rfl) (h := ?_) | fail)
    refine awOps_nil (hK _ _ ?_)
    refine AW.less (sl' := [(1, .av (.fn f [] caps)), (5, .av (.own oid 0 t.length 3)), (10, .av (.own oid 0 t.length 3)), (11, vI t.length), (12, vI i), (6, vI i), (7, .av (.ptr (s1.nx + 4) 0))]) (AllIn.less ⟨rfl, rfl, rfl, rfl, rfl, rfl, rfl, trivial⟩) ?_
    refine aw_state (J := fun s4 => Kp s s4 ∧ s4.ob oid = .cs (celC (mixV g t i)) 0 ∧ oid < s4.nx ∧ s4.ob (s1.nx + 4) = .cs [.sc (.int .i64 t[i].kind), .sc (.str t[i].name), .sc (.int .i64 t[i].n)] 0) ⟨⟨(by first | omega | (dsimp only; omega) | (dsimp only at *; omega)), fun j hj => (upd_ne _ _ (by omega)).trans ((upd_ne _ _ (by omega)).trans (hs1.1.2.1 j hj)), hs1.1.2.2⟩, (upd_ne _ _ (by omega)).trans ((upd_ne _ _ (by omega)).trans hs1.2.1), (by first | omega | (dsimp only; omega) | (dsimp only at *; omega)), upd_same _ _ _⟩ fun s4 hJ4 => ?_
    obtain ⟨hK4, ho4, hn4, hx4⟩ := hJ4
    clear hK K
    refine aw_region_seq C (pb := false) rfl fun K hK => ?_
    repeat' (first | refine wy1 (a := by simp only [go_sem, ↓reduceIte, Nat.reduceEqDiff, reduceCtorEq, Nat.reduceAdd, Nat.reduceMul, Nat.reduceLeDiff, aLoad, aStore, hx4]; exact rfl) (h := ?_) | fail)
    refine awOps_nil (hK _ _ ?_)
    clear hK K
    refine aw_cond (by rfl) ?_ ?_
    · intro hc1
      try simp only [beq_iff_eq, beq_eq_false_iff_ne, ne_eq] at hc1
      refine aw_region C (pb := false) rfl ?_
      repeat' (first | refine wy1 (a := by simp only [go_sem, ↓reduceIte, Nat.reduceEqDiff, reduceCtorEq, Nat.reduceAdd, Nat.reduceMul, Nat.reduceLeDiff, ldA hx4, ixC hi2, stCell ho4 hi3]; exact rfl) (h := ?_) | fail)
      refine wc (And.intro hcall (hg t[i].n _ (fun j hj => hK4.2.1 j hj))) ?_
      rintro _ _ ⟨rfl, rfl⟩
      repeat' (first | refine wy1 (a := by simp only [go_sem, ↓reduceIte, Nat.reduceEqDiff, reduceCtorEq, Nat.reduceAdd, Nat.reduceMul, Nat.reduceLeDiff, ldA hx4, ixC hi2, stCell ho4 hi3]; exact rfl) (h := ?_) | refine wz1 (a := by simp only [go_sem, ↓reduceIte, Nat.reduceEqDiff, reduceCtorEq, Nat.reduceAdd, Nat.reduceMul, Nat.reduceLeDiff, ldA hx4, ixC hi2, stCell ho4 hi3]; exact rfl) (h := ?_) | fail)
      refine awOps_nil ?_
      refine aw_state (J := fun s6 => Kp s s6 ∧ s6.ob oid = .cs (celC (mixV g t (i + 1))) 0 ∧ oid < s6.nx) ⟨⟨by have := hK4.1; exact (by first | omega | (dsimp only; omega) | (dsimp only at *; omega)), fun j hj => (upd_ne _ _ (by omega)).trans (hK4.2.1 j hj), hK4.2.2⟩, (upd_same _ _ _).trans (by rw [mixV_succ hi2, mapC, if_pos hc1, mixV_get hi2]), (by first | omega | (dsimp only; omega) | (dsimp only at *; omega))⟩ fun s6 hJ6 => ?_
      try simp only [thenA_normal, thenA_ret, thenA_exit, blockA_normal, blockA_ret, blockA_exit]
      refine aw_region C (pb := false) rfl ?_
      repeat' (first | refine wy1 (a := by simp only [go_sem, ↓reduceIte, Nat.reduceEqDiff, reduceCtorEq, Nat.reduceAdd, Nat.reduceMul, Nat.reduceLeDiff, aLoad, aStore, wrap_small ((i : Int) + 1) (by omega) (by omega)]; exact rfl) (h := ?_) | fail)
      refine awOps_nil ?_
      try simp only [thenA_normal, thenA_ret, thenA_exit, blockA_normal, blockA_ret, blockA_exit]
      -- end of round 0 at 0t1t
      refine ⟨t.length - (i + 1), [(1, .av (.fn f [] caps)), (5, .av (.own oid 0 t.length 3)), (10, .av (.own oid 0 t.length 3)), (11, vI t.length), (12, vI (i + 1))], by omega, AllIn.less ⟨rfl, rfl, rfl, rfl, rfl, trivial⟩, i + 1, rfl, rfl, ?_, ?_⟩
      · exact ⟨hJ6.1.up (by omega), hJ6.2.1, by have := hJ6.2.2; exact (by first | omega | (dsimp only; omega) | (dsimp only at *; omega))⟩
      · omega
    · intro hc1
      try simp only [beq_iff_eq, beq_eq_false_iff_ne, ne_eq] at hc1
      refine aw_skip ?_
      simp only [thenA_normal, thenA_ret, thenA_exit, blockA_normal, blockA_ret, blockA_exit, ↓reduceIte, Nat.reduceEqDiff]
      refine aw_region C (pb := false) rfl ?_
      repeat' (first | refine wy1 (a := by simp only [go_sem, ↓reduceIte, Nat.reduceEqDiff, reduceCtorEq, Nat.reduceAdd, Nat.reduceMul, Nat.reduceLeDiff, aLoad, aStore, wrap_small ((i : Int) + 1) (by omega) (by omega)]; exact rfl) (h := ?_) | fail)
      refine awOps_nil ?_
      try simp only [thenA_normal, thenA_ret, thenA_exit, blockA_normal, blockA_ret, blockA_exit]
      -- end of round 0 at 0t1f
      refine ⟨t.length - (i + 1), [(1, .av (.fn f [] caps)), (5, .av (.own oid 0 t.length 3)), (10, .av (.own oid 0 t.length 3)), (11, vI t.length), (12, vI (i + 1))], by omega, AllIn.less ⟨rfl, rfl, rfl, rfl, rfl, trivial⟩, i + 1, rfl, rfl, ?_, ?_⟩
      · exact ⟨hK4.up (by omega), by rw [mixV_succ hi2, mapC, if_neg hc1, ← mixV_get (g := g) hi2, List.set_getElem_self]; exact ho4, (by first | omega | (dsimp only; omega) | (dsimp only at *; omega))⟩
      · omega
  · intro hc0
    try simp only [decide_eq_true_eq, decide_eq_false_iff_not] at hc0
    refine aw_exit ?_
    simp only [thenA_normal, thenA_ret, thenA_exit, blockA_normal, blockA_ret, blockA_exit, ↓reduceIte, Nat.reduceEqDiff]
    have hin : i = t.length := by omega
    have hfin : s1.ob oid = .cs (celC (t.map (mapC g))) 0 := by have := hs1.2.1; rwa [hin, mixV, List.take_length, List.drop_length, List.append_nil] at this
    have hpl := celC_pure hfin
    rw [List.length_map] at hpl
    refine aw_pur 5 hpl ?_
    refine aw_region_seq C (pb := false) rfl fun K hK => ?_
    repeat' (first | refine wy0 (h := ?_) | fail)
    refine awOps_nil (hK _ _ ?_)
    clear hK K
    refine aw_ret ?_
    simp only [go_sem, ↓reduceIte, Nat.reduceEqDiff, reduceCtorEq, Nat.reduceAdd, Nat.reduceMul, Nat.reduceLeDiff, aLoad, aStore, FnQ, resA]
    -- 0f.x0.ret
    exact fun _ => ⟨rfl, fun j hj => (upd_ne _ _ (by omega)).trans (hs1.1.2.1 j hj), hs1.1.2.2, by first | rfl | (simp only [vC, List.length_map])⟩
end Go.Am.Seat
/-
  MADE BY PROGRAM (am.py): the walks of functions 77.
-/
namespace Go.Am.Seat
open Go.Proofs
theorem bod77 : Try.f77.body = some (Try.f77.body.getD .skip) := rfl
theorem fn77 (L : Loops) (l : List Int) (n : Int) (bl : Nat) (fz : Nat) (s : Me) (x : Sc) (hx : GSl encI x l) (hl : l.length ≤ 2199023255552) (hb : s.ob bl = .cs [.sc x] fz) : FnL Try.prog L 77 [vI n, .av (.ptr bl 0)] s fun r s' => (r = vI (placeI l n 0)) ∧ s' = s := by
  refine FnL.pure (R := fun r => r = vI (placeI l n 0)) ?_
  refine fn_of_body (ts := [3]) Try.func77 bod77 rfl (by simp) (by simp [Try.ntmps77]) fun D0 => ?_
  unfold Try.f77
  simp only [Option.getD_some, initSl]
  refine aw_region_seq C (pb := false) rfl fun K hK => ?_
  repeat' (first | refine wy0 (h := ?_) | fail)
  refine awOps_nil (hK _ _ ?_)
  clear hK K
  refine aw_region_seq C (pb := false) rfl fun K hK => ?_
  repeat' (first | refine wy1 (a := by simp only [go_sem, ↓reduceIte, Nat.reduceEqDiff, reduceCtorEq, Nat.reduceAdd, Nat.reduceMul, Nat.reduceLeDiff, aLoad, aStore, hb]; exact rfl) (h := ?_) | fail)
  (refine wc (And.intro Try.call78 (fn78 L l n _ x hx hl)) ?_; rintro _ _ ⟨rfl, rfl⟩)
  repeat' (first | refine wy1 (a := by simp only [go_sem, ↓reduceIte, Nat.reduceEqDiff, reduceCtorEq, Nat.reduceAdd, Nat.reduceMul, Nat.reduceLeDiff, aLoad, aStore, hb]; exact rfl) (h := ?_) | fail)
  refine awOps_nil (hK _ _ ?_)
  clear hK K
  refine aw_ret ?_
  simp only [go_sem, ↓reduceIte, Nat.reduceEqDiff, reduceCtorEq, Nat.reduceAdd, Nat.reduceMul, Nat.reduceLeDiff, aLoad, aStore, FnQ, resA]
  -- .ret
  exact fun _ => ⟨by first | rfl | trivial, by first | exact fun _ _ => rfl | trivial, by first | rfl | trivial, by first | rfl | trivial⟩
end Go.Am.Seat
/-
  MADE BY PROGRAM (am.py): the walks of functions 56.
-/
namespace Go.Am.Seat
open Go.Proofs

def numG (t : List Cell) : List Cell := t.map (mapC fun n => placeI (varsG t []) n 0)
theorem varsG_len : ∀ (t : List Cell) (out : List Int), (varsG t out).length ≤ out.length + t.length
  | [], out => by simp [varsG]
  | c :: t, out => by
    rw [varsG]
    refine Nat.le_trans (varsG_len t _) ?_
    split
    · simp only [List.length_append, List.length_cons, List.length_nil]; omega
    · simp only [List.length_cons]; omega

theorem bod56 : Try.f56.body = some (Try.f56.body.getD .skip) := rfl
theorem fn56 (L : Loops) (t : List Cell) (s : Me) (hl : 0 < t.length ∧ t.length ≤ 1000000) : FnL Try.prog L 56 [vC t] s fun r s' => (r = vC (numG t)) ∧ s' = s := by
  refine FnL.pure (R := fun r => r = vC (numG t)) ?_
  refine fn_of_body (ts := [2]) Try.func56 bod56 rfl (by simp) (by simp [Try.ntmps56]) fun D0 => ?_
  unfold Try.f56
  simp only [Option.getD_some, initSl]
  refine aw_region_seq C (pb := false) rfl fun K hK => ?_
  repeat' (first | refine wy0 (h := ?_) | fail)
  refine awOps_nil (hK _ _ ?_)
  clear hK K
  refine aw_region_seq C (pb := false) rfl fun K hK => ?_
  repeat' (first | refine wy0 (h := ?_) | fail)
  refine wc (And.intro Try.call51 (fn51 L t _ _ (gslC t) (by omega))) ?_
  rintro _ _ ⟨⟨xv, rfl, hxv⟩, rfl⟩
  repeat' (first | refine wy0 (h := ?_) | refine wz0 (h := ?_) | fail)
  refine awOps_nil (hK _ _ ?_)
  refine AW.less (sl' := [(0, vC t), (3, .av (.ptr (s.nx + 3) 0))]) (AllIn.less ⟨rfl, rfl, trivial⟩) ?_
  refine aw_state (J := fun s2 => Kp s s2 ∧ s2.ob (s.nx + 3) = .cs [.sc xv] 0 ∧ s.nx + 3 < s2.nx) ⟨⟨(by first | omega | (dsimp only; omega) | (dsimp only at *; omega)), fun j hj => (upd_ne _ _ (by omega)).trans (upd_ne _ _ (by omega)), rfl⟩, upd_same _ _ _, (by first | omega | (dsimp only; omega) | (dsimp only at *; omega))⟩ fun s2 hJ2 => ?_
  obtain ⟨hK2, hb2, hn2⟩ := hJ2
  clear hK K
  refine aw_region_seq C (pb := false) rfl fun K hK => ?_
  repeat' (first | refine wy1 (a := by simp only [go_sem, ↓reduceIte, Nat.reduceEqDiff, reduceCtorEq, Nat.reduceAdd, Nat.reduceMul, Nat.reduceLeDiff, aLoad, aStore, avs]; exact rfl) (h := ?_) | fail)
  refine wc (And.intro Try.call76 (fn76 L t 77 [.ptr (s.nx + 3) 0] (fun n => placeI (varsG t []) n 0) _ hl Try.call77 (fun n s' hs' => fn77 L (varsG t []) n (s.nx + 3) 0 s' xv hxv (by have := varsG_len t []; simp only [List.length_nil] at this; omega) ((hs' _ (by first | omega | (dsimp only; omega) | (dsimp only at *; omega))).trans hb2)))) ?_
  rintro _ _ ⟨rfl, rfl⟩
  repeat' (first | refine wy1 (a := by simp only [go_sem, ↓reduceIte, Nat.reduceEqDiff, reduceCtorEq, Nat.reduceAdd, Nat.reduceMul, Nat.reduceLeDiff, aLoad, aStore, avs]; exact rfl) (h := ?_) | fail)
  refine awOps_nil (hK _ _ ?_)
  clear hK K
  refine aw_ret ?_
  simp only [go_sem, ↓reduceIte, Nat.reduceEqDiff, reduceCtorEq, Nat.reduceAdd, Nat.reduceMul, Nat.reduceLeDiff, aLoad, aStore, FnQ, resA]
  -- .ret
  exact fun _ => ⟨rfl, hK2.2.1, hK2.2.2, rfl⟩
end Go.Am.Seat
/-
  MADE BY PROGRAM (am.py): the walks of functions 15.
-/
namespace Go.Am.Seat
open Go.Proofs

def updI (M : Int → Option (List Cell)) (n : Int) (t : List Cell) : Int → Option (List Cell) := fun m => if m = n then some t else M m
/-- What Match lays for each variable, going over the first term and, beside it, the second one. -/
def matG (b : List Cell) : List Cell → Nat → (Int → Option (List Cell)) → Option (Int → Option (List Cell))
  | [], _, M => some M
  | c :: l, k, M => match b[k]? with
    | none => none
    | some d => if c.kind = 1 then match takes (b.drop k) 1 with
        | none => none
        | some e => match M c.n with
          | some u => if sameL u ((b.take (k + e)).drop k) then matG b l (k + e) (updI M c.n ((b.take (k + e)).drop k)) else none
          | none => matG b l (k + e) (updI M c.n ((b.take (k + e)).drop k))
      else if cellEq c d then matG b l (k + 1) M else none
def headV : List Cell → Int → Bool
  | c :: _, n => c.kind == 1 && c.n == n
  | [], _ => true
def outG (M : Int → Option (List Cell)) : List Int → List (Int × List Cell)
  | [] => []
  | n :: l => match M n with
    | some t => if headV t n then outG M l else (n, t) :: outG M l
    | none => outG M l
/-- What Match tells. -/
def matR (a b : List Cell) : Option (List (Int × List Cell)) := (matG b a 0 fun _ => none).map fun M => outG M (sortI (varsG a []))
def MM (ml : List (Int × Av)) (M : Int → Option (List Cell)) : Prop := ∀ n, lkA ml n = (M n).map fun t => .sc (.sl t.length (t.flatMap encC))
theorem fn52p (L : Loops) (l : List Cell) (s : Me) (hl : 0 < l.length ∧ l.length ≤ 1000000) : FnL Try.prog L 52 [vC l] s fun r s' => r = vC l ∧ s' = s :=
  FnL.pure (FnL.purR ((fn52 L l s hl).mono fun r s' ⟨id, ob', m, h1, h2, h3, h4, h5, h6⟩ => by
    subst h1 h2
    exact ⟨_, _, celC_pure h5, rfl, fun i hi => (upd_ne _ _ (by omega)).trans (h6 i hi), rfl, rfl⟩))
theorem sortI_mem {l : List Int} {n : Int} (h : n ∈ sortI l) : n ∈ l := by simpa [sortI] using h
theorem outG_len {M : Int → Option (List Cell)} : ∀ {l : List Int}, (outG M l).length ≤ l.length
  | [] => Nat.le_refl _
  | n :: l => by
    have := outG_len (M := M) (l := l)
    rw [outG]
    split
    · split <;> simp only [List.length_cons] <;> omega
    · simp only [List.length_cons]; omega
/-- The state in Match. -/
structure MT (s : Me) (sb : Sc) (cid mid : Nat) (ml : List (Int × Av)) (s1 : Me) : Prop where
  kp : Kp s s1
  c : s1.ob cid = .cs [.sc sb, .sc .nilsl, .sc .nilsl, .sc .nilsl] 0
  m : s1.ob mid = .mp (mapA ml)
  lo : s.nx ≤ cid ∧ s.nx ≤ mid ∧ cid ≠ mid ∧ cid < s1.nx ∧ mid < s1.nx
theorem MT.frame {s s1 : Me} {sb : Sc} {cid mid : Nat} {ml : List (Int × Av)} (h : MT s sb cid mid ml s1) {ob' : Nat → Obj} {m : Nat} (hm : s1.nx ≤ m) (ho : ∀ j, j < s1.nx → ob' j = s1.ob j) : MT s sb cid mid ml ⟨ob', m, s1.ls⟩ :=
  ⟨⟨Nat.le_trans h.kp.1 hm, fun j hj => (ho j (Nat.lt_of_lt_of_le hj h.kp.1)).trans (h.kp.2.1 j hj), h.kp.2.2⟩, (ho _ h.lo.2.2.2.1).trans h.c, (ho _ h.lo.2.2.2.2).trans h.m, by have := h.lo; dsimp only; omega⟩
theorem MT.setM {s s1 : Me} {sb : Sc} {cid mid : Nat} {ml : List (Int × Av)} (h : MT s sb cid mid ml s1) {m : Nat} {l1 : List (Sc × Av)} (hm : s1.nx ≤ m) (ml' : List (Int × Av)) : MT s sb cid mid ml' ⟨upd (upd s1.ob mid (.mp l1)) mid (.mp (mapA ml')), m, s1.ls⟩ := by
  have := h.lo
  exact ⟨⟨Nat.le_trans h.kp.1 hm, fun j hj => (upd_ne _ _ (by omega)).trans ((upd_ne _ _ (by omega)).trans (h.kp.2.1 j hj)), h.kp.2.2⟩, (upd_ne _ _ (by omega)).trans ((upd_ne _ _ (by omega)).trans h.c), upd_same _ _ _, by dsimp only; omega⟩
theorem varsG_kind {n : Int} : ∀ {l : List Cell} {out : List Int}, n ∈ varsG l out → n ∈ out ∨ ∃ c ∈ l, c.kind = 1 ∧ c.n = n
  | [], out, h => .inl h
  | c :: l, out, h => by
    rw [varsG] at h
    rcases varsG_kind h with h | ⟨d, h1, h2⟩
    · split at h
      · rename_i hc
        simp only [Bool.and_eq_true, beq_iff_eq] at hc
        rcases List.mem_append.1 h with h | h
        · exact .inl h
        · exact .inr ⟨c, by simp, hc.1, (List.mem_singleton.1 h).symm⟩
      · exact .inl h
    · exact .inr ⟨d, by simp [h1], h2⟩
theorem takes_pos0 (l : List Cell) : takes l 1 ≠ some 0 := by
  intro h
  cases l with
  | nil => exact takes_nil (by omega) h
  | cons c l => obtain ⟨p, h1, _⟩ := takes_cons (by omega) h; omega
theorem takes_le : ∀ {l : List Cell} {n k : Nat}, takes l n = some k → k ≤ l.length
  | l, 0, k, h => by rw [takes_zero h]; exact Nat.zero_le _
  | [], n + 1, k, h => (takes_nil (by omega) h).elim
  | c :: l, n + 1, k, h => by
    obtain ⟨p, rfl, h4⟩ := takes_cons (by omega) h
    have := takes_le h4
    simp only [List.length_cons]; omega

-- many steps
theorem bod15 : Try.f15.body = some (Try.f15.body.getD .skip) := rfl
set_option maxHeartbeats 2000000 in
theorem fn15 (L : Loops) (a b : List Cell) (o : Option (List (Int × List Cell))) (s : Me) (sa sb : Sc) (ha : GSl encC sa a) (hb : GSl encC sb b) (hl : a.length ≤ 100000 ∧ b.length ≤ 100000) (ht : TOK b) (ho : matR a b = o) (hr : ∀ out, o = some out → RightB out) : FnL Try.prog L 15 [.av (.sc sa), .av (.sc sb)] s fun r s' => (∃ y out, r = .tup [.av (.sc y), vB o.isSome] ∧ GSl encB y out ∧ out = (o.getD []).map bndI) ∧ s' = s := by
  refine FnL.pure (R := fun r => ∃ y out, r = .tup [.av (.sc y), vB o.isSome] ∧ GSl encB y out ∧ out = (o.getD []).map bndI) ?_
  obtain ⟨R, hR⟩ : ∃ R, R = matG b a 0 fun _ => none := ⟨_, rfl⟩
  unfold matR at ho
  rw [← hR] at ho
  refine fn_of_body (ts := [4, 5]) Try.func15 bod15 rfl (by simp) (by simp [Try.ntmps15]) fun D0 => ?_
  unfold Try.f15
  simp only [Option.getD_some, initSl]
  refine aw_region_seq C (pb := false) rfl fun K hK => ?_
  repeat' (first | refine wy0 (h := ?_) | fail)
  refine awOps_nil (hK _ _ ?_)
  clear hK K
  refine aw_region_seq C (pb := false) rfl fun K hK => ?_
  repeat' (first | refine wy0 (h := ?_) | fail)
  refine awOps_nil (hK _ _ ?_)
  clear hK K
  refine aw_region_seq C (pb := false) rfl fun K hK => ?_
  repeat' (first | refine wy0 (h := ?_) | fail)
  refine awOps_nil (hK _ _ ?_)
  refine AW.less (sl' := [(0, .av (.sc sa)), (1, .av (.sc sb)), (6, .av (.ptr (s.nx + 4) 0)), (7, vI 0), (8, .av (.map (s.nx + 6)))]) (AllIn.less ⟨rfl, rfl, rfl, rfl, rfl, trivial⟩) ?_
  refine aw_state (J := fun s3 => MT s sb (s.nx + 4) (s.nx + 6) [] s3) ⟨⟨(by first | omega | (dsimp only; omega) | (dsimp only at *; omega)), fun j hj => (upd_ne _ _ (by omega)).trans (upd_ne _ _ (by omega)), rfl⟩, (upd_ne _ _ (by omega)).trans (upd_same _ _ _), upd_same _ _ _, (by first | omega | (dsimp only; omega) | (dsimp only at *; omega))⟩ fun s3 hJ3 => ?_
  obtain ⟨cid, hcid⟩ : ∃ c, c = s.nx + 4 := ⟨_, rfl⟩
  obtain ⟨mid, hmid⟩ : ∃ c, c = s.nx + 6 := ⟨_, rfl⟩
  rw [← hcid, ← hmid] at hJ3 ⊢
  clear hK K
  refine aw_seq ?_
  refine aw_region_seq C (pb := false) rfl fun K hK => ?_
  repeat' (first | refine wy1 (a := by simp only [go_sem, ↓reduceIte, Nat.reduceEqDiff, reduceCtorEq, Nat.reduceAdd, Nat.reduceMul, Nat.reduceLeDiff, aLoad, aStore, lenC ha]; exact rfl) (h := ?_) | fail)
  refine awOps_nil (hK _ _ ?_)
  clear hK K
  refine aw_block ?_
  refine AW.less (sl' := [(0, .av (.sc sa)), (1, .av (.sc sb)), (6, .av (.ptr cid 0)), (8, .av (.map mid)), (22, .av (.sc sa)), (23, vI a.length), (7, vI (0)), (24, vI (0))]) (AllIn.less ⟨rfl, rfl, rfl, rfl, rfl, rfl, rfl, rfl, trivial⟩) (aw_loop (fun k sl1 s1 => ∃ (i : Nat) (kb : Nat) (M : Int → Option (List Cell)) (ml : List (Int × Av)), k = a.length - i ∧ sl1 = [(0, .av (.sc sa)), (1, .av (.sc sb)), (6, .av (.ptr cid 0)), (8, .av (.map mid)), (22, .av (.sc sa)), (23, vI a.length), (7, vI (kb)), (24, vI (i))] ∧ (MT s sb cid mid ml s1) ∧ (i ≤ a.length ∧ kb ≤ b.length) ∧ (MM ml M) ∧ (∀ c ∈ a.take i, c.kind = 1 → (M c.n).isSome) ∧ (∀ n t, M n = some t → 0 < t.length ∧ t.length ≤ b.length) ∧ (matG b (a.drop i) kb M = R)) (k := a.length - (0)) ⟨0, 0, (fun _ => none), [], rfl, rfl, hJ3.frame (by first | omega | (dsimp only; omega) | (dsimp only at *; omega)) fun _ _ => rfl, ⟨Nat.zero_le _, Nat.zero_le _⟩, fun n => rfl, fun c hc => (by simp at hc), fun n t h => (by cases h), by rw [List.drop_zero, hR]⟩ ?_)
  rintro k1 _ s1 ⟨i, kb, M, ml, hk1, rfl, hs1, hb1, hMM, hset, hok, h3⟩
  refine aw_region_seq C (pb := false) rfl fun K hK => ?_
  repeat' (first | refine wy0 (h := ?_) | fail)
  refine awOps_nil (hK _ _ ?_)
  clear hK K
  refine aw_seq ?_
  refine aw_cond (by rfl) ?_ ?_
  · intro hc0
    try simp only [decide_eq_true_eq, decide_eq_false_iff_not] at hc0
    have hi2 : i < a.length := by omega
    rw [List.drop_eq_getElem_cons hi2, matG] at h3
    refine aw_skip ?_
    simp only [thenA_normal, thenA_ret, thenA_exit, blockA_normal, blockA_ret, blockA_exit, ↓reduceIte, Nat.reduceEqDiff]
    refine aw_seq ?_
    refine aw_block ?_
    refine aw_region_seq C (pb := false) rfl fun K hK => ?_
    repeat' (first | refine wy1 (a := by simp only [go_sem, ↓reduceIte, Nat.reduceEqDiff, reduceCtorEq, Nat.reduceAdd, Nat.reduceMul, Nat.reduceLeDiff, aLoad, aStore, idxC ha hi2]; exact rfl) (h := ?_) | refine wz1 (a := by simp only [go_sem, ↓reduceIte, Nat.reduceEqDiff, reduceCtorEq, Nat.reduceAdd, Nat.reduceMul, Nat.reduceLeDiff, aLoad, aStore, idxC ha hi2]; exact rfl) (h := ?_) | fail)
    refine awOps_nil (hK _ _ ?_)
    refine AW.less (sl' := [(0, .av (.sc sa)), (1, .av (.sc sb)), (6, .av (.ptr cid 0)), (8, .av (.map mid)), (22, .av (.sc sa)), (23, vI a.length), (7, vI kb), (24, vI i), (10, .av (.ptr (s1.nx + 3) 0))]) (AllIn.less ⟨rfl, rfl, rfl, rfl, rfl, rfl, rfl, rfl, rfl, trivial⟩) ?_
    refine aw_state (J := fun s4 => MT s sb cid mid ml s4 ∧ s4.ob (s1.nx + 3) = .cs ((encC a[i]).map .sc) 0 ∧ s1.nx + 3 < s4.nx) ⟨hs1.frame (by first | omega | (dsimp only; omega) | (dsimp only at *; omega)) (fun j hj => (upd_ne _ _ (by omega)).trans (upd_ne _ _ (by omega))), upd_same _ _ _, (by first | omega | (dsimp only; omega) | (dsimp only at *; omega))⟩ fun s4 hJ4 => ?_
    obtain ⟨cc, hcc⟩ : ∃ c, c = s1.nx + 3 := ⟨_, rfl⟩
    rw [← hcc] at hJ4 ⊢
    obtain ⟨hs4, hx4, hn4⟩ := hJ4
    simp only [encC, List.map_cons, List.map_nil] at hx4
    clear hK K
    refine aw_seq ?_
    refine aw_region_seq C (pb := false) rfl fun K hK => ?_
    repeat' (first | refine wy1 (a := by simp only [go_sem, ↓reduceIte, Nat.reduceEqDiff, reduceCtorEq, Nat.reduceAdd, Nat.reduceMul, Nat.reduceLeDiff, aLoad, aStore, lenC hb]; exact rfl) (h := ?_) | fail)
    refine awOps_nil (hK _ _ ?_)
    clear hK K
    refine aw_cond (by rfl) ?_ ?_
    · intro hc1
      try simp only [decide_eq_true_eq, decide_eq_false_iff_not] at hc1
      have hk2 : b.length ≤ kb := by omega
      rw [List.getElem?_eq_none hk2] at h3
      refine aw_region_seq C (pb := false) rfl fun K hK => ?_
      repeat' (first | refine wy0 (h := ?_) | fail)
      refine awOps_nil (hK _ _ ?_)
      clear hK K
      refine aw_ret ?_
      try simp only [thenA_normal, thenA_ret, thenA_exit, blockA_normal, blockA_ret, blockA_exit]
      simp only [go_sem, ↓reduceIte, Nat.reduceEqDiff, reduceCtorEq, Nat.reduceAdd, Nat.reduceMul, Nat.reduceLeDiff, aLoad, aStore, FnQ, resA]
      -- 0t1t.ret
      have hRn : R = none := h3.symm
      have hon : o = none := by rw [← ho, hRn]; rfl
      exact fun _ => ⟨rfl, hs4.kp.2.1, hs4.kp.2.2, .nilsl, [], by rw [hon]; rfl, .inl ⟨rfl, rfl⟩, by rw [hon]; rfl⟩
    · intro hc1
      try simp only [decide_eq_true_eq, decide_eq_false_iff_not] at hc1
      have hk2 : kb < b.length := by omega
      rw [List.getElem?_eq_getElem hk2] at h3
      dsimp only at h3
      refine aw_skip ?_
      simp only [thenA_normal, thenA_ret, thenA_exit, blockA_normal, blockA_ret, blockA_exit, ↓reduceIte, Nat.reduceEqDiff]
      refine aw_seq ?_
      refine aw_region_seq C (pb := false) rfl fun K hK => ?_
      repeat' (first | refine wy1 (a := by simp only [go_sem, ↓reduceIte, Nat.reduceEqDiff, reduceCtorEq, Nat.reduceAdd, Nat.reduceMul, Nat.reduceLeDiff, aLoad, aStore, hx4]; exact rfl) (h := ?_) | fail)
      refine awOps_nil (hK _ _ ?_)
      clear hK K
      refine aw_cond (by rfl) ?_ ?_
      · intro hc2
        try simp only [bne_iff_ne, ne_eq, bne_eq_false_iff_eq] at hc2
        rw [if_neg hc2] at h3
        refine aw_seq ?_
        refine aw_sil_seq C (pb := false) 6 _ rfl (by kernel_rfl) rfl (fun _ _ => rfl) fun K hK => ?_
        repeat' (first | refine ws1 (a := by simp only [go_sem, ↓reduceIte, Nat.reduceEqDiff, reduceCtorEq, Nat.reduceAdd, Nat.reduceMul, Nat.reduceLeDiff, aLoad, aStore, hx4, idxC hb hk2]; exact rfl) (h := ?_) | fail)
        refine sil_nil (hK _ ?_)
        clear hK K
        refine aw_cond (by rfl) ?_ ?_
        · intro hc3
          try simp only [decide_eq_true_eq, decide_eq_false_iff_not] at hc3
          refine aw_region_seq C (pb := false) rfl fun K hK => ?_
          repeat' (first | refine wy0 (h := ?_) | fail)
          refine awOps_nil (hK _ _ ?_)
          clear hK K
          refine aw_ret ?_
          try simp only [thenA_normal, thenA_ret, thenA_exit, blockA_normal, blockA_ret, blockA_exit]
          simp only [go_sem, ↓reduceIte, Nat.reduceEqDiff, reduceCtorEq, Nat.reduceAdd, Nat.reduceMul, Nat.reduceLeDiff, aLoad, aStore, FnQ, resA]
          -- 0t1f2t3t.ret
          have hc3' : (!(cellEq a[i] b[kb])) = true := hc3
          have hq : cellEq a[i] b[kb] = false := by simpa using hc3'
          have hRn : R = none := by rw [← h3, hq]; rfl
          have hon : o = none := by rw [← ho, hRn]; rfl
          exact fun _ => ⟨rfl, hs4.kp.2.1, hs4.kp.2.2, .nilsl, [], by rw [hon]; rfl, .inl ⟨rfl, rfl⟩, by rw [hon]; rfl⟩
        · intro hc3
          try simp only [decide_eq_true_eq, decide_eq_false_iff_not] at hc3
          refine aw_skip ?_
          simp only [thenA_normal, thenA_ret, thenA_exit, blockA_normal, blockA_ret, blockA_exit, ↓reduceIte, Nat.reduceEqDiff]
          refine aw_region_seq C (pb := false) rfl fun K hK => ?_
          repeat' (first | refine wy1 (a := by simp only [go_sem, ↓reduceIte, Nat.reduceEqDiff, reduceCtorEq, Nat.reduceAdd, Nat.reduceMul, Nat.reduceLeDiff, aLoad, aStore, wrap_small ((kb : Int) + 1) (by omega) (by omega)]; exact rfl) (h := ?_) | fail)
          refine awOps_nil (hK _ _ ?_)
          clear hK K
          refine aw_exit ?_
          simp only [thenA_normal, thenA_ret, thenA_exit, blockA_normal, blockA_ret, blockA_exit, ↓reduceIte, Nat.reduceEqDiff]
          refine aw_region C (pb := false) rfl ?_
          repeat' (first | refine wy1 (a := by simp only [go_sem, ↓reduceIte, Nat.reduceEqDiff, reduceCtorEq, Nat.reduceAdd, Nat.reduceMul, Nat.reduceLeDiff, aLoad, aStore, wrap_small ((i : Int) + 1) (by omega) (by omega)]; exact rfl) (h := ?_) | fail)
          refine awOps_nil ?_
          try simp only [thenA_normal, thenA_ret, thenA_exit, blockA_normal, blockA_ret, blockA_exit]
          -- end of round 0 at 0t1f2t3f.x1
          have hc3' : (!(cellEq a[i] b[kb])) = false := hc3
          have hq : cellEq a[i] b[kb] = true := by simpa using hc3'
          rw [if_pos hq] at h3
          refine ⟨a.length - (i + 1), [(0, .av (.sc sa)), (1, .av (.sc sb)), (6, .av (.ptr cid 0)), (8, .av (.map mid)), (22, .av (.sc sa)), (23, vI a.length), (7, vI (kb + 1)), (24, vI (i + 1))], by omega, AllIn.less ⟨rfl, rfl, rfl, rfl, rfl, rfl, rfl, rfl, trivial⟩, i + 1, kb + 1, M, ml, rfl, rfl, ?_, ?_, ?_, ?_, ?_, ?_⟩
          · exact hs4.frame (by first | omega | (dsimp only; omega) | (dsimp only at *; omega)) fun _ _ => rfl
          · omega
          · exact hMM
          · rw [List.take_succ_eq_append_getElem hi2]
            intro c hc hk
            rcases List.mem_append.1 hc with h | h
            · exact hset c h hk
            · rw [List.mem_singleton.1 h] at hk; exact absurd hk hc2
          · exact hok
          · exact h3
      · intro hc2
        try simp only [bne_iff_ne, ne_eq, bne_eq_false_iff_eq] at hc2
        rw [if_pos hc2] at h3
        obtain ⟨e, he⟩ := ht.1 kb hk2
        rw [he] at h3
        dsimp only at h3
        have hle := takes_le he
        rw [List.length_drop] at hle
        obtain ⟨te, hte⟩ : ∃ t, t = (b.take (kb + e)).drop kb := ⟨_, rfl⟩
        rw [← hte] at h3
        have htl : te.length = e := by rw [hte, List.length_drop, List.length_take]; omega
        have hep : 0 < e := by
          rcases Nat.eq_zero_or_pos e with h | h
          · subst h; exact absurd he (takes_pos0 _)
          · exact h
        have hsl : aSlice T 22 (.av (.sc sb)) (some (vI kb)) (some (vI ((kb + e : Nat) : Int))) = some (.av (.sc (.sl te.length (te.flatMap encC)))) := by
          obtain ⟨x', h1, h2⟩ := slc_g (t := 22) (e := 42) (y := y22) (z := y42) T22 rfl T42 rfl (by decide) (enc := encC) (fun _ => rfl) hb (lo := some (vI kb)) (hi := some (vI ((kb + e : Nat) : Int))) (a := kb) (b := kb + e) (by simp [bnd, vI]) (by simp only [bnd, vI]; rw [if_pos (by omega)]; exact congrArg some (Int.toNat_natCast _)) (by omega) (by omega)
          rw [← hte] at h2
          rw [h1, gsl_pos h2 (by omega)]
        refine aw_skip ?_
        simp only [thenA_normal, thenA_ret, thenA_exit, blockA_normal, blockA_ret, blockA_exit, ↓reduceIte, Nat.reduceEqDiff]
        refine aw_region_seq C (pb := false) rfl fun K hK => ?_
        repeat' (first | refine wy0 (h := ?_) | fail)
        (refine wc (And.intro Try.call47 (fn47 L b kb e cid 0 _ _ _ _ sb hb hs4.c (by have := hs4.lo; dsimp only; omega) (by omega) ht.2 he (by omega))) ?_; rintro _ _ ⟨rfl, rfl⟩)
        repeat' (first | refine wy0 (h := ?_) | fail)
        refine awOps_nil (hK _ _ ?_)
        refine AW.less (sl' := [(0, .av (.sc sa)), (1, .av (.sc sb)), (6, .av (.ptr cid 0)), (8, .av (.map mid)), (22, .av (.sc sa)), (23, vI a.length), (7, vI kb), (24, vI i), (10, .av (.ptr cc 0)), (11, vI ((kb + e : Nat) : Int))]) (AllIn.less ⟨rfl, rfl, rfl, rfl, rfl, rfl, rfl, rfl, rfl, rfl, trivial⟩) ?_
        clear hK K
        refine aw_seq ?_
        refine aw_region_seq C (pb := false) rfl fun K hK => ?_
        repeat' (first | refine wy1 (a := by simp only [go_sem, ↓reduceIte, Nat.reduceEqDiff, reduceCtorEq, Nat.reduceAdd, Nat.reduceMul, Nat.reduceLeDiff, aLoad, aStore, hx4, lookA T71 rfl T3 rfl T22 rfl rfl hs4.m]; exact rfl) (h := ?_) | fail)
        refine awOps_nil (hK _ _ ?_)
        refine AW.less (sl' := [(0, .av (.sc sa)), (1, .av (.sc sb)), (6, .av (.ptr cid 0)), (8, .av (.map mid)), (22, .av (.sc sa)), (23, vI a.length), (7, vI kb), (24, vI i), (10, .av (.ptr cc 0)), (11, vI ((kb + e : Nat) : Int)), (12, .av ((lkA ml a[i].n).getD (.sc (y22.zero.headD .nili)))), (13, vB (lkA ml a[i].n).isSome)]) (AllIn.less ⟨rfl, rfl, rfl, rfl, rfl, rfl, rfl, rfl, rfl, rfl, rfl, rfl, trivial⟩) ?_
        clear hK K
        refine aw_cut_seq C (pb := false) [(0, .av (.sc sa)), (1, .av (.sc sb)), (6, .av (.ptr cid 0)), (8, .av (.map mid)), (22, .av (.sc sa)), (23, vI a.length), (7, vI kb), (24, vI i), (10, .av (.ptr cc 0)), (11, vI ((kb + e : Nat) : Int)), (62, vB (match M a[i].n with | some u => !sameL u te | none => false))] rfl ?_ fun n14 hn14 => ?_
        · have hlk := hMM a[i].n
          cases hA : M a[i].n with
          | none =>
            rw [hA, Option.map_none] at hlk
            repeat' (first | refine wy2 (by simp only [go_sem, ↓reduceIte, Nat.reduceEqDiff, reduceCtorEq, Nat.reduceAdd, Nat.reduceMul, Nat.reduceLeDiff, aLoad, aStore, hlk, Option.getD_some, Option.getD_none, Option.isSome_some, Option.isSome_none, hsl]; exact rfl) ?_ | refine awOps_no (by rfl) (by rfl) ?_ | fail)
            exact awOps_nil ⟨⟨rfl, rfl, rfl, rfl, rfl, rfl, rfl, rfl, rfl, rfl, rfl, trivial⟩, rfl, (by first | omega | (dsimp only; omega) | (dsimp only at *; omega)), rfl⟩
          | some u =>
            rw [hA, Option.map_some] at hlk
            repeat' (first | refine wy2 (by simp only [go_sem, ↓reduceIte, Nat.reduceEqDiff, reduceCtorEq, Nat.reduceAdd, Nat.reduceMul, Nat.reduceLeDiff, aLoad, aStore, hlk, Option.getD_some, Option.getD_none, Option.isSome_some, Option.isSome_none, hsl]; exact rfl) ?_ | refine awOps_no (by rfl) (by rfl) ?_ | fail)
            refine wc (And.intro Try.call48 (fn48 L u te _ _ _ (gslC u) (gslC te) (by have := (hok _ _ hA).2; omega))) ?_
            rintro _ _ ⟨rfl, rfl⟩
            repeat' (first | refine wy2 (by simp only [go_sem, ↓reduceIte, Nat.reduceEqDiff, reduceCtorEq, Nat.reduceAdd, Nat.reduceMul, Nat.reduceLeDiff, aLoad, aStore, hlk, Option.getD_some, Option.getD_none, Option.isSome_some, Option.isSome_none, hsl]; exact rfl) ?_ | refine awOps_no (by rfl) (by rfl) ?_ | fail)
            exact awOps_nil ⟨⟨rfl, rfl, rfl, rfl, rfl, rfl, rfl, rfl, rfl, rfl, rfl, trivial⟩, rfl, (by first | omega | (dsimp only; omega) | (dsimp only at *; omega)), rfl⟩
        refine aw_cond (by rfl) ?_ ?_
        · intro hc4
          refine aw_region_seq C (pb := false) rfl fun K hK => ?_
          repeat' (first | refine wy0 (h := ?_) | fail)
          refine awOps_nil (hK _ _ ?_)
          clear hK K
          refine aw_ret ?_
          try simp only [thenA_normal, thenA_ret, thenA_exit, blockA_normal, blockA_ret, blockA_exit]
          simp only [go_sem, ↓reduceIte, Nat.reduceEqDiff, reduceCtorEq, Nat.reduceAdd, Nat.reduceMul, Nat.reduceLeDiff, aLoad, aStore, FnQ, resA]
          -- 0t1f2f4t.ret
          have hRn : R = none := by
            rw [← h3]
            cases hA : M a[i].n with
            | none => rw [hA] at hc4; cases hc4
            | some u =>
              rw [hA] at hc4
              have hc4' : (!(sameL u te)) = true := hc4
              have hq : sameL u te = false := by simpa using hc4'
              simp only [hq]; rfl
          have hon : o = none := by rw [← ho, hRn]; rfl
          exact fun _ => ⟨rfl, hs4.kp.2.1, hs4.kp.2.2, .nilsl, [], by rw [hon]; rfl, .inl ⟨rfl, rfl⟩, by rw [hon]; rfl⟩
        · intro hc4
          refine aw_skip ?_
          simp only [thenA_normal, thenA_ret, thenA_exit, blockA_normal, blockA_ret, blockA_exit, ↓reduceIte, Nat.reduceEqDiff]
          obtain ⟨j, av0, l1, he1, he2⟩ := entA (t := 71) (kt := 3) (e := 22) (y := y71) (yk := y3) (z := y22) T71 rfl T3 rfl T22 rfl rfl hs4.m a[i].n (.sc (.sl te.length (te.flatMap encC)))
          have hx40 : (upd s4.ob mid (.mp l1)) cc = _ := (upd_ne _ _ (by have := hs4.lo; have := hs1.lo; omega)).trans hx4
          have hx41 : (upd (upd s4.ob mid (.mp l1)) mid (.mp (mapA (setA ml a[i].n (.sc (.sl te.length (te.flatMap encC))))))) cc = _ := (upd_ne _ _ (by have := hs4.lo; have := hs1.lo; omega)).trans hx40
          refine aw_dra C (pb := false) 12 [8, 10] [s4.ob, upd s4.ob mid (.mp l1), upd (upd s4.ob mid (.mp l1)) mid (.mp (mapA (setA ml a[i].n (.sc (.sl te.length (te.flatMap encC))))))] rfl (by kernel_rfl) (by kernel_rfl) rfl (fun _ _ => rfl) ?_
          iterate 3 (first | refine dra_yes [0] (by rfl) (by rfl) (by rfl) (by rfl) (by kernel_rfl) ⟨⟨_, by simp  only [go_sem, ↓reduceIte, Nat.reduceEqDiff, reduceCtorEq, Nat.reduceAdd, Nat.reduceMul, Nat.reduceLeDiff, osL_0, osL_1, osL_2, osL_3, osL_4, osL_5, osL_6, hsl, he1, he2 _ (upd_same _ _ _), ldA hx4, ldA hx40, ldA hx41]; (try exact rfl), fun _ => rfl⟩, trivial⟩ ?_ | refine dra_no (by rfl) (by rfl) (by rfl) ?_)
          iterate 4 (first | refine dra_yes [0, 1] (by rfl) (by rfl) (by rfl) (by rfl) (by kernel_rfl) ⟨⟨_, by simp  only [go_sem, ↓reduceIte, Nat.reduceEqDiff, reduceCtorEq, Nat.reduceAdd, Nat.reduceMul, Nat.reduceLeDiff, osL_0, osL_1, osL_2, osL_3, osL_4, osL_5, osL_6, hsl, he1, he2 _ (upd_same _ _ _), ldA hx4, ldA hx40, ldA hx41]; (try exact rfl), fun _ => rfl⟩, ⟨_, by simp  only [go_sem, ↓reduceIte, Nat.reduceEqDiff, reduceCtorEq, Nat.reduceAdd, Nat.reduceMul, Nat.reduceLeDiff, osL_0, osL_1, osL_2, osL_3, osL_4, osL_5, osL_6, hsl, he1, he2 _ (upd_same _ _ _), ldA hx4, ldA hx40, ldA hx41]; (try exact rfl), fun _ => rfl⟩, trivial⟩ ?_ | refine dra_no (by rfl) (by rfl) (by rfl) ?_)
          (first | refine dra_yes [0, 1, 2] (by rfl) (by rfl) (by rfl) (by rfl) (by kernel_rfl) ⟨⟨_, by simp  only [go_sem, ↓reduceIte, Nat.reduceEqDiff, reduceCtorEq, Nat.reduceAdd, Nat.reduceMul, Nat.reduceLeDiff, osL_0, osL_1, osL_2, osL_3, osL_4, osL_5, osL_6, hsl, he1, he2 _ (upd_same _ _ _), ldA hx4, ldA hx40, ldA hx41]; (try exact rfl), fun _ => rfl⟩, ⟨_, by simp  only [go_sem, ↓reduceIte, Nat.reduceEqDiff, reduceCtorEq, Nat.reduceAdd, Nat.reduceMul, Nat.reduceLeDiff, osL_0, osL_1, osL_2, osL_3, osL_4, osL_5, osL_6, hsl, he1, he2 _ (upd_same _ _ _), ldA hx4, ldA hx40, ldA hx41]; (try exact rfl), fun _ => rfl⟩, ⟨_, by simp  only [go_sem, ↓reduceIte, Nat.reduceEqDiff, reduceCtorEq, Nat.reduceAdd, Nat.reduceMul, Nat.reduceLeDiff, osL_0, osL_1, osL_2, osL_3, osL_4, osL_5, osL_6, hsl, he1, he2 _ (upd_same _ _ _), ldA hx4, ldA hx40, ldA hx41]; (try exact rfl), fun _ => rfl⟩, trivial⟩ ?_ | refine dra_no (by rfl) (by rfl) (by rfl) ?_)
          refine dra_eff (by rfl) (by rfl) (by rfl) (by rfl) (by simp  only [go_sem, ↓reduceIte, Nat.reduceEqDiff, reduceCtorEq, Nat.reduceAdd, Nat.reduceMul, Nat.reduceLeDiff, osL_0, osL_1, osL_2, osL_3, osL_4, osL_5, osL_6, hsl, he1, he2 _ (upd_same _ _ _), ldA hx4, ldA hx40, ldA hx41]; exact rfl) (fun _ => rfl) ⟨Nat.le_refl _, rfl⟩ ?_
          (first | refine dra_yes [1] (by rfl) (by rfl) (by rfl) (by rfl) (by kernel_rfl) ⟨⟨_, by simp  only [go_sem, ↓reduceIte, Nat.reduceEqDiff, reduceCtorEq, Nat.reduceAdd, Nat.reduceMul, Nat.reduceLeDiff, osL_0, osL_1, osL_2, osL_3, osL_4, osL_5, osL_6, hsl, he1, he2 _ (upd_same _ _ _), ldA hx4, ldA hx40, ldA hx41]; (try exact rfl), fun _ => rfl⟩, trivial⟩ ?_ | refine dra_no (by rfl) (by rfl) (by rfl) ?_)
          refine dra_eff0 (by rfl) (by rfl) (by rfl) (by rfl) (by simp  only [go_sem, ↓reduceIte, Nat.reduceEqDiff, reduceCtorEq, Nat.reduceAdd, Nat.reduceMul, Nat.reduceLeDiff, osL_0, osL_1, osL_2, osL_3, osL_4, osL_5, osL_6, hsl, he1, he2 _ (upd_same _ _ _), ldA hx4, ldA hx40, ldA hx41]; exact rfl) (fun _ => rfl) ⟨Nat.le_refl _, rfl⟩ ?_
          (first | refine dra_yes [2] (by rfl) (by rfl) (by rfl) (by rfl) (by kernel_rfl) ⟨⟨_, by simp  only [go_sem, ↓reduceIte, Nat.reduceEqDiff, reduceCtorEq, Nat.reduceAdd, Nat.reduceMul, Nat.reduceLeDiff, osL_0, osL_1, osL_2, osL_3, osL_4, osL_5, osL_6, hsl, he1, he2 _ (upd_same _ _ _), ldA hx4, ldA hx40, ldA hx41]; (try exact rfl), fun _ => rfl⟩, trivial⟩ ?_ | refine dra_no (by rfl) (by rfl) (by rfl) ?_)
          refine dra_nil ?_
          simp only [osL_0, osL_1, osL_2, osL_3, osL_4, osL_5, osL_6, List.length_cons, List.length_nil, Nat.reduceAdd]
          try simp only [thenA_normal, thenA_ret, thenA_exit, blockA_normal, blockA_ret, blockA_exit]
          refine aw_region C (pb := false) rfl ?_
          repeat' (first | refine wy1 (a := by simp only [go_sem, ↓reduceIte, Nat.reduceEqDiff, reduceCtorEq, Nat.reduceAdd, Nat.reduceMul, Nat.reduceLeDiff, aLoad, aStore, wrap_small ((i : Int) + 1) (by omega) (by omega)]; exact rfl) (h := ?_) | fail)
          refine awOps_nil ?_
          try simp only [thenA_normal, thenA_ret, thenA_exit, blockA_normal, blockA_ret, blockA_exit]
          -- end of round 0 at 0t1f2f4f
          refine ⟨a.length - (i + 1), [(0, .av (.sc sa)), (1, .av (.sc sb)), (6, .av (.ptr cid 0)), (8, .av (.map mid)), (22, .av (.sc sa)), (23, vI a.length), (7, vI (kb + e)), (24, vI (i + 1))], by omega, AllIn.less ⟨rfl, rfl, rfl, rfl, rfl, rfl, rfl, rfl, trivial⟩, i + 1, kb + e, updI M a[i].n te, setA ml a[i].n (.sc (.sl te.length (te.flatMap encC))), rfl, rfl, ?_, ?_, ?_, ?_, ?_, ?_⟩
          · exact hs4.setM (by first | omega | (dsimp only; omega) | (dsimp only at *; omega)) _
          · omega
          · intro n
            rw [lk_setA]
            unfold updI
            split
            · rfl
            · exact hMM n
          · rw [List.take_succ_eq_append_getElem hi2]
            intro c hc hk
            unfold updI
            split
            · rfl
            · rename_i hne
              rcases List.mem_append.1 hc with h | h
              · exact hset c h hk
              · rw [List.mem_singleton.1 h] at hne; exact absurd rfl hne
          · intro n t h
            unfold updI at h
            split at h
            · cases h; omega
            · exact hok n t h
          · rw [← h3]
            cases hA : M a[i].n with
            | none => rfl
            | some u =>
              rw [hA] at hc4
              have hc4' : (!(sameL u te)) = false := hc4
              have hq : sameL u te = true := by simpa using hc4'
              simp only [hq]; rfl
  · intro hc0
    try simp only [decide_eq_true_eq, decide_eq_false_iff_not] at hc0
    rw [List.drop_of_length_le (by omega), matG] at h3
    have hall : ∀ n ∈ sortI (varsG a []), ∃ t, M n = some t ∧ 0 < t.length ∧ t.length ≤ b.length := by
      intro n hn
      rcases varsG_kind (sortI_mem hn) with h | ⟨c, h1, h2, h3'⟩
      · simp at h
      · rw [List.take_of_length_le (by omega)] at hset
        have h4 := hset c h1 h2
        rw [h3'] at h4
        obtain ⟨t, ht'⟩ := Option.isSome_iff_exists.1 h4
        exact ⟨t, ht', hok n t ht'⟩
    obtain ⟨V, hV⟩ : ∃ V, V = sortI (varsG a []) := ⟨_, rfl⟩
    rw [← hV] at hall ho
    have hVl : V.length ≤ 100000 := by
      rw [hV, sortI_len]
      have := varsG_len a []
      simp only [List.length_nil] at this; omega
    refine aw_exit ?_
    simp only [thenA_normal, thenA_ret, thenA_exit, blockA_normal, blockA_ret, blockA_exit, ↓reduceIte, Nat.reduceEqDiff]
    refine aw_region_seq C (pb := false) rfl fun K hK => ?_
    repeat' (first | refine wy0 (h := ?_) | fail)
    refine awOps_nil (hK _ _ ?_)
    clear hK K
    refine aw_seq ?_
    refine aw_region_seq C (pb := false) rfl fun K hK => ?_
    repeat' (first | refine wy0 (h := ?_) | fail)
    refine wc (And.intro Try.call51 (fn51 L a _ sa ha (by omega))) ?_
    rintro _ _ ⟨⟨yv, rfl, hyv⟩, rfl⟩
    refine wc (And.intro Try.call50 (fn50 L yv _)) ?_
    rintro _ _ ⟨bt, m9, rfl, hb9, hm9, rfl⟩
    refine wc (And.intro Try.call49 (fn49p L (varsG a []) bt _ yv hyv (by rw [← sortI_len, ← hV]; omega) (upd_same _ _ _) (by first | omega | (dsimp only; omega) | (dsimp only at *; omega)))) ?_
    rintro _ _ ⟨⟨ys, rfl, hys⟩, rfl⟩
    rw [← hV] at hys
    repeat' (first | refine wy1 (a := by simp only [go_sem, ↓reduceIte, Nat.reduceEqDiff, reduceCtorEq, Nat.reduceAdd, Nat.reduceMul, Nat.reduceLeDiff, aLoad, aStore, len_g T36 rfl hys]; exact rfl) (h := ?_) | fail)
    refine awOps_nil (hK _ _ ?_)
    refine AW.less (sl' := [(8, .av (.map mid)), (14, .av (.sc .nilsl)), (77, .av (.sc ys)), (78, vI V.length), (79, vI 0)]) (AllIn.less ⟨rfl, rfl, rfl, rfl, rfl, trivial⟩) ?_
    refine aw_state (J := fun s8 => MT s sb cid mid ml s8) (hs1.frame (by first | omega | (dsimp only; omega) | (dsimp only at *; omega)) fun j hj => upd_ne _ _ (by have := hb9; dsimp only at this; omega)) fun s8 hs8 => ?_
    clear hK K
    refine aw_block ?_
    refine AW.less (sl' := [(8, .av (.map mid)), (14, (_)), (77, .av (.sc ys)), (78, vI V.length), (79, vI (0))]) (AllIn.less ⟨rfl, rfl, rfl, rfl, rfl, trivial⟩) (aw_loop (fun k sl1 s1 => ∃ (j : Nat) (xo : Va) (outl : List (Int × List Cell)), k = V.length - j ∧ sl1 = [(8, .av (.map mid)), (14, (xo)), (77, .av (.sc ys)), (78, vI V.length), (79, vI (j))] ∧ (Kp s8 s1) ∧ (j ≤ V.length ∧ outl.length ≤ j) ∧ (Acc s8.nx s1.nx s1.ob xo outl.length 2 ((outl.flatMap fun b => encB (bndI b)).map .sc)) ∧ (outl ++ outG M (V.drop j) = outG M V)) (k := V.length - (0)) ⟨0, _, [], rfl, rfl, (Kp.refl s8).up (by first | omega | (dsimp only; omega) | (dsimp only at *; omega)), ⟨Nat.zero_le _, Nat.le_refl _⟩, .inl ⟨rfl, rfl, rfl⟩, by rw [List.drop_zero]; rfl⟩ ?_)
    rintro k2 _ s2 ⟨j, xo, outl, hk2, rfl, hs2, hj, hacc, h5⟩
    refine aw_region_seq C (pb := false) rfl fun K hK => ?_
    repeat' (first | refine wy0 (h := ?_) | fail)
    refine awOps_nil (hK _ _ ?_)
    clear hK K
    refine aw_seq ?_
    refine aw_cond (by rfl) ?_ ?_
    · intro hc5
      try simp only [decide_eq_true_eq, decide_eq_false_iff_not] at hc5
      have hj2 : j < V.length := by omega
      obtain ⟨tn, htn, htp, htl⟩ := hall V[j] (List.getElem_mem hj2)
      obtain ⟨c0, tl, rfl⟩ : ∃ c l, tn = c :: l := by
        cases tn with
        | nil => simp at htp
        | cons c l => exact ⟨c, l, rfl⟩
      rw [List.drop_eq_getElem_cons hj2, outG, htn] at h5
      dsimp only at h5
      have hm2 : s2.ob mid = .mp (mapA ml) := (hs2.2.1 mid hs8.lo.2.2.2.2).trans hs8.m
      have hlk := hMM V[j]
      rw [htn, Option.map_some] at hlk
      have hix0 : aIndex T 22 (vC (c0 :: tl)) (.av (.sc (.int .i64 0))) = some (.av (.sc (.cptr (.int .i64 c0.kind :: .str c0.name :: .int .i64 c0.n :: tl.flatMap encC)))) := idxC (gslC (c0 :: tl)) (i := 0) (by simp)
      refine aw_skip ?_
      simp only [thenA_normal, thenA_ret, thenA_exit, blockA_normal, blockA_ret, blockA_exit, ↓reduceIte, Nat.reduceEqDiff]
      refine aw_seq ?_
      refine aw_block ?_
      refine aw_region_seq C (pb := false) rfl fun K hK => ?_
      repeat' (first | refine wy1 (a := by simp only [go_sem, ↓reduceIte, Nat.reduceEqDiff, reduceCtorEq, Nat.reduceAdd, Nat.reduceMul, Nat.reduceLeDiff, aLoad, aStore, idxI hys hj2]; exact rfl) (h := ?_) | fail)
      refine awOps_nil (hK _ _ ?_)
      refine AW.less (sl' := [(8, .av (.map mid)), (14, xo), (77, .av (.sc ys)), (78, vI V.length), (79, vI j), (16, vI V[j])]) (AllIn.less ⟨rfl, rfl, rfl, rfl, rfl, rfl, trivial⟩) ?_
      clear hK K
      refine aw_region_seq C (pb := false) rfl fun K hK => ?_
      repeat' (first | refine wy1 (a := by simp only [go_sem, ↓reduceIte, Nat.reduceEqDiff, reduceCtorEq, Nat.reduceAdd, Nat.reduceMul, Nat.reduceLeDiff, aLoad, aStore, lookA0 T71 rfl T3 rfl T22 rfl rfl hm2, hlk, Option.getD_some]; exact rfl) (h := ?_) | fail)
      refine awOps_nil (hK _ _ ?_)
      refine AW.less (sl' := [(8, .av (.map mid)), (14, xo), (77, .av (.sc ys)), (78, vI V.length), (79, vI j), (16, vI V[j]), (17, vC (c0 :: tl))]) (AllIn.less ⟨rfl, rfl, rfl, rfl, rfl, rfl, rfl, trivial⟩) ?_
      clear hK K
      refine aw_cut_seq C (pb := false) [(8, .av (.map mid)), (14, xo), (77, .av (.sc ys)), (78, vI V.length), (79, vI j), (16, vI V[j]), (17, vC (c0 :: tl)), (98, vB (if c0.kind != 1 then true else c0.n != V[j]))] rfl ?_ fun n23 hn23 => ?_
      · cases hA0 : (c0.kind != 1 : Bool)
        all_goals (repeat' (first | refine wy1 (a := by simp only [go_sem, ↓reduceIte, Nat.reduceEqDiff, reduceCtorEq, Nat.reduceAdd, Nat.reduceMul, Nat.reduceLeDiff, aLoad, aStore, hix0, hA0]; exact rfl) (h := ?_) | refine wn (h := ?_) | fail))
        all_goals (exact awOps_nil ⟨⟨rfl, rfl, rfl, rfl, rfl, rfl, rfl, by first | rfl | (rw [hA0]; rfl) | simp [hA0, get], trivial⟩, rfl, (by first | omega | (dsimp only; omega)), rfl⟩)
      refine aw_cond (by rfl) ?_ ?_
      · intro hc6
        refine aw_region C (pb := false) rfl ?_
        repeat' (first | refine wy0 (h := ?_) | fail)
        (refine wc (And.intro Try.call52 (fn52p L (c0 :: tl) _ ⟨htp, by omega⟩)) ?_; rintro _ _ ⟨rfl, rfl⟩)
        repeat' (first | refine wy0 (h := ?_) | fail)
        refine awOps_append (by rfl) (by rfl) (by rfl) (by rfl) (hacc.up (hi' := s2.nx) (Nat.le_refl _) (fun j h1 h2 => (upd_ne _ _ (by omega)))) T25 rfl T39 rfl (by simp) (by simp [y39]) (k := 1) (new := (encB (bndI (V[j], c0 :: tl))).map .sc) (by simp [aSrc, evA, get, upd, zeroA, zerosA, encB, bndI, storeL, List.range, List.range.loop]) (by simp [encB]) (by first | omega | (dsimp only; omega) | (dsimp only at *; omega)) (by first | omega | (dsimp only; omega) | (dsimp only at *; omega)) (by first | omega | (dsimp only; omega) | (dsimp only at *; omega)) fun x9 ob9 hacc9 hlow9 _ => ?_
        repeat' (first | refine wy0 (h := ?_) | fail)
        refine awOps_nil ?_
        try simp only [thenA_normal, thenA_ret, thenA_exit, blockA_normal, blockA_ret, blockA_exit]
        refine aw_region C (pb := false) rfl ?_
        repeat' (first | refine wy1 (a := by simp only [go_sem, ↓reduceIte, Nat.reduceEqDiff, reduceCtorEq, Nat.reduceAdd, Nat.reduceMul, Nat.reduceLeDiff, aLoad, aStore, wrap_small ((j : Int) + 1) (by omega) (by omega)]; exact rfl) (h := ?_) | fail)
        refine awOps_nil ?_
        try simp only [thenA_normal, thenA_ret, thenA_exit, blockA_normal, blockA_ret, blockA_exit]
        -- end of round 1 at 0f.x05t6t
        refine ⟨V.length - (j + 1), [(8, .av (.map mid)), (14, (x9)), (77, .av (.sc ys)), (78, vI V.length), (79, vI (j + 1))], by omega, AllIn.less ⟨rfl, rfl, rfl, rfl, rfl, trivial⟩, j + 1, x9, outl ++ [(V[j], c0 :: tl)], rfl, rfl, ?_, ?_, ?_, ?_⟩
        · exact ⟨by have := hs2.1; dsimp only at this ⊢; omega, fun i hi => (hlow9 i (by omega)).trans ((upd_ne _ _ (by have := hs2.1; omega)).trans (hs2.2.1 i hi)), hs2.2.2⟩
        · simp only [List.length_append, List.length_cons, List.length_nil]; omega
        · rw [List.flatMap_append, List.map_append, List.length_append]
          simpa using hacc9.up (hi' := _) (by first | omega | (dsimp only; omega) | (dsimp only at *; omega)) fun _ _ _ => rfl
        · have hh : headV (c0 :: tl) V[j] = false := by
            unfold headV
            by_cases h1 : c0.kind = 1
            · by_cases h2 : c0.n = V[j]
              · simp [h1, h2] at hc6
              · simp [h2]
            · simp [h1]
          rw [hh] at h5
          rw [List.append_assoc]; exact h5
      · intro hc6
        refine aw_skip ?_
        simp only [thenA_normal, thenA_ret, thenA_exit, blockA_normal, blockA_ret, blockA_exit, ↓reduceIte, Nat.reduceEqDiff]
        refine aw_region C (pb := false) rfl ?_
        repeat' (first | refine wy1 (a := by simp only [go_sem, ↓reduceIte, Nat.reduceEqDiff, reduceCtorEq, Nat.reduceAdd, Nat.reduceMul, Nat.reduceLeDiff, aLoad, aStore, wrap_small ((j : Int) + 1) (by omega) (by omega)]; exact rfl) (h := ?_) | fail)
        refine awOps_nil ?_
        try simp only [thenA_normal, thenA_ret, thenA_exit, blockA_normal, blockA_ret, blockA_exit]
        -- end of round 1 at 0f.x05t6f
        refine ⟨V.length - (j + 1), [(8, .av (.map mid)), (14, (xo)), (77, .av (.sc ys)), (78, vI V.length), (79, vI (j + 1))], by omega, AllIn.less ⟨rfl, rfl, rfl, rfl, rfl, trivial⟩, j + 1, xo, outl, rfl, rfl, ?_, ?_, ?_, ?_⟩
        · exact hs2.up (by first | omega | (dsimp only; omega) | (dsimp only at *; omega))
        · omega
        · exact hacc.up (by first | omega | (dsimp only; omega) | (dsimp only at *; omega)) fun _ _ _ => rfl
        · have hh : headV (c0 :: tl) V[j] = true := by
            unfold headV
            by_cases h1 : c0.kind = 1
            · by_cases h2 : c0.n = V[j]
              · simp [h1, h2]
              · simp [h1, h2] at hc6
            · simp [h1] at hc6
          rw [hh, if_pos rfl] at h5
          exact h5
    · intro hc5
      try simp only [decide_eq_true_eq, decide_eq_false_iff_not] at hc5
      refine aw_exit ?_
      simp only [thenA_normal, thenA_ret, thenA_exit, blockA_normal, blockA_ret, blockA_exit, ↓reduceIte, Nat.reduceEqDiff]
      have hj3 : j = V.length := by omega
      rw [hj3, List.drop_of_length_le (Nat.le_refl _), outG, List.append_nil] at h5
      have hoo : o = some outl := by rw [← ho, ← h3, h5]; rfl
      rw [show (outl.flatMap fun b => encB (bndI b)) = (outl.map bndI).flatMap encB by rw [List.flatMap_map], show outl.length = (outl.map bndI).length by rw [List.length_map]] at hacc
      obtain ⟨ty, ob7, hpv7, hty, hacc7, hlow7, _⟩ := Acc.pure (enc := encB) (k := 2) (fun _ => rfl) hacc
      refine aw_pur 14 hpv7 ?_
      refine aw_region_seq C (pb := false) rfl fun K hK => ?_
      repeat' (first | refine wy0 (h := ?_) | fail)
      (refine wc (And.intro Try.call53 (fn53 L outl _ ty hty (by omega) (hr outl hoo))) ?_; rintro _ _ ⟨rfl, rfl⟩)
      repeat' (first | refine wy0 (h := ?_) | fail)
      refine awOps_nil (hK _ _ ?_)
      clear hK K
      refine aw_ret ?_
      simp only [go_sem, ↓reduceIte, Nat.reduceEqDiff, reduceCtorEq, Nat.reduceAdd, Nat.reduceMul, Nat.reduceLeDiff, aLoad, aStore, FnQ, resA]
      -- 0f.x05f.x2.ret
      exact fun _ => ⟨rfl, fun i hi => (hlow7 i (by have := hs8.kp.1; omega)).trans ((hs2.2.1 i (by have := hs8.kp.1; omega)).trans (hs8.kp.2.1 i hi)), hs2.2.2.trans hs8.kp.2.2, ty, _, by rw [hoo]; rfl, hty, by rw [hoo]; rfl⟩
end Go.Am.Seat
