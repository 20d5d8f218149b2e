/-
  UnifyVariants: for every input the law returns true, and each argument reads as it read: the row, out of the walk's contract (fn9) and the plain law.
-/
import Derived.Below
import Derived.ChangeOld
import Derived.OpenShut
import Derived.ProofKit
import Derived.ShutString
import Derived.SizedLaws
import Derived.Test.YticnfndhinjbbaaRows
import Derived.WalkKit
import Derived.Test.YticnfndhinjbbaaMV5
set_option linter.unusedVariables false
set_option linter.unusedSimpArgs false
/-
  MADE BY PROGRAM (am.py): the walks of functions 25.
-/
namespace Go.Am.Seat
open Go.Proofs
theorem bod25 : Try.f25.body = some (Try.f25.body.getD .skip) := rfl
theorem fn25 (L : Loops) (n : Int) (s : Me)  : FnL Try.prog L 25 [vI n] s fun r s' => (r = aggC ⟨1, .empty, n⟩) ∧ s' = s := by
  refine FnL.pure (R := fun r => r = aggC ⟨1, .empty, n⟩) ?_
  refine fn_of_bodyC (a := 2) (t := 42) tok Try.func25 bod25 rfl (by simp [Try.ntmps25]) fun D0 => ?_
  unfold Try.f25
  simp only [Option.getD_some, initSl]
  refine aw_region_seq C (pb := false) rfl fun K hK => ?_
  repeat' (first | refine awOps_yes (by rfl) (by rfl) (by rfl) (by simp  only [go_sem, ↓reduceIte, Nat.reduceEqDiff, reduceCtorEq, Nat.reduceAdd, Nat.reduceMul, Nat.reduceLeDiff, aLoad, aStore]; exact rfl) ?_ | refine awOps_no (by rfl) (by rfl) ?_ | refine awOps_yes0 (by rfl) (by rfl) (by rfl) (by simp  only [go_sem, ↓reduceIte, Nat.reduceEqDiff, reduceCtorEq, Nat.reduceAdd, Nat.reduceMul, Nat.reduceLeDiff, aLoad, aStore]; exact rfl) ?_ | fail)
  refine awOps_nil (hK _ _ ?_)
  clear hK K
  refine aw_region_seq C (pb := false) rfl fun K hK => ?_
  repeat' (first | refine awOps_yes (by rfl) (by rfl) (by rfl) (by simp  only [go_sem, ↓reduceIte, Nat.reduceEqDiff, reduceCtorEq, Nat.reduceAdd, Nat.reduceMul, Nat.reduceLeDiff, aLoad, aStore]; exact rfl) ?_ | refine awOps_no (by rfl) (by rfl) ?_ | refine awOps_yes0 (by rfl) (by rfl) (by rfl) (by simp  only [go_sem, ↓reduceIte, Nat.reduceEqDiff, reduceCtorEq, Nat.reduceAdd, Nat.reduceMul, Nat.reduceLeDiff, aLoad, aStore]; exact rfl) ?_ | fail)
  refine awOps_nil (hK _ _ ?_)
  clear hK K
  refine aw_ret ?_
  simp only [go_sem, ↓reduceIte, Nat.reduceEqDiff, reduceCtorEq, Nat.reduceAdd, Nat.reduceMul, Nat.reduceLeDiff, aLoad, aStore, FnQc]
  -- .ret
  refine ⟨_, _, aggC ⟨1, .empty, n⟩, rfl, ?_, fun _ => ⟨by first | rfl | trivial, fun i hi => (upd_ne _ _ (by omega)).trans (upd_ne _ _ (by omega)), by first | rfl | trivial, by first | rfl | trivial⟩⟩
  simp only [upd_same]
  rfl
end Go.Am.Seat
/-
  MADE BY PROGRAM (am.py): the walks of functions 11.
-/
namespace Go.Am.Seat
open Go.Proofs

def slB (out : List (Nat × List Cell)) (e : Int) : Sc := if e = 0 then .sl out.length ((out.map bndOf).flatMap encB) else .nilsl
theorem fnF (L : Loops) (l : List Cell) (id fz : Nat) (s : Me) (hid : s.ob id = .cs (celC l) fz) (hlt : id < s.nx) (hl : 0 < l.length ∧ l.length ≤ 1000000) : FnL Try.prog L 31 [.av (.own id 0 l.length 3)] s fun r s' => r = vC (fT l) ∧ s' = s := fn31 L l id fz s hid hlt hl
/-- Mgu at given terms. -/
theorem mguD (L : Loops) {a b : List Cell} {out : List (Nat × List Cell)} {e : Int} (s : Me) (h : mguR 100 (a ++ b) a.length = some (out, e)) (ha : rightOk a = true) (hb : rightOk b = true) (hne : e = 0 → out ≠ []) : FnL Try.prog L 13 [vC a, vC b] s fun r s' => r = .tup [.av (.sc (slB out e)), vI e] ∧ s' = s := by
  have ra := right_tm ha
  have rb := right_tm hb
  have a1 := ra.pos
  have a2 := ra.len
  have b1 := rb.pos
  have b2 := rb.len
  refine (fn13 L 100 a b out e s _ _ (gslC a) (gslC b) (by omega) (by omega) (tok_two ra rb) (by omega) h).mono fun r s' ⟨⟨y, h1, h2, h3⟩, h4⟩ => ⟨?_, h4⟩
  rw [h1]
  congr 3
  unfold slB
  split
  · rename_i h0
    rcases h2 with ⟨_, h2⟩ | h2
    · exact absurd (List.map_eq_nil_iff.1 h2) (hne h0)
    · rw [h2, List.length_map]
  · rename_i h0
    rw [h3 h0]
theorem matD (L : Loops) {a b : List Cell} {out : List (Int × List Cell)} (s : Me) (h : matR a b = some out) (ha : rightOk a = true) (hb : rightOk b = true) (hr : RightB out) : FnL Try.prog L 15 [vC a, vC b] s fun r s' => (∃ y, r = .tup [.av (.sc y), vB true] ∧ GSl encB y (out.map bndI)) ∧ s' = s := by
  have ra := right_tm ha
  have rb := right_tm hb
  have a2 := ra.len
  have b2 := rb.len
  refine (fn15 L a b _ s _ _ (gslC a) (gslC b) (by omega) rb.tok h fun o ho => by cases ho; exact hr).mono fun r s' ⟨⟨y, o, h1, h2, h3⟩, h4⟩ => ⟨⟨y, h1, ?_⟩, h4⟩
  rw [h3] at h2
  exact h2
theorem matN (L : Loops) {a b : List Cell} (s : Me) (h : matR a b = none) (ha : rightOk a = true) (hb : rightOk b = true) : FnL Try.prog L 15 [vC a, vC b] s fun r s' => (∃ y, r = .tup [.av (.sc y), vB false] ∧ GSl encB y []) ∧ s' = s := by
  have ra := right_tm ha
  have rb := right_tm hb
  have a2 := ra.len
  have b2 := rb.len
  refine (fn15 L a b _ s _ _ (gslC a) (gslC b) (by omega) rb.tok h fun o ho => by cases ho).mono fun r s' ⟨⟨y, o, h1, h2, h3⟩, h4⟩ => ⟨⟨y, h1, ?_⟩, h4⟩
  rw [h3] at h2
  exact h2
theorem pur2C {ob : Nat → Obj} {i : Nat} {a : List Cell} (hi : ob i = .cs (celC a) 0) : pur 3 ob (.own i 0 a.length 3) = some (.sl a.length (a.flatMap encC), upd ob i (.cs (celC a) (max 0 (0 + a.length * 3)))) := by
  have hl := celC_len (l := a)
  simp only [pur, hi]
  rw [if_pos (by omega), List.drop_zero, List.take_of_length_le (by omega), show purL (pur 2) _ (celC a) = _ from purL_plain (fun ob s => by simp [pur]) _ _]
  rfl
theorem pur2S {ob : Nat → Obj} {s : Sc} : pur 3 ob (.sc s) = some (s, ob) := by simp [pur]
theorem pur_bnd1 {ob : Nat → Obj} {k i : Nat} {a : List Cell} {n : Int} (hki : i ≠ k) (h : ob k = .cs [.sc (.int .i64 n), .own i 0 a.length 3] 0) (hi : ob i = .cs (celC a) 0) : purV ob (.av (.own k 0 1 2)) = some (.av (.sc (.sl 1 [.int .i64 n, .sl a.length (a.flatMap encC)])), upd (upd ob k (.cs [.sc (.int .i64 n), .own i 0 a.length 3] (max 0 (0 + 1 * 2)))) i (.cs (celC a) (max 0 (0 + a.length * 3)))) := by
  have e : purL (pur 3) (upd ob k (.cs [.sc (.int .i64 n), .own i 0 a.length 3] (max 0 (0 + 1 * 2)))) [.sc (.int .i64 n), .own i 0 a.length 3] = some ([.int .i64 n, .sl a.length (a.flatMap encC)], upd (upd ob k (.cs [.sc (.int .i64 n), .own i 0 a.length 3] (max 0 (0 + 1 * 2)))) i (.cs (celC a) (max 0 (0 + a.length * 3)))) := by
    simp only [purL, pur2S, Option.bind_some]
    rw [pur2C ((upd_ne _ _ hki).trans hi)]
    rfl
  simp only [purV, purD]
  rw [pur]
  simp only [h, List.length_cons, List.length_nil, List.drop_zero]
  rw [if_pos (by omega)]
  rw [show List.take (1 * 2) [Av.sc (.int .i64 n), Av.own i 0 a.length 3] = [Av.sc (.int .i64 n), Av.own i 0 a.length 3] from rfl, e]
  rfl
theorem pur_bnd2 {ob : Nat → Obj} {k i i2 : Nat} {a b : List Cell} {n m : Int} (hki : i ≠ k) (hki2 : i2 ≠ k) (hii : i2 ≠ i) (h : ob k = .cs [.sc (.int .i64 n), .own i 0 a.length 3, .sc (.int .i64 m), .own i2 0 b.length 3] 0) (hi : ob i = .cs (celC a) 0) (hi2 : ob i2 = .cs (celC b) 0) : purV ob (.av (.own k 0 2 2)) = some (.av (.sc (.sl 2 [.int .i64 n, .sl a.length (a.flatMap encC), .int .i64 m, .sl b.length (b.flatMap encC)])), upd (upd (upd ob k (.cs [.sc (.int .i64 n), .own i 0 a.length 3, .sc (.int .i64 m), .own i2 0 b.length 3] (max 0 (0 + 2 * 2)))) i (.cs (celC a) (max 0 (0 + a.length * 3)))) i2 (.cs (celC b) (max 0 (0 + b.length * 3)))) := by
  have e : purL (pur 3) (upd ob k (.cs [.sc (.int .i64 n), .own i 0 a.length 3, .sc (.int .i64 m), .own i2 0 b.length 3] (max 0 (0 + 2 * 2)))) [.sc (.int .i64 n), .own i 0 a.length 3, .sc (.int .i64 m), .own i2 0 b.length 3] = some ([.int .i64 n, .sl a.length (a.flatMap encC), .int .i64 m, .sl b.length (b.flatMap encC)], upd (upd (upd ob k (.cs [.sc (.int .i64 n), .own i 0 a.length 3, .sc (.int .i64 m), .own i2 0 b.length 3] (max 0 (0 + 2 * 2)))) i (.cs (celC a) (max 0 (0 + a.length * 3)))) i2 (.cs (celC b) (max 0 (0 + b.length * 3)))) := by
    simp only [purL, pur2S, Option.bind_some]
    rw [pur2C ((upd_ne _ _ hki).trans hi)]
    simp only [Option.bind_some]
    rw [pur2C ((upd_ne _ _ hii).trans ((upd_ne _ _ hki2).trans hi2))]
    rfl
  simp only [purV, purD]
  rw [pur]
  simp only [h, List.length_cons, List.length_nil, List.drop_zero]
  rw [if_pos (by omega)]
  rw [show List.take (2 * 2) [Av.sc (.int .i64 n), Av.own i 0 a.length 3, Av.sc (.int .i64 m), Av.own i2 0 b.length 3] = [Av.sc (.int .i64 n), Av.own i 0 a.length 3, Av.sc (.int .i64 m), Av.own i2 0 b.length 3] from rfl, e]
  rfl
theorem rb6 : RightB [(0, [cV 1]), (1, [cV 0])] := by
  refine ⟨fun b hb => ?_, by simp⟩
  simp only [List.mem_cons, List.not_mem_nil, or_false] at hb
  rcases hb with rfl | rfl <;> refine ⟨by decide, by decide, by decide, by decide, fun c hc => ?_, by decide, fun h hh => by have := hh.2.2; simp [cV] at this⟩ <;> (simp only [List.mem_cons, List.not_mem_nil, or_false] at hc; subst hc; kernel_rfl)
theorem rb8 : RightB [] := ⟨fun b hb => by simp at hb, by simp⟩
theorem ldB3 {ob : Nat → Obj} {id : Nat} {a b c : Sc} {fz : Nat} (h : ob id = .cs [.sc a, .sc b, .sc c] fz) : (aLoad T ob 42 (.av (.ptr id 0))).map (fun r => (r, ob)) = some (.agg [.sc a, .sc b, .sc c], ob) := by
  rw [ldA h]
  simp only [T42, Option.bind_some, y42]
  rw [if_pos (by simp)]
  rfl
theorem slB_g (out : List (Nat × List Cell)) : GSl encB (slB out 0) ((out.map toI).map bndI) := .inr (by simp only [slB, if_pos, List.length_map, ← map_bndOf])
theorem varT (L : Loops) (s : Me) : FnL Try.prog L 18 [vC (fT [cV 7, cV 2]), vC (fT [cV 0, cV 7])] s fun r s' => r = vB true ∧ s' = s :=
  (fn18 L (fT [cV 7, cV 2]) (fT [cV 0, cV 7]) s _ _ (gslC _) (gslC _) (by decide) (by decide)).mono fun r s' h => ⟨h.1.trans (congrArg vB tl9), h.2⟩
theorem varF (L : Loops) (s : Me) : FnL Try.prog L 18 [vC (fT [cV 0, cV 0]), vC (fT [cV 0, cV 1])] s fun r s' => r = vB false ∧ s' = s :=
  (fn18 L (fT [cV 0, cV 0]) (fT [cV 0, cV 1]) s _ _ (gslC _) (gslC _) (by decide) (by decide)).mono fun r s' h => ⟨h.1.trans (congrArg vB tl10), h.2⟩
structure HD (s s1 : Me) : Prop where
  kp : Kp s s1
  b : s1.ob (s.nx + 3) = .cs [.sc (.int .i64 3), .sc (.str ⟨#[98]⟩), .sc (.int .i64 0)] 0
  c : s1.ob (s.nx + 4) = .cs [.sc (.int .i64 3), .sc (.str ⟨#[99]⟩), .sc (.int .i64 0)] 0
  hi : s.nx + 4 < s1.nx
theorem HD.frame {s s1 : Me} (h : HD s s1) {ob' : Nat → Obj} {m : Nat} (hm : s1.nx ≤ m) (ho : ∀ j, j < s1.nx → ob' j = s1.ob j) : HD s ⟨ob', m, s1.ls⟩ :=
  ⟨⟨Nat.le_trans h.kp.1 hm, fun j hj => (ho j (Nat.lt_of_lt_of_le hj h.kp.1)).trans (h.kp.2.1 j hj), h.kp.2.2⟩, (ho _ (by have := h.hi; omega)).trans h.b, (ho _ h.hi).trans h.c, Nat.lt_of_lt_of_le h.hi hm⟩

-- many steps
theorem bod11 : Try.f11.body = some (Try.f11.body.getD .skip) := rfl
set_option maxHeartbeats 4000000 in
set_option maxRecDepth 20000 in
theorem fn11 (L : Loops)  (s : Me)  : FnL Try.prog L 11 [] s fun r s' => (r = vB true) ∧ s' = s := by
  refine FnL.pure (R := fun r => r = vB true) ?_
  refine fn_of_body (ts := [0]) Try.func11 bod11 rfl (by simp) (by simp [Try.ntmps11]) fun D0 => ?_
  unfold Try.f11
  simp only [Option.getD_some, initSl]
  refine aw_region_seq C (pb := false) rfl fun K hK => ?_
  repeat' (first | refine awOps_yes (by rfl) (by rfl) (by rfl) (by simp  only [go_sem, ↓reduceIte, Nat.reduceEqDiff, reduceCtorEq, Nat.reduceAdd, Nat.reduceMul, Nat.reduceLeDiff, aLoad, aStore]; exact rfl) ?_ | refine awOps_no (by rfl) (by rfl) ?_ | refine awOps_yes0 (by rfl) (by rfl) (by rfl) (by simp  only [go_sem, ↓reduceIte, Nat.reduceEqDiff, reduceCtorEq, Nat.reduceAdd, Nat.reduceMul, Nat.reduceLeDiff, aLoad, aStore]; exact rfl) ?_ | fail)
  refine awOps_nil (hK _ _ ?_)
  clear hK K
  refine aw_region_seq C (pb := false) rfl fun K hK => ?_
  repeat' (first | refine awOps_yes (by rfl) (by rfl) (by rfl) (by simp (disch := omega) only [go_sem, ↓reduceIte, Nat.reduceEqDiff, reduceCtorEq, Nat.reduceAdd, Nat.reduceMul, Nat.reduceLeDiff, aLoad, aStore, upd_ne, upd_same, storeL, zeroA]; exact rfl) ?_ | refine awOps_no (by rfl) (by rfl) ?_ | refine awOps_yes0 (by rfl) (by rfl) (by rfl) (by simp (disch := omega) only [go_sem, ↓reduceIte, Nat.reduceEqDiff, reduceCtorEq, Nat.reduceAdd, Nat.reduceMul, Nat.reduceLeDiff, aLoad, aStore, upd_ne, upd_same, storeL, zeroA]; exact rfl) ?_ | fail)
  refine awOps_nil (hK _ _ ?_)
  refine AW.less (sl' := [(1, .av (.ptr (s.nx + 3) 0)), (2, .av (.ptr (s.nx + 4) 0))]) (AllIn.less ⟨rfl, rfl, trivial⟩) ?_
  refine aw_state (J := fun s2 => HD s s2) ⟨⟨(by first | omega | (dsimp only; omega) | (dsimp only at *; omega)), fun j hj => (upd_ne _ _ (by omega)).trans ((upd_ne _ _ (by omega)).trans ((upd_ne _ _ (by omega)).trans (upd_ne _ _ (by omega)))), rfl⟩, (upd_ne _ _ (by omega)).trans (upd_same _ _ _), upd_same _ _ _, (by first | omega | (dsimp only; omega) | (dsimp only at *; omega))⟩ fun s2 h2 => ?_
  clear hK K
  obtain ⟨o2, ho2⟩ : ∃ o, o = upd (upd s2.ob (s2.nx + 2) (.cs (celC [cV 0, cB]) 0)) (s2.nx + 6) (.cs (celC [cC, cV 1]) 0) := ⟨_, rfl⟩
  have ha2 : o2 (s2.nx + 2) = .cs (celC [cV 0, cB]) 0 := by rw [ho2, upd_ne _ _ (by omega), upd_same]
  have hd2 : o2 (s2.nx + 6) = .cs (celC [cC, cV 1]) 0 := by rw [ho2, upd_same]
  have hf2 : ∀ j, j < s2.nx → o2 j = s2.ob j := fun j hj => by rw [ho2, upd_ne _ _ (by omega), upd_ne _ _ (by omega)]
  have hbo2 := (hf2 _ (by have := h2.hi; omega)).trans h2.b
  have hco2 := (hf2 _ h2.hi).trans h2.c
  refine aw_dra_seq C (pb := false) 14 [] [o2] rfl (by kernel_rfl) (by kernel_rfl) rfl (fun j hj => hf2 j hj) fun K hK => ?_
  refine dra_callsil [0] (by rfl) (by rfl) (by rfl) (by rfl) (by kernel_rfl) ⟨And.intro Try.call25 (fn25 L 0 _), trivial⟩ ?_
  (first | refine dra_yes [0] (by rfl) (by rfl) (by rfl) (by rfl) (by kernel_rfl) ⟨⟨_, by simp  only [go_sem, ↓reduceIte, Nat.reduceEqDiff, reduceCtorEq, Nat.reduceAdd, Nat.reduceMul, Nat.reduceLeDiff, aLoad, aStore, osL_0, osL_1, osL_2, osL_3, osL_4, osL_5, osL_6, hbo2, hco2]; (try exact rfl), fun _ => rfl⟩, trivial⟩ ?_ | refine dra_no (by rfl) (by rfl) (by rfl) ?_)
  refine dra_yes [0] (by rfl) (by rfl) (by rfl) (by rfl) (by kernel_rfl) ⟨⟨_, (by simp only [go_sem, ↓reduceIte, Nat.reduceEqDiff, reduceCtorEq, Nat.reduceAdd, Nat.reduceMul, Nat.reduceLeDiff, aLoad, aStore, osL_0, osL_1, osL_2, osL_3, osL_4, osL_5, osL_6, hbo2, hco2]; try exact rfl), fun j => upd_self ha2 j⟩, trivial⟩ ?_
  refine dra_callsil [0] (by rfl) (by rfl) (by rfl) (by rfl) (by kernel_rfl) ⟨And.intro Try.call31 (fnF L [cV 0, cB] _ 0 _ ha2 (by first | omega | (dsimp only; omega) | (dsimp only at *; omega)) (by decide)), trivial⟩ ?_
  (first | refine dra_yes [0] (by rfl) (by rfl) (by rfl) (by rfl) (by kernel_rfl) ⟨⟨_, by simp  only [go_sem, ↓reduceIte, Nat.reduceEqDiff, reduceCtorEq, Nat.reduceAdd, Nat.reduceMul, Nat.reduceLeDiff, aLoad, aStore, osL_0, osL_1, osL_2, osL_3, osL_4, osL_5, osL_6, hbo2, hco2]; (try exact rfl), fun _ => rfl⟩, trivial⟩ ?_ | refine dra_no (by rfl) (by rfl) (by rfl) ?_)
  refine dra_callsil [0] (by rfl) (by rfl) (by rfl) (by rfl) (by kernel_rfl) ⟨And.intro Try.call25 (fn25 L 1 _), trivial⟩ ?_
  refine dra_yes [0] (by rfl) (by rfl) (by rfl) (by rfl) (by kernel_rfl) ⟨⟨_, (by simp only [go_sem, ↓reduceIte, Nat.reduceEqDiff, reduceCtorEq, Nat.reduceAdd, Nat.reduceMul, Nat.reduceLeDiff, aLoad, aStore, osL_0, osL_1, osL_2, osL_3, osL_4, osL_5, osL_6, hbo2, hco2]; try exact rfl), fun j => upd_self hd2 j⟩, trivial⟩ ?_
  refine dra_callsil [0] (by rfl) (by rfl) (by rfl) (by rfl) (by kernel_rfl) ⟨And.intro Try.call31 (fnF L [cC, cV 1] _ 0 _ hd2 (by first | omega | (dsimp only; omega) | (dsimp only at *; omega)) (by decide)), trivial⟩ ?_
  refine dra_callsil [0] (by rfl) (by rfl) (by rfl) (by rfl) (by kernel_rfl) ⟨And.intro Try.call13 (mguD L (a := fT [cV 0, cB]) (b := fT [cC, cV 1]) _ tl1 (by kernel_rfl) (by kernel_rfl) (by decide)), trivial⟩ ?_
  iterate 5 (first | refine dra_yes [0] (by rfl) (by rfl) (by rfl) (by rfl) (by kernel_rfl) ⟨⟨_, by simp  only [go_sem, ↓reduceIte, Nat.reduceEqDiff, reduceCtorEq, Nat.reduceAdd, Nat.reduceMul, Nat.reduceLeDiff, aLoad, aStore, osL_0, osL_1, osL_2, osL_3, osL_4, osL_5, osL_6, hbo2, hco2]; (try exact rfl), fun _ => rfl⟩, trivial⟩ ?_ | refine dra_no (by rfl) (by rfl) (by rfl) ?_)
  refine dra_nil (hK _ ?_)
  simp only [osL_0, osL_1, osL_2, osL_3, osL_4, osL_5, osL_6, List.length_cons, List.length_nil, Nat.reduceAdd]
  refine AW.less (sl' := [(1, .av (.ptr (s.nx + 3) 0)), (2, .av (.ptr (s.nx + 4) 0)), (3, .av (.sc (slB [(0, [cC]), (1, [cB])] 0))), (4, vI 0)]) (AllIn.less ⟨rfl, rfl, rfl, rfl, trivial⟩) ?_
  refine aw_state (J := fun s' => HD s s') (h2.frame (by first | omega | (dsimp only; omega) | (dsimp only at *; omega)) fun j hj => hf2 j hj) fun s3 h3 => ?_
  clear hK K
  refine aw_region_seq C (pb := false) rfl fun K hK => ?_
  (refine awOps_call (by rfl) (by rfl) (by rfl) (And.intro Try.call25 (fn25 L 1 _)) ?_; rintro _ _ ⟨rfl, rfl⟩)
  (refine awOps_call (by rfl) (by rfl) (by rfl) (And.intro Try.call25 (fn25 L 0 _)) ?_; rintro _ _ ⟨rfl, rfl⟩)
  repeat' (first | refine awOps_yes (by rfl) (by rfl) (by rfl) (by simp  only [go_sem, ↓reduceIte, Nat.reduceEqDiff, reduceCtorEq, Nat.reduceAdd, Nat.reduceMul, Nat.reduceLeDiff, aLoad, aStore, h3.b, h3.c]; exact rfl) ?_ | refine awOps_no (by rfl) (by rfl) ?_ | refine awOps_yes0 (by rfl) (by rfl) (by rfl) (by simp  only [go_sem, ↓reduceIte, Nat.reduceEqDiff, reduceCtorEq, Nat.reduceAdd, Nat.reduceMul, Nat.reduceLeDiff, aLoad, aStore, h3.b, h3.c]; exact rfl) ?_ | fail)
  (refine awOps_call (by rfl) (by rfl) (by rfl) (And.intro Try.call31 (fnF L [cV 1, cV 0] _ 0 _ (upd_same _ _ _) (by first | omega | (dsimp only; omega) | (dsimp only at *; omega)) (by decide))) ?_; rintro _ _ ⟨rfl, rfl⟩)
  (refine awOps_call (by rfl) (by rfl) (by rfl) (And.intro Try.call25 (fn25 L 0 _)) ?_; rintro _ _ ⟨rfl, rfl⟩)
  (refine awOps_call (by rfl) (by rfl) (by rfl) (And.intro Try.call25 (fn25 L 1 _)) ?_; rintro _ _ ⟨rfl, rfl⟩)
  repeat' (first | refine awOps_yes (by rfl) (by rfl) (by rfl) (by simp  only [go_sem, ↓reduceIte, Nat.reduceEqDiff, reduceCtorEq, Nat.reduceAdd, Nat.reduceMul, Nat.reduceLeDiff, aLoad, aStore, h3.b, h3.c]; exact rfl) ?_ | refine awOps_no (by rfl) (by rfl) ?_ | refine awOps_yes0 (by rfl) (by rfl) (by rfl) (by simp  only [go_sem, ↓reduceIte, Nat.reduceEqDiff, reduceCtorEq, Nat.reduceAdd, Nat.reduceMul, Nat.reduceLeDiff, aLoad, aStore, h3.b, h3.c]; exact rfl) ?_ | fail)
  (refine awOps_call (by rfl) (by rfl) (by rfl) (And.intro Try.call31 (fnF L [cV 0, cV 1] _ 0 _ (upd_same _ _ _) (by first | omega | (dsimp only; omega) | (dsimp only at *; omega)) (by decide))) ?_; rintro _ _ ⟨rfl, rfl⟩)
  (refine awOps_call (by rfl) (by rfl) (by rfl) (And.intro Try.call13 (mguD L (a := fT [cV 1, cV 0]) (b := fT [cV 0, cV 1]) _ tl2 (by kernel_rfl) (by kernel_rfl) (by decide))) ?_; rintro _ _ ⟨rfl, rfl⟩)
  repeat' (first | refine awOps_yes (by rfl) (by rfl) (by rfl) (by simp  only [go_sem, ↓reduceIte, Nat.reduceEqDiff, reduceCtorEq, Nat.reduceAdd, Nat.reduceMul, Nat.reduceLeDiff, aLoad, aStore, h3.b, h3.c]; exact rfl) ?_ | refine awOps_no (by rfl) (by rfl) ?_ | refine awOps_yes0 (by rfl) (by rfl) (by rfl) (by simp  only [go_sem, ↓reduceIte, Nat.reduceEqDiff, reduceCtorEq, Nat.reduceAdd, Nat.reduceMul, Nat.reduceLeDiff, aLoad, aStore, h3.b, h3.c]; exact rfl) ?_ | fail)
  refine awOps_nil (hK _ _ ?_)
  refine AW.less (sl' := [(1, .av (.ptr (s.nx + 3) 0)), (2, .av (.ptr (s.nx + 4) 0)), (3, .av (.sc (slB [(0, [cC]), (1, [cB])] 0))), (4, vI 0), (5, .av (.sc (slB [(1, [cV 0])] 0))), (6, vI 0)]) (AllIn.less ⟨rfl, rfl, rfl, rfl, rfl, rfl, trivial⟩) ?_
  refine aw_state (J := fun s' => HD s s') (h3.frame (by first | omega | (dsimp only; omega) | (dsimp only at *; omega)) fun j hj => ((upd_ne _ _ (by omega)).trans (upd_ne _ _ (by omega)))) fun s4 h4 => ?_
  clear hK K
  refine aw_region_seq C (pb := false) rfl fun K hK => ?_
  (refine awOps_call (by rfl) (by rfl) (by rfl) (And.intro Try.call25 (fn25 L 0 _)) ?_; rintro _ _ ⟨rfl, rfl⟩)
  repeat' (first | refine awOps_yes (by rfl) (by rfl) (by rfl) (by simp  only [go_sem, ↓reduceIte, Nat.reduceEqDiff, reduceCtorEq, Nat.reduceAdd, Nat.reduceMul, Nat.reduceLeDiff, aLoad, aStore, h4.b, h4.c]; exact rfl) ?_ | refine awOps_no (by rfl) (by rfl) ?_ | refine awOps_yes0 (by rfl) (by rfl) (by rfl) (by simp  only [go_sem, ↓reduceIte, Nat.reduceEqDiff, reduceCtorEq, Nat.reduceAdd, Nat.reduceMul, Nat.reduceLeDiff, aLoad, aStore, h4.b, h4.c]; exact rfl) ?_ | fail)
  (refine awOps_call (by rfl) (by rfl) (by rfl) (And.intro Try.call25 (fn25 L 0 _)) ?_; rintro _ _ ⟨rfl, rfl⟩)
  repeat' (first | refine awOps_yes (by rfl) (by rfl) (by rfl) (by simp  only [go_sem, ↓reduceIte, Nat.reduceEqDiff, reduceCtorEq, Nat.reduceAdd, Nat.reduceMul, Nat.reduceLeDiff, aLoad, aStore, h4.b, h4.c]; exact rfl) ?_ | refine awOps_no (by rfl) (by rfl) ?_ | refine awOps_yes0 (by rfl) (by rfl) (by rfl) (by simp  only [go_sem, ↓reduceIte, Nat.reduceEqDiff, reduceCtorEq, Nat.reduceAdd, Nat.reduceMul, Nat.reduceLeDiff, aLoad, aStore, h4.b, h4.c]; exact rfl) ?_ | fail)
  (refine awOps_call (by rfl) (by rfl) (by rfl) (And.intro Try.call31 (fnF L [cV 0] _ 0 _ (upd_same _ _ _) (by first | omega | (dsimp only; omega) | (dsimp only at *; omega)) (by decide))) ?_; rintro _ _ ⟨rfl, rfl⟩)
  refine awOps_call (by rfl) (by rfl) (by rfl) (And.intro Try.call13 (FnL.pur (PurArgs.pur (celC_pure (l := [cV 0]) ((upd_ne _ _ (by omega)).trans (upd_same _ _ _))) (PurArgs.keep PurArgs.nil)) (mguD L _ tl3 (by kernel_rfl) (by kernel_rfl) (by decide)))) ?_
  rintro _ _ ⟨rfl, rfl⟩
  repeat' (first | refine awOps_yes (by rfl) (by rfl) (by rfl) (by simp  only [go_sem, ↓reduceIte, Nat.reduceEqDiff, reduceCtorEq, Nat.reduceAdd, Nat.reduceMul, Nat.reduceLeDiff, aLoad, aStore, h4.b, h4.c]; exact rfl) ?_ | refine awOps_no (by rfl) (by rfl) ?_ | refine awOps_yes0 (by rfl) (by rfl) (by rfl) (by simp  only [go_sem, ↓reduceIte, Nat.reduceEqDiff, reduceCtorEq, Nat.reduceAdd, Nat.reduceMul, Nat.reduceLeDiff, aLoad, aStore, h4.b, h4.c]; exact rfl) ?_ | fail)
  refine awOps_nil (hK _ _ ?_)
  refine AW.less (sl' := [(1, .av (.ptr (s.nx + 3) 0)), (2, .av (.ptr (s.nx + 4) 0)), (3, .av (.sc (slB [(0, [cC]), (1, [cB])] 0))), (4, vI 0), (5, .av (.sc (slB [(1, [cV 0])] 0))), (6, vI 0), (8, vI 3)]) (AllIn.less ⟨rfl, rfl, rfl, rfl, rfl, rfl, rfl, trivial⟩) ?_
  refine aw_state (J := fun s' => HD s s') (h4.frame (by first | omega | (dsimp only; omega) | (dsimp only at *; omega)) fun j hj => ((upd_ne _ _ (by omega)).trans ((upd_ne _ _ (by omega)).trans (upd_ne _ _ (by omega))))) fun s5 h5 => ?_
  clear hK K
  obtain ⟨o5, ho5⟩ : ∃ o, o = upd (upd s5.ob (s5.nx + 1) (.cs (celC [cB]) 0)) (s5.nx + 4) (.cs (celC [cC]) 0) := ⟨_, rfl⟩
  have ha5 : o5 (s5.nx + 1) = .cs (celC [cB]) 0 := by rw [ho5, upd_ne _ _ (by omega), upd_same]
  have hd5 : o5 (s5.nx + 4) = .cs (celC [cC]) 0 := by rw [ho5, upd_same]
  have hf5 : ∀ j, j < s5.nx → o5 j = s5.ob j := fun j hj => by rw [ho5, upd_ne _ _ (by omega), upd_ne _ _ (by omega)]
  have hbo5 := (hf5 _ (by have := h5.hi; omega)).trans h5.b
  have hco5 := (hf5 _ h5.hi).trans h5.c
  refine aw_dra_seq C (pb := false) 12 [] [o5] rfl (by kernel_rfl) (by kernel_rfl) rfl (fun j hj => hf5 j hj) fun K hK => ?_
  (first | refine dra_yes [0] (by rfl) (by rfl) (by rfl) (by rfl) (by kernel_rfl) ⟨⟨_, by simp  only [go_sem, ↓reduceIte, Nat.reduceEqDiff, reduceCtorEq, Nat.reduceAdd, Nat.reduceMul, Nat.reduceLeDiff, aLoad, aStore, osL_0, osL_1, osL_2, osL_3, osL_4, osL_5, osL_6, hbo5, hco5]; (try exact rfl), fun _ => rfl⟩, trivial⟩ ?_ | refine dra_no (by rfl) (by rfl) (by rfl) ?_)
  refine dra_yes [0] (by rfl) (by rfl) (by rfl) (by rfl) (by kernel_rfl) ⟨⟨_, (by simp only [go_sem, ↓reduceIte, Nat.reduceEqDiff, reduceCtorEq, Nat.reduceAdd, Nat.reduceMul, Nat.reduceLeDiff, aLoad, aStore, osL_0, osL_1, osL_2, osL_3, osL_4, osL_5, osL_6, hbo5, hco5]; try exact rfl), fun j => upd_self ha5 j⟩, trivial⟩ ?_
  refine dra_callsil [0] (by rfl) (by rfl) (by rfl) (by rfl) (by kernel_rfl) ⟨And.intro Try.call31 (fnF L [cB] _ 0 _ ha5 (by first | omega | (dsimp only; omega) | (dsimp only at *; omega)) (by decide)), trivial⟩ ?_
  (first | refine dra_yes [0] (by rfl) (by rfl) (by rfl) (by rfl) (by kernel_rfl) ⟨⟨_, by simp  only [go_sem, ↓reduceIte, Nat.reduceEqDiff, reduceCtorEq, Nat.reduceAdd, Nat.reduceMul, Nat.reduceLeDiff, aLoad, aStore, osL_0, osL_1, osL_2, osL_3, osL_4, osL_5, osL_6, hbo5, hco5]; (try exact rfl), fun _ => rfl⟩, trivial⟩ ?_ | refine dra_no (by rfl) (by rfl) (by rfl) ?_)
  refine dra_yes [0] (by rfl) (by rfl) (by rfl) (by rfl) (by kernel_rfl) ⟨⟨_, (by simp only [go_sem, ↓reduceIte, Nat.reduceEqDiff, reduceCtorEq, Nat.reduceAdd, Nat.reduceMul, Nat.reduceLeDiff, aLoad, aStore, osL_0, osL_1, osL_2, osL_3, osL_4, osL_5, osL_6, hbo5, hco5]; try exact rfl), fun j => upd_self hd5 j⟩, trivial⟩ ?_
  refine dra_callsil [0] (by rfl) (by rfl) (by rfl) (by rfl) (by kernel_rfl) ⟨And.intro Try.call31 (fnF L [cC] _ 0 _ hd5 (by first | omega | (dsimp only; omega) | (dsimp only at *; omega)) (by decide)), trivial⟩ ?_
  refine dra_callsil [0] (by rfl) (by rfl) (by rfl) (by rfl) (by kernel_rfl) ⟨And.intro Try.call13 (mguD L (a := fT [cB]) (b := fT [cC]) _ tl4 (by kernel_rfl) (by kernel_rfl) (by decide)), trivial⟩ ?_
  iterate 5 (first | refine dra_yes [0] (by rfl) (by rfl) (by rfl) (by rfl) (by kernel_rfl) ⟨⟨_, by simp  only [go_sem, ↓reduceIte, Nat.reduceEqDiff, reduceCtorEq, Nat.reduceAdd, Nat.reduceMul, Nat.reduceLeDiff, aLoad, aStore, osL_0, osL_1, osL_2, osL_3, osL_4, osL_5, osL_6, hbo5, hco5]; (try exact rfl), fun _ => rfl⟩, trivial⟩ ?_ | refine dra_no (by rfl) (by rfl) (by rfl) ?_)
  refine dra_nil (hK _ ?_)
  simp only [osL_0, osL_1, osL_2, osL_3, osL_4, osL_5, osL_6, List.length_cons, List.length_nil, Nat.reduceAdd]
  refine AW.less (sl' := [(1, .av (.ptr (s.nx + 3) 0)), (2, .av (.ptr (s.nx + 4) 0)), (3, .av (.sc (slB [(0, [cC]), (1, [cB])] 0))), (4, vI 0), (5, .av (.sc (slB [(1, [cV 0])] 0))), (6, vI 0), (8, vI 3), (10, vI 3)]) (AllIn.less ⟨rfl, rfl, rfl, rfl, rfl, rfl, rfl, rfl, trivial⟩) ?_
  refine aw_state (J := fun s' => HD s s') (h5.frame (by first | omega | (dsimp only; omega) | (dsimp only at *; omega)) fun j hj => hf5 j hj) fun s6 h6 => ?_
  clear hK K
  refine aw_region_seq C (pb := false) rfl fun K hK => ?_
  repeat' (first | refine awOps_yes (by rfl) (by rfl) (by rfl) (by simp  only [go_sem, ↓reduceIte, Nat.reduceEqDiff, reduceCtorEq, Nat.reduceAdd, Nat.reduceMul, Nat.reduceLeDiff, aLoad, aStore, h6.b, h6.c]; exact rfl) ?_ | refine awOps_no (by rfl) (by rfl) ?_ | refine awOps_yes0 (by rfl) (by rfl) (by rfl) (by simp  only [go_sem, ↓reduceIte, Nat.reduceEqDiff, reduceCtorEq, Nat.reduceAdd, Nat.reduceMul, Nat.reduceLeDiff, aLoad, aStore, h6.b, h6.c]; exact rfl) ?_ | fail)
  (refine awOps_call (by rfl) (by rfl) (by rfl) (And.intro Try.call31 (fnF L [cN 1] _ 0 _ (upd_same _ _ _) (by first | omega | (dsimp only; omega) | (dsimp only at *; omega)) (by decide))) ?_; rintro _ _ ⟨rfl, rfl⟩)
  repeat' (first | refine awOps_yes (by rfl) (by rfl) (by rfl) (by simp  only [go_sem, ↓reduceIte, Nat.reduceEqDiff, reduceCtorEq, Nat.reduceAdd, Nat.reduceMul, Nat.reduceLeDiff, aLoad, aStore, h6.b, h6.c]; exact rfl) ?_ | refine awOps_no (by rfl) (by rfl) ?_ | refine awOps_yes0 (by rfl) (by rfl) (by rfl) (by simp  only [go_sem, ↓reduceIte, Nat.reduceEqDiff, reduceCtorEq, Nat.reduceAdd, Nat.reduceMul, Nat.reduceLeDiff, aLoad, aStore, h6.b, h6.c]; exact rfl) ?_ | fail)
  (refine awOps_call (by rfl) (by rfl) (by rfl) (And.intro Try.call31 (fnF L [cN 2] _ 0 _ (upd_same _ _ _) (by first | omega | (dsimp only; omega) | (dsimp only at *; omega)) (by decide))) ?_; rintro _ _ ⟨rfl, rfl⟩)
  (refine awOps_call (by rfl) (by rfl) (by rfl) (And.intro Try.call13 (mguD L (a := fT [cN 1]) (b := fT [cN 2]) _ tl5 (by kernel_rfl) (by kernel_rfl) (by decide))) ?_; rintro _ _ ⟨rfl, rfl⟩)
  repeat' (first | refine awOps_yes (by rfl) (by rfl) (by rfl) (by simp  only [go_sem, ↓reduceIte, Nat.reduceEqDiff, reduceCtorEq, Nat.reduceAdd, Nat.reduceMul, Nat.reduceLeDiff, aLoad, aStore, h6.b, h6.c]; exact rfl) ?_ | refine awOps_no (by rfl) (by rfl) ?_ | refine awOps_yes0 (by rfl) (by rfl) (by rfl) (by simp  only [go_sem, ↓reduceIte, Nat.reduceEqDiff, reduceCtorEq, Nat.reduceAdd, Nat.reduceMul, Nat.reduceLeDiff, aLoad, aStore, h6.b, h6.c]; exact rfl) ?_ | fail)
  refine awOps_nil (hK _ _ ?_)
  refine AW.less (sl' := [(1, .av (.ptr (s.nx + 3) 0)), (2, .av (.ptr (s.nx + 4) 0)), (3, .av (.sc (slB [(0, [cC]), (1, [cB])] 0))), (4, vI 0), (5, .av (.sc (slB [(1, [cV 0])] 0))), (6, vI 0), (8, vI 3), (10, vI 3), (12, vI 3)]) (AllIn.less ⟨rfl, rfl, rfl, rfl, rfl, rfl, rfl, rfl, rfl, trivial⟩) ?_
  refine aw_state (J := fun s' => HD s s') (h6.frame (by first | omega | (dsimp only; omega) | (dsimp only at *; omega)) fun j hj => ((upd_ne _ _ (by omega)).trans (upd_ne _ _ (by omega)))) fun s7 h7 => ?_
  clear hK K
  refine aw_region_seq C (pb := false) rfl fun K hK => ?_
  (refine awOps_call (by rfl) (by rfl) (by rfl) (And.intro Try.call25 (fn25 L 0 _)) ?_; rintro _ _ ⟨rfl, rfl⟩)
  (refine awOps_call (by rfl) (by rfl) (by rfl) (And.intro Try.call25 (fn25 L 1 _)) ?_; rintro _ _ ⟨rfl, rfl⟩)
  repeat' (first | refine awOps_yes (by rfl) (by rfl) (by rfl) (by simp  only [go_sem, ↓reduceIte, Nat.reduceEqDiff, reduceCtorEq, Nat.reduceAdd, Nat.reduceMul, Nat.reduceLeDiff, aLoad, aStore, h7.b, h7.c]; exact rfl) ?_ | refine awOps_no (by rfl) (by rfl) ?_ | refine awOps_yes0 (by rfl) (by rfl) (by rfl) (by simp  only [go_sem, ↓reduceIte, Nat.reduceEqDiff, reduceCtorEq, Nat.reduceAdd, Nat.reduceMul, Nat.reduceLeDiff, aLoad, aStore, h7.b, h7.c]; exact rfl) ?_ | fail)
  (refine awOps_call (by rfl) (by rfl) (by rfl) (And.intro Try.call31 (fnF L [cV 0, cV 1] _ 0 _ (upd_same _ _ _) (by first | omega | (dsimp only; omega) | (dsimp only at *; omega)) (by decide))) ?_; rintro _ _ ⟨rfl, rfl⟩)
  (refine awOps_call (by rfl) (by rfl) (by rfl) (And.intro Try.call25 (fn25 L 1 _)) ?_; rintro _ _ ⟨rfl, rfl⟩)
  (refine awOps_call (by rfl) (by rfl) (by rfl) (And.intro Try.call25 (fn25 L 0 _)) ?_; rintro _ _ ⟨rfl, rfl⟩)
  repeat' (first | refine awOps_yes (by rfl) (by rfl) (by rfl) (by simp  only [go_sem, ↓reduceIte, Nat.reduceEqDiff, reduceCtorEq, Nat.reduceAdd, Nat.reduceMul, Nat.reduceLeDiff, aLoad, aStore, h7.b, h7.c]; exact rfl) ?_ | refine awOps_no (by rfl) (by rfl) ?_ | refine awOps_yes0 (by rfl) (by rfl) (by rfl) (by simp  only [go_sem, ↓reduceIte, Nat.reduceEqDiff, reduceCtorEq, Nat.reduceAdd, Nat.reduceMul, Nat.reduceLeDiff, aLoad, aStore, h7.b, h7.c]; exact rfl) ?_ | fail)
  (refine awOps_call (by rfl) (by rfl) (by rfl) (And.intro Try.call31 (fnF L [cV 1, cV 0] _ 0 _ (upd_same _ _ _) (by first | omega | (dsimp only; omega) | (dsimp only at *; omega)) (by decide))) ?_; rintro _ _ ⟨rfl, rfl⟩)
  refine awOps_call (by rfl) (by rfl) (by rfl) (And.intro Try.call15 (matD L (a := fT [cV 0, cV 1]) (b := fT [cV 1, cV 0]) _ tl6 (by kernel_rfl) (by kernel_rfl) rb6)) ?_
  rintro _ _ ⟨⟨y7, rfl, hy7⟩, rfl⟩
  repeat' (first | refine awOps_yes (by rfl) (by rfl) (by rfl) (by simp  only [go_sem, ↓reduceIte, Nat.reduceEqDiff, reduceCtorEq, Nat.reduceAdd, Nat.reduceMul, Nat.reduceLeDiff, aLoad, aStore, h7.b, h7.c]; exact rfl) ?_ | refine awOps_no (by rfl) (by rfl) ?_ | refine awOps_yes0 (by rfl) (by rfl) (by rfl) (by simp  only [go_sem, ↓reduceIte, Nat.reduceEqDiff, reduceCtorEq, Nat.reduceAdd, Nat.reduceMul, Nat.reduceLeDiff, aLoad, aStore, h7.b, h7.c]; exact rfl) ?_ | fail)
  refine awOps_nil (hK _ _ ?_)
  refine AW.less (sl' := [(1, .av (.ptr (s.nx + 3) 0)), (2, .av (.ptr (s.nx + 4) 0)), (3, .av (.sc (slB [(0, [cC]), (1, [cB])] 0))), (4, vI 0), (5, .av (.sc (slB [(1, [cV 0])] 0))), (6, vI 0), (8, vI 3), (10, vI 3), (12, vI 3), (13, .av (.sc y7)), (14, vB true)]) (AllIn.less ⟨rfl, rfl, rfl, rfl, rfl, rfl, rfl, rfl, rfl, rfl, rfl, trivial⟩) ?_
  refine aw_state (J := fun s' => HD s s') (h7.frame (by first | omega | (dsimp only; omega) | (dsimp only at *; omega)) fun j hj => ((upd_ne _ _ (by omega)).trans (upd_ne _ _ (by omega)))) fun s8 h8 => ?_
  clear hK K
  refine aw_region_seq C (pb := false) rfl fun K hK => ?_
  repeat' (first | refine awOps_yes (by rfl) (by rfl) (by rfl) (by simp  only [go_sem, ↓reduceIte, Nat.reduceEqDiff, reduceCtorEq, Nat.reduceAdd, Nat.reduceMul, Nat.reduceLeDiff, aLoad, aStore, h8.b, h8.c]; exact rfl) ?_ | refine awOps_no (by rfl) (by rfl) ?_ | refine awOps_yes0 (by rfl) (by rfl) (by rfl) (by simp  only [go_sem, ↓reduceIte, Nat.reduceEqDiff, reduceCtorEq, Nat.reduceAdd, Nat.reduceMul, Nat.reduceLeDiff, aLoad, aStore, h8.b, h8.c]; exact rfl) ?_ | fail)
  (refine awOps_call (by rfl) (by rfl) (by rfl) (And.intro Try.call31 (fnF L [cB] _ 0 _ (upd_same _ _ _) (by first | omega | (dsimp only; omega) | (dsimp only at *; omega)) (by decide))) ?_; rintro _ _ ⟨rfl, rfl⟩)
  (refine awOps_call (by rfl) (by rfl) (by rfl) (And.intro Try.call25 (fn25 L 0 _)) ?_; rintro _ _ ⟨rfl, rfl⟩)
  repeat' (first | refine awOps_yes (by rfl) (by rfl) (by rfl) (by simp  only [go_sem, ↓reduceIte, Nat.reduceEqDiff, reduceCtorEq, Nat.reduceAdd, Nat.reduceMul, Nat.reduceLeDiff, aLoad, aStore, h8.b, h8.c]; exact rfl) ?_ | refine awOps_no (by rfl) (by rfl) ?_ | refine awOps_yes0 (by rfl) (by rfl) (by rfl) (by simp  only [go_sem, ↓reduceIte, Nat.reduceEqDiff, reduceCtorEq, Nat.reduceAdd, Nat.reduceMul, Nat.reduceLeDiff, aLoad, aStore, h8.b, h8.c]; exact rfl) ?_ | fail)
  (refine awOps_call (by rfl) (by rfl) (by rfl) (And.intro Try.call31 (fnF L [cV 0] _ 0 _ (upd_same _ _ _) (by first | omega | (dsimp only; omega) | (dsimp only at *; omega)) (by decide))) ?_; rintro _ _ ⟨rfl, rfl⟩)
  refine awOps_call (by rfl) (by rfl) (by rfl) (And.intro Try.call15 (matN L (a := fT [cB]) (b := fT [cV 0]) _ tl7 (by kernel_rfl) (by kernel_rfl))) ?_
  rintro _ _ ⟨⟨y8, rfl, hy8⟩, rfl⟩
  repeat' (first | refine awOps_yes (by rfl) (by rfl) (by rfl) (by simp  only [go_sem, ↓reduceIte, Nat.reduceEqDiff, reduceCtorEq, Nat.reduceAdd, Nat.reduceMul, Nat.reduceLeDiff, aLoad, aStore, h8.b, h8.c]; exact rfl) ?_ | refine awOps_no (by rfl) (by rfl) ?_ | refine awOps_yes0 (by rfl) (by rfl) (by rfl) (by simp  only [go_sem, ↓reduceIte, Nat.reduceEqDiff, reduceCtorEq, Nat.reduceAdd, Nat.reduceMul, Nat.reduceLeDiff, aLoad, aStore, h8.b, h8.c]; exact rfl) ?_ | fail)
  refine awOps_nil (hK _ _ ?_)
  refine AW.less (sl' := [(1, .av (.ptr (s.nx + 3) 0)), (2, .av (.ptr (s.nx + 4) 0)), (3, .av (.sc (slB [(0, [cC]), (1, [cB])] 0))), (4, vI 0), (5, .av (.sc (slB [(1, [cV 0])] 0))), (6, vI 0), (8, vI 3), (10, vI 3), (12, vI 3), (13, .av (.sc y7)), (14, vB true), (16, vB false)]) (AllIn.less ⟨rfl, rfl, rfl, rfl, rfl, rfl, rfl, rfl, rfl, rfl, rfl, rfl, trivial⟩) ?_
  refine aw_state (J := fun s' => HD s s') (h8.frame (by first | omega | (dsimp only; omega) | (dsimp only at *; omega)) fun j hj => ((upd_ne _ _ (by omega)).trans (upd_ne _ _ (by omega)))) fun s9 h9 => ?_
  clear hK K
  refine aw_region_seq C (pb := false) rfl fun K hK => ?_
  (refine awOps_call (by rfl) (by rfl) (by rfl) (And.intro Try.call25 (fn25 L 0 _)) ?_; rintro _ _ ⟨rfl, rfl⟩)
  (refine awOps_call (by rfl) (by rfl) (by rfl) (And.intro Try.call25 (fn25 L 0 _)) ?_; rintro _ _ ⟨rfl, rfl⟩)
  repeat' (first | refine awOps_yes (by rfl) (by rfl) (by rfl) (by simp  only [go_sem, ↓reduceIte, Nat.reduceEqDiff, reduceCtorEq, Nat.reduceAdd, Nat.reduceMul, Nat.reduceLeDiff, aLoad, aStore, h9.b, h9.c]; exact rfl) ?_ | refine awOps_no (by rfl) (by rfl) ?_ | refine awOps_yes0 (by rfl) (by rfl) (by rfl) (by simp  only [go_sem, ↓reduceIte, Nat.reduceEqDiff, reduceCtorEq, Nat.reduceAdd, Nat.reduceMul, Nat.reduceLeDiff, aLoad, aStore, h9.b, h9.c]; exact rfl) ?_ | fail)
  (refine awOps_call (by rfl) (by rfl) (by rfl) (And.intro Try.call31 (fnF L [cV 0, cV 0] _ 0 _ (upd_same _ _ _) (by first | omega | (dsimp only; omega) | (dsimp only at *; omega)) (by decide))) ?_; rintro _ _ ⟨rfl, rfl⟩)
  (refine awOps_call (by rfl) (by rfl) (by rfl) (And.intro Try.call25 (fn25 L 0 _)) ?_; rintro _ _ ⟨rfl, rfl⟩)
  (refine awOps_call (by rfl) (by rfl) (by rfl) (And.intro Try.call25 (fn25 L 0 _)) ?_; rintro _ _ ⟨rfl, rfl⟩)
  repeat' (first | refine awOps_yes (by rfl) (by rfl) (by rfl) (by simp  only [go_sem, ↓reduceIte, Nat.reduceEqDiff, reduceCtorEq, Nat.reduceAdd, Nat.reduceMul, Nat.reduceLeDiff, aLoad, aStore, h9.b, h9.c]; exact rfl) ?_ | refine awOps_no (by rfl) (by rfl) ?_ | refine awOps_yes0 (by rfl) (by rfl) (by rfl) (by simp  only [go_sem, ↓reduceIte, Nat.reduceEqDiff, reduceCtorEq, Nat.reduceAdd, Nat.reduceMul, Nat.reduceLeDiff, aLoad, aStore, h9.b, h9.c]; exact rfl) ?_ | fail)
  (refine awOps_call (by rfl) (by rfl) (by rfl) (And.intro Try.call31 (fnF L [cV 0, cV 0] _ 0 _ (upd_same _ _ _) (by first | omega | (dsimp only; omega) | (dsimp only at *; omega)) (by decide))) ?_; rintro _ _ ⟨rfl, rfl⟩)
  refine awOps_call (by rfl) (by rfl) (by rfl) (And.intro Try.call15 (matD L (a := fT [cV 0, cV 0]) (b := fT [cV 0, cV 0]) _ tl8 (by kernel_rfl) (by kernel_rfl) rb8)) ?_
  rintro _ _ ⟨⟨y9, rfl, hy9⟩, rfl⟩
  repeat' (first | refine awOps_yes (by rfl) (by rfl) (by rfl) (by simp  only [go_sem, ↓reduceIte, Nat.reduceEqDiff, reduceCtorEq, Nat.reduceAdd, Nat.reduceMul, Nat.reduceLeDiff, aLoad, aStore, h9.b, h9.c]; exact rfl) ?_ | refine awOps_no (by rfl) (by rfl) ?_ | refine awOps_yes0 (by rfl) (by rfl) (by rfl) (by simp  only [go_sem, ↓reduceIte, Nat.reduceEqDiff, reduceCtorEq, Nat.reduceAdd, Nat.reduceMul, Nat.reduceLeDiff, aLoad, aStore, h9.b, h9.c]; exact rfl) ?_ | fail)
  refine awOps_nil (hK _ _ ?_)
  refine AW.less (sl' := [(1, .av (.ptr (s.nx + 3) 0)), (2, .av (.ptr (s.nx + 4) 0)), (3, .av (.sc (slB [(0, [cC]), (1, [cB])] 0))), (4, vI 0), (5, .av (.sc (slB [(1, [cV 0])] 0))), (6, vI 0), (8, vI 3), (10, vI 3), (12, vI 3), (13, .av (.sc y7)), (14, vB true), (16, vB false), (17, .av (.sc y9)), (18, vB true)]) (AllIn.less ⟨rfl, rfl, rfl, rfl, rfl, rfl, rfl, rfl, rfl, rfl, rfl, rfl, rfl, rfl, trivial⟩) ?_
  refine aw_state (J := fun s' => HD s s') (h9.frame (by first | omega | (dsimp only; omega) | (dsimp only at *; omega)) fun j hj => ((upd_ne _ _ (by omega)).trans (upd_ne _ _ (by omega)))) fun s10 h10 => ?_
  clear hK K
  refine aw_seq ?_
  have hi10 := h10.hi
  refine aw_region_seq C (pb := false) rfl fun K hK => ?_
  repeat' (first | refine awOps_yes (by rfl) (by rfl) (by rfl) (by simp  only [go_sem, ↓reduceIte, Nat.reduceEqDiff, reduceCtorEq, Nat.reduceAdd, Nat.reduceMul, Nat.reduceLeDiff, aLoad, aStore, h10.b, h10.c]; exact rfl) ?_ | refine awOps_no (by rfl) (by rfl) ?_ | refine awOps_yes0 (by rfl) (by rfl) (by rfl) (by simp  only [go_sem, ↓reduceIte, Nat.reduceEqDiff, reduceCtorEq, Nat.reduceAdd, Nat.reduceMul, Nat.reduceLeDiff, aLoad, aStore, h10.b, h10.c]; exact rfl) ?_ | fail)
  refine awOps_yes (by rfl) (by rfl) (by rfl) ((show aop C false _ _ _ _ = (aLoad T _ 42 (.av (.ptr (s.nx + 3) 0))).map _ from rfl).trans (ldB3 ((upd_ne _ _ (by omega)).trans h10.b))) ?_
  repeat' (first | refine awOps_yes (by rfl) (by rfl) (by rfl) (by simp  only [go_sem, ↓reduceIte, Nat.reduceEqDiff, reduceCtorEq, Nat.reduceAdd, Nat.reduceMul, Nat.reduceLeDiff, aLoad, aStore, h10.b, h10.c]; exact rfl) ?_ | refine awOps_no (by rfl) (by rfl) ?_ | refine awOps_yes0 (by rfl) (by rfl) (by rfl) (by simp  only [go_sem, ↓reduceIte, Nat.reduceEqDiff, reduceCtorEq, Nat.reduceAdd, Nat.reduceMul, Nat.reduceLeDiff, aLoad, aStore, h10.b, h10.c]; exact rfl) ?_ | fail)
  refine awOps_call (by rfl) (by rfl) (by rfl) (And.intro Try.call17 (FnL.pur (PurArgs.keep (PurArgs.pur (pur_bnd2 (a := [cC]) (n := 0) (b := [cB]) (m := 1) (by omega) (by omega) (by omega) (upd_same _ _ _) ((upd_ne _ _ (by omega)).trans ((upd_ne _ _ (by omega)).trans (upd_same _ _ _))) ((upd_ne _ _ (by omega)).trans (upd_same _ _ _))) PurArgs.nil)) (fnSame L [(0, [cC]), (1, [cB])] [(0, [cC]), (1, [cB])] _ _ _ (slB_g [(0, [cC]), (1, [cB])]) (.inr rfl) (by decide) (by decide)))) ?_
  rintro _ _ ⟨rfl, rfl⟩
  repeat' (first | refine awOps_yes (by rfl) (by rfl) (by rfl) (by simp  only [go_sem, ↓reduceIte, Nat.reduceEqDiff, reduceCtorEq, Nat.reduceAdd, Nat.reduceMul, Nat.reduceLeDiff, aLoad, aStore, h10.b, h10.c]; exact rfl) ?_ | refine awOps_no (by rfl) (by rfl) ?_ | refine awOps_yes0 (by rfl) (by rfl) (by rfl) (by simp  only [go_sem, ↓reduceIte, Nat.reduceEqDiff, reduceCtorEq, Nat.reduceAdd, Nat.reduceMul, Nat.reduceLeDiff, aLoad, aStore, h10.b, h10.c]; exact rfl) ?_ | fail)
  try (first | (refine awOps_call (by rfl) (by rfl) (by rfl) (And.intro Try.call25 (fn25 L 0 _)) ?_; rintro _ _ ⟨rfl, rfl⟩) | refine awOps_no (by rfl) (by rfl) ?_ | fail)
  repeat' (first | refine awOps_yes (by rfl) (by rfl) (by rfl) (by simp  only [go_sem, ↓reduceIte, Nat.reduceEqDiff, reduceCtorEq, Nat.reduceAdd, Nat.reduceMul, Nat.reduceLeDiff, aLoad, aStore, h10.b, h10.c]; exact rfl) ?_ | refine awOps_no (by rfl) (by rfl) ?_ | refine awOps_yes0 (by rfl) (by rfl) (by rfl) (by simp  only [go_sem, ↓reduceIte, Nat.reduceEqDiff, reduceCtorEq, Nat.reduceAdd, Nat.reduceMul, Nat.reduceLeDiff, aLoad, aStore, h10.b, h10.c]; exact rfl) ?_ | fail)
  refine awOps_call (by rfl) (by rfl) (by rfl) (And.intro Try.call17 (FnL.pur (PurArgs.keep (PurArgs.pur (pur_bnd1 (a := [cV 0]) (n := 1) (by omega) (upd_same _ _ _) ((upd_ne _ _ (by omega)).trans (upd_same _ _ _))) PurArgs.nil)) (fnSame L [(1, [cV 0])] [(1, [cV 0])] _ _ _ (slB_g [(1, [cV 0])]) (.inr rfl) (by decide) (by decide)))) ?_
  rintro _ _ ⟨rfl, rfl⟩
  repeat' (first | refine awOps_yes (by rfl) (by rfl) (by rfl) (by simp  only [go_sem, ↓reduceIte, Nat.reduceEqDiff, reduceCtorEq, Nat.reduceAdd, Nat.reduceMul, Nat.reduceLeDiff, aLoad, aStore, h10.b, h10.c]; exact rfl) ?_ | refine awOps_no (by rfl) (by rfl) ?_ | refine awOps_yes0 (by rfl) (by rfl) (by rfl) (by simp  only [go_sem, ↓reduceIte, Nat.reduceEqDiff, reduceCtorEq, Nat.reduceAdd, Nat.reduceMul, Nat.reduceLeDiff, aLoad, aStore, h10.b, h10.c]; exact rfl) ?_ | fail)
  refine awOps_nil (hK _ _ ?_)
  refine AW.less (sl' := [(126, vB false), (4, vI 0), (6, vI 0), (8, vI 3), (10, vI 3), (12, vI 3), (13, .av (.sc y7)), (14, vB true), (16, vB false), (17, .av (.sc y9)), (18, vB true)]) (AllIn.less ⟨rfl, rfl, rfl, rfl, rfl, rfl, rfl, rfl, rfl, rfl, rfl, trivial⟩) ?_
  refine aw_state (J := fun s' => HD s s') (h10.frame (by first | omega | (dsimp only; omega) | (dsimp only at *; omega)) fun j hj => ((upd_ne _ _ (by omega)).trans ((upd_ne _ _ (by omega)).trans ((upd_ne _ _ (by omega)).trans ((upd_ne _ _ (by omega)).trans ((upd_ne _ _ (by omega)).trans ((upd_ne _ _ (by omega)).trans ((upd_ne _ _ (by omega)).trans ((upd_ne _ _ (by omega)).trans ((upd_ne _ _ (by omega)).trans (upd_ne _ _ (by omega)))))))))))) fun s11 h11 => ?_
  clear hK K
  refine aw_cond (by rfl) ?_ ?_
  · intro hc0
    cases hc0
  · intro hc0
    refine aw_skip ?_
    simp only [thenA_normal, thenA_ret, thenA_exit, blockA_normal, blockA_ret, blockA_exit, ↓reduceIte, Nat.reduceEqDiff]
    refine aw_region_seq C (pb := false) rfl fun K hK => ?_
    repeat' (first | refine awOps_yes (by rfl) (by rfl) (by rfl) (by simp  only [go_sem, ↓reduceIte, Nat.reduceEqDiff, reduceCtorEq, Nat.reduceAdd, Nat.reduceMul, Nat.reduceLeDiff, aLoad, aStore, lenB hy9]; exact rfl) ?_ | refine awOps_no (by rfl) (by rfl) ?_ | refine awOps_yes0 (by rfl) (by rfl) (by rfl) (by simp  only [go_sem, ↓reduceIte, Nat.reduceEqDiff, reduceCtorEq, Nat.reduceAdd, Nat.reduceMul, Nat.reduceLeDiff, aLoad, aStore, lenB hy9]; exact rfl) ?_ | fail)
    try (first | (refine awOps_call (by rfl) (by rfl) (by rfl) (And.intro Try.call25 (fn25 L 1 _)) ?_; rintro _ _ ⟨rfl, rfl⟩) | refine awOps_no (by rfl) (by rfl) ?_ | fail)
    repeat' (first | refine awOps_yes (by rfl) (by rfl) (by rfl) (by simp  only [go_sem, ↓reduceIte, Nat.reduceEqDiff, reduceCtorEq, Nat.reduceAdd, Nat.reduceMul, Nat.reduceLeDiff, aLoad, aStore, lenB hy9]; exact rfl) ?_ | refine awOps_no (by rfl) (by rfl) ?_ | refine awOps_yes0 (by rfl) (by rfl) (by rfl) (by simp  only [go_sem, ↓reduceIte, Nat.reduceEqDiff, reduceCtorEq, Nat.reduceAdd, Nat.reduceMul, Nat.reduceLeDiff, aLoad, aStore, lenB hy9]; exact rfl) ?_ | fail)
    try (first | (refine awOps_call (by rfl) (by rfl) (by rfl) (And.intro Try.call25 (fn25 L 0 _)) ?_; rintro _ _ ⟨rfl, rfl⟩) | refine awOps_no (by rfl) (by rfl) ?_ | fail)
    repeat' (first | refine awOps_yes (by rfl) (by rfl) (by rfl) (by simp  only [go_sem, ↓reduceIte, Nat.reduceEqDiff, reduceCtorEq, Nat.reduceAdd, Nat.reduceMul, Nat.reduceLeDiff, aLoad, aStore, lenB hy9]; exact rfl) ?_ | refine awOps_no (by rfl) (by rfl) ?_ | refine awOps_yes0 (by rfl) (by rfl) (by rfl) (by simp  only [go_sem, ↓reduceIte, Nat.reduceEqDiff, reduceCtorEq, Nat.reduceAdd, Nat.reduceMul, Nat.reduceLeDiff, aLoad, aStore, lenB hy9]; exact rfl) ?_ | fail)
    refine awOps_call (by rfl) (by rfl) (by rfl) (And.intro Try.call17 (FnL.pur (PurArgs.keep (PurArgs.pur (pur_bnd2 (a := [cV 1]) (n := 0) (b := [cV 0]) (m := 1) (by omega) (by omega) (by omega) (upd_same _ _ _) ((upd_ne _ _ (by omega)).trans ((upd_ne _ _ (by omega)).trans (upd_same _ _ _))) ((upd_ne _ _ (by omega)).trans (upd_same _ _ _))) PurArgs.nil)) (fnSame L [(0, [cV 1]), (1, [cV 0])] [(0, [cV 1]), (1, [cV 0])] _ _ _ hy7 (.inr rfl) (by decide) (by decide)))) ?_
    rintro _ _ ⟨rfl, rfl⟩
    repeat' (first | refine awOps_yes (by rfl) (by rfl) (by rfl) (by simp  only [go_sem, ↓reduceIte, Nat.reduceEqDiff, reduceCtorEq, Nat.reduceAdd, Nat.reduceMul, Nat.reduceLeDiff, aLoad, aStore, lenB hy9]; exact rfl) ?_ | refine awOps_no (by rfl) (by rfl) ?_ | refine awOps_yes0 (by rfl) (by rfl) (by rfl) (by simp  only [go_sem, ↓reduceIte, Nat.reduceEqDiff, reduceCtorEq, Nat.reduceAdd, Nat.reduceMul, Nat.reduceLeDiff, aLoad, aStore, lenB hy9]; exact rfl) ?_ | fail)
    try (first | (refine awOps_call (by rfl) (by rfl) (by rfl) (And.intro Try.call25 (fn25 L 7 _)) ?_; rintro _ _ ⟨rfl, rfl⟩) | refine awOps_no (by rfl) (by rfl) ?_ | fail)
    try (first | (refine awOps_call (by rfl) (by rfl) (by rfl) (And.intro Try.call25 (fn25 L 2 _)) ?_; rintro _ _ ⟨rfl, rfl⟩) | refine awOps_no (by rfl) (by rfl) ?_ | fail)
    repeat' (first | refine awOps_yes (by rfl) (by rfl) (by rfl) (by simp  only [go_sem, ↓reduceIte, Nat.reduceEqDiff, reduceCtorEq, Nat.reduceAdd, Nat.reduceMul, Nat.reduceLeDiff, aLoad, aStore, lenB hy9]; exact rfl) ?_ | refine awOps_no (by rfl) (by rfl) ?_ | refine awOps_yes0 (by rfl) (by rfl) (by rfl) (by simp  only [go_sem, ↓reduceIte, Nat.reduceEqDiff, reduceCtorEq, Nat.reduceAdd, Nat.reduceMul, Nat.reduceLeDiff, aLoad, aStore, lenB hy9]; exact rfl) ?_ | fail)
    try (first | (refine awOps_call (by rfl) (by rfl) (by rfl) (And.intro Try.call31 (fnF L [cV 7, cV 2] _ 0 _ (upd_same _ _ _) (by first | omega | (dsimp only; omega) | (dsimp only at *; omega)) (by decide))) ?_; rintro _ _ ⟨rfl, rfl⟩) | refine awOps_no (by rfl) (by rfl) ?_ | fail)
    try (first | (refine awOps_call (by rfl) (by rfl) (by rfl) (And.intro Try.call25 (fn25 L 0 _)) ?_; rintro _ _ ⟨rfl, rfl⟩) | refine awOps_no (by rfl) (by rfl) ?_ | fail)
    try (first | (refine awOps_call (by rfl) (by rfl) (by rfl) (And.intro Try.call25 (fn25 L 7 _)) ?_; rintro _ _ ⟨rfl, rfl⟩) | refine awOps_no (by rfl) (by rfl) ?_ | fail)
    repeat' (first | refine awOps_yes (by rfl) (by rfl) (by rfl) (by simp  only [go_sem, ↓reduceIte, Nat.reduceEqDiff, reduceCtorEq, Nat.reduceAdd, Nat.reduceMul, Nat.reduceLeDiff, aLoad, aStore, lenB hy9]; exact rfl) ?_ | refine awOps_no (by rfl) (by rfl) ?_ | refine awOps_yes0 (by rfl) (by rfl) (by rfl) (by simp  only [go_sem, ↓reduceIte, Nat.reduceEqDiff, reduceCtorEq, Nat.reduceAdd, Nat.reduceMul, Nat.reduceLeDiff, aLoad, aStore, lenB hy9]; exact rfl) ?_ | fail)
    try (first | (refine awOps_call (by rfl) (by rfl) (by rfl) (And.intro Try.call31 (fnF L [cV 0, cV 7] _ 0 _ (upd_same _ _ _) (by first | omega | (dsimp only; omega) | (dsimp only at *; omega)) (by decide))) ?_; rintro _ _ ⟨rfl, rfl⟩) | refine awOps_no (by rfl) (by rfl) ?_ | fail)
    refine awOps_call (by rfl) (by rfl) (by rfl) (And.intro Try.call18 (varT L _)) ?_
    rintro _ _ ⟨rfl, rfl⟩
    repeat' (first | refine awOps_yes (by rfl) (by rfl) (by rfl) (by simp  only [go_sem, ↓reduceIte, Nat.reduceEqDiff, reduceCtorEq, Nat.reduceAdd, Nat.reduceMul, Nat.reduceLeDiff, aLoad, aStore, lenB hy9]; exact rfl) ?_ | refine awOps_no (by rfl) (by rfl) ?_ | refine awOps_yes0 (by rfl) (by rfl) (by rfl) (by simp  only [go_sem, ↓reduceIte, Nat.reduceEqDiff, reduceCtorEq, Nat.reduceAdd, Nat.reduceMul, Nat.reduceLeDiff, aLoad, aStore, lenB hy9]; exact rfl) ?_ | fail)
    try (first | (refine awOps_call (by rfl) (by rfl) (by rfl) (And.intro Try.call25 (fn25 L 0 _)) ?_; rintro _ _ ⟨rfl, rfl⟩) | refine awOps_no (by rfl) (by rfl) ?_ | fail)
    try (first | (refine awOps_call (by rfl) (by rfl) (by rfl) (And.intro Try.call25 (fn25 L 0 _)) ?_; rintro _ _ ⟨rfl, rfl⟩) | refine awOps_no (by rfl) (by rfl) ?_ | fail)
    repeat' (first | refine awOps_yes (by rfl) (by rfl) (by rfl) (by simp  only [go_sem, ↓reduceIte, Nat.reduceEqDiff, reduceCtorEq, Nat.reduceAdd, Nat.reduceMul, Nat.reduceLeDiff, aLoad, aStore, lenB hy9]; exact rfl) ?_ | refine awOps_no (by rfl) (by rfl) ?_ | refine awOps_yes0 (by rfl) (by rfl) (by rfl) (by simp  only [go_sem, ↓reduceIte, Nat.reduceEqDiff, reduceCtorEq, Nat.reduceAdd, Nat.reduceMul, Nat.reduceLeDiff, aLoad, aStore, lenB hy9]; exact rfl) ?_ | fail)
    try (first | (refine awOps_call (by rfl) (by rfl) (by rfl) (And.intro Try.call31 (fnF L [cV 0, cV 0] _ 0 _ (upd_same _ _ _) (by first | omega | (dsimp only; omega) | (dsimp only at *; omega)) (by decide))) ?_; rintro _ _ ⟨rfl, rfl⟩) | refine awOps_no (by rfl) (by rfl) ?_ | fail)
    try (first | (refine awOps_call (by rfl) (by rfl) (by rfl) (And.intro Try.call25 (fn25 L 0 _)) ?_; rintro _ _ ⟨rfl, rfl⟩) | refine awOps_no (by rfl) (by rfl) ?_ | fail)
    try (first | (refine awOps_call (by rfl) (by rfl) (by rfl) (And.intro Try.call25 (fn25 L 1 _)) ?_; rintro _ _ ⟨rfl, rfl⟩) | refine awOps_no (by rfl) (by rfl) ?_ | fail)
    repeat' (first | refine awOps_yes (by rfl) (by rfl) (by rfl) (by simp  only [go_sem, ↓reduceIte, Nat.reduceEqDiff, reduceCtorEq, Nat.reduceAdd, Nat.reduceMul, Nat.reduceLeDiff, aLoad, aStore, lenB hy9]; exact rfl) ?_ | refine awOps_no (by rfl) (by rfl) ?_ | refine awOps_yes0 (by rfl) (by rfl) (by rfl) (by simp  only [go_sem, ↓reduceIte, Nat.reduceEqDiff, reduceCtorEq, Nat.reduceAdd, Nat.reduceMul, Nat.reduceLeDiff, aLoad, aStore, lenB hy9]; exact rfl) ?_ | fail)
    try (first | (refine awOps_call (by rfl) (by rfl) (by rfl) (And.intro Try.call31 (fnF L [cV 0, cV 1] _ 0 _ (upd_same _ _ _) (by first | omega | (dsimp only; omega) | (dsimp only at *; omega)) (by decide))) ?_; rintro _ _ ⟨rfl, rfl⟩) | refine awOps_no (by rfl) (by rfl) ?_ | fail)
    refine awOps_call (by rfl) (by rfl) (by rfl) (And.intro Try.call18 (varF L _)) ?_
    rintro _ _ ⟨rfl, rfl⟩
    repeat' (first | refine awOps_yes (by rfl) (by rfl) (by rfl) (by simp  only [go_sem, ↓reduceIte, Nat.reduceEqDiff, reduceCtorEq, Nat.reduceAdd, Nat.reduceMul, Nat.reduceLeDiff, aLoad, aStore, lenB hy9]; exact rfl) ?_ | refine awOps_no (by rfl) (by rfl) ?_ | refine awOps_yes0 (by rfl) (by rfl) (by rfl) (by simp  only [go_sem, ↓reduceIte, Nat.reduceEqDiff, reduceCtorEq, Nat.reduceAdd, Nat.reduceMul, Nat.reduceLeDiff, aLoad, aStore, lenB hy9]; exact rfl) ?_ | fail)
    refine awOps_nil (hK _ _ ?_)
    refine AW.less (sl' := [(0, vB true)]) (AllIn.less ⟨rfl, trivial⟩) ?_
    clear hK K
    refine aw_ret ?_
    simp only [go_sem, ↓reduceIte, Nat.reduceEqDiff, reduceCtorEq, Nat.reduceAdd, Nat.reduceMul, Nat.reduceLeDiff, aLoad, aStore, FnQ, resA]
    -- 0f.ret
    have hk11 := h11.kp.1
    exact fun _ => ⟨by first | rfl | trivial, fun j hj => (((upd_ne _ _ (by omega)).trans ((upd_ne _ _ (by omega)).trans ((upd_ne _ _ (by omega)).trans ((upd_ne _ _ (by omega)).trans ((upd_ne _ _ (by omega)).trans ((upd_ne _ _ (by omega)).trans ((upd_ne _ _ (by omega)).trans ((upd_ne _ _ (by omega)).trans ((upd_ne _ _ (by omega)).trans (upd_ne _ _ (by omega)))))))))))).trans (h11.kp.2.1 j hj), h11.kp.2.2, by first | rfl | trivial⟩
end Go.Am.Seat
/-
  MADE BY PROGRAM (am.py): the walks of functions 30.
-/
namespace Go.Am.Seat
open Go.Proofs

theorem ldK {ob : Nat → Obj} {id i fz : Nat} {l : List Cell} (h : ob id = .cs (celC l) fz) (hi : i < l.length) : aLoad T ob 3 (.av (.ptr id (i * 3))) = some (vI l[i].kind) := by
  rw [ldA h]
  simp only [T3, Option.bind_some, y3]
  rw [if_pos (by rw [celC_len]; omega), celC_at hi]
  rfl
theorem ldN3 {ob : Nat → Obj} {id i fz : Nat} {l : List Cell} (h : ob id = .cs (celC l) fz) (hi : i < l.length) : aLoad T ob 3 (.av (.ptr id (i * 3 + 2))) = some (vI l[i].n) := by
  rw [ldA h]
  simp only [T3, Option.bind_some, y3]
  rw [if_pos (by rw [celC_len]; omega), ← List.drop_drop, celC_at hi]
  rfl
theorem mixV_kind {g : Int → Int} {t : List Cell} {i : Nat} (hi : i < t.length) : ((mixV g t i)[i]'(by rw [mixV_len]; exact hi)).kind = t[i].kind := by rw [mixV_get hi]
/-- The state while a row's variables are turned. -/
structure TV (s : Me) (oid : Nat) (g : Int → Int) (t : List Cell) (i : Nat) (s1 : Me) : Prop where
  kp : Kp s s1
  o : s1.ob oid = .cs (celC (mixV g t i)) 0
  lo : s.nx ≤ oid ∧ oid < s1.nx
theorem TV.up {s s1 : Me} {oid i : Nat} {g : Int → Int} {t : List Cell} (h : TV s oid g t i s1) {m : Nat} (hm : s1.nx ≤ m) : TV s oid g t i ⟨s1.ob, m, s1.ls⟩ :=
  ⟨⟨Nat.le_trans h.kp.1 hm, h.kp.2.1, h.kp.2.2⟩, h.o, by have := h.lo; dsimp only; omega⟩
theorem TV.set {s s1 : Me} {oid i : Nat} {g : Int → Int} {t : List Cell} (h : TV s oid g t i s1) (hi : i < t.length) (hk : t[i].kind = 1) {m : Nat} (hm : s1.nx ≤ m) {c : Cell} (hc : c = mapC g t[i]) : TV s oid g t (i + 1) ⟨upd s1.ob oid (.cs (celC ((mixV g t i).set i c)) 0), m, s1.ls⟩ := by
  have := h.lo
  exact ⟨⟨Nat.le_trans h.kp.1 hm, fun j hj => (upd_ne _ _ (by omega)).trans (h.kp.2.1 j hj), h.kp.2.2⟩, (upd_same _ _ _).trans (by rw [mixV_succ hi, hc]), by dsimp only; omega⟩
theorem TV.keep {s s1 : Me} {oid i : Nat} {g : Int → Int} {t : List Cell} (h : TV s oid g t i s1) (hi : i < t.length) (hk : ¬ t[i].kind = 1) {m : Nat} (hm : s1.nx ≤ m) : TV s oid g t (i + 1) ⟨s1.ob, m, s1.ls⟩ :=
  ⟨⟨Nat.le_trans h.kp.1 hm, h.kp.2.1, h.kp.2.2⟩, by rw [mixV_succ hi, mapC, if_neg hk, ← mixV_get (g := g) hi, List.set_getElem_self]; exact h.o, by have := h.lo; dsimp only; omega⟩
theorem TV.fin {s s1 : Me} {oid i : Nat} {g : Int → Int} {t : List Cell} (h : TV s oid g t i s1) (hi : i = t.length) : s1.ob oid = .cs (celC (t.map (mapC g))) 0 := by
  have := h.o
  rwa [hi, mixV, List.take_length, List.drop_length, List.append_nil] at this

-- many steps
theorem bod30 : Try.f30.body = some (Try.f30.body.getD .skip) := rfl
set_option maxHeartbeats 1000000 in
theorem fn30 (L : Loops) (t : List Cell) (s : Me) (x : Sc) (hx : GSl encC x t) (hl : 0 < t.length ∧ t.length ≤ 1000000) : FnL Try.prog L 30 [.av (.sc x)] s fun r s' => (r = vC (numG t)) ∧ s' = s := by
  refine FnL.pure (R := fun r => r = vC (numG t)) ?_
  obtain rfl := gsl_pos hx hl.1
  refine fn_of_body (ts := [2]) Try.func30 bod30 rfl (by simp) (by simp [Try.ntmps30]) fun D0 => ?_
  unfold Try.f30
  simp only [Option.getD_some, initSl]
  refine aw_region_seq C (pb := false) rfl fun K hK => ?_
  repeat' (first | refine awOps_yes (by rfl) (by rfl) (by rfl) (by simp  only [go_sem, ↓reduceIte, Nat.reduceEqDiff, reduceCtorEq, Nat.reduceAdd, Nat.reduceMul, Nat.reduceLeDiff]; exact rfl) ?_ | refine awOps_no (by rfl) (by rfl) ?_ | refine awOps_yes0 (by rfl) (by rfl) (by rfl) (by simp  only [go_sem, ↓reduceIte, Nat.reduceEqDiff, reduceCtorEq, Nat.reduceAdd, Nat.reduceMul, Nat.reduceLeDiff]; exact rfl) ?_ | fail)
  refine awOps_nil (hK _ _ ?_)
  clear hK K
  refine aw_region_seq C (pb := false) rfl fun K hK => ?_
  repeat' (first | refine awOps_yes (by rfl) (by rfl) (by rfl) (by simp  only [go_sem, ↓reduceIte, Nat.reduceEqDiff, reduceCtorEq, Nat.reduceAdd, Nat.reduceMul, Nat.reduceLeDiff]; exact rfl) ?_ | refine awOps_no (by rfl) (by rfl) ?_ | refine awOps_yes0 (by rfl) (by rfl) (by rfl) (by simp  only [go_sem, ↓reduceIte, Nat.reduceEqDiff, reduceCtorEq, Nat.reduceAdd, Nat.reduceMul, Nat.reduceLeDiff]; exact rfl) ?_ | fail)
  refine awOps_call (by rfl) (by rfl) (by rfl) (And.intro Try.call24 (fn24 L t _ _ hx (by omega))) ?_
  rintro _ _ ⟨⟨xv, rfl, hxv⟩, rfl⟩
  repeat' (first | refine awOps_yes (by rfl) (by rfl) (by rfl) (by simp  only [go_sem, ↓reduceIte, Nat.reduceEqDiff, reduceCtorEq, Nat.reduceAdd, Nat.reduceMul, Nat.reduceLeDiff]; exact rfl) ?_ | refine awOps_no (by rfl) (by rfl) ?_ | refine awOps_yes0 (by rfl) (by rfl) (by rfl) (by simp  only [go_sem, ↓reduceIte, Nat.reduceEqDiff, reduceCtorEq, Nat.reduceAdd, Nat.reduceMul, Nat.reduceLeDiff]; exact rfl) ?_ | fail)
  refine awOps_nil (hK _ _ ?_)
  clear hK K
  refine aw_region_seq C (pb := false) rfl fun K hK => ?_
  repeat' (first | refine awOps_yes (by rfl) (by rfl) (by rfl) (by simp  only [go_sem, ↓reduceIte, Nat.reduceEqDiff, reduceCtorEq, Nat.reduceAdd, Nat.reduceMul, Nat.reduceLeDiff]; exact rfl) ?_ | refine awOps_no (by rfl) (by rfl) ?_ | refine awOps_yes0 (by rfl) (by rfl) (by rfl) (by simp  only [go_sem, ↓reduceIte, Nat.reduceEqDiff, reduceCtorEq, Nat.reduceAdd, Nat.reduceMul, Nat.reduceLeDiff]; exact rfl) ?_ | fail)
  refine awOps_yes (by rfl) (by rfl) (by rfl) ((show aop C false _ _ _ _ = aAppend T _ _ 22 _ _ from rfl).trans (appC0 (l := t) (upd_same _ _ _) hl.1 (by omega))) ?_
  repeat' (first | refine awOps_yes (by rfl) (by rfl) (by rfl) (by simp  only [go_sem, ↓reduceIte, Nat.reduceEqDiff, reduceCtorEq, Nat.reduceAdd, Nat.reduceMul, Nat.reduceLeDiff]; exact rfl) ?_ | refine awOps_no (by rfl) (by rfl) ?_ | refine awOps_yes0 (by rfl) (by rfl) (by rfl) (by simp  only [go_sem, ↓reduceIte, Nat.reduceEqDiff, reduceCtorEq, Nat.reduceAdd, Nat.reduceMul, Nat.reduceLeDiff]; exact rfl) ?_ | fail)
  refine awOps_nil (hK _ _ ?_)
  clear hK K
  refine aw_seq ?_
  refine aw_region_seq C (pb := false) rfl fun K hK => ?_
  repeat' (first | refine awOps_yes (by rfl) (by rfl) (by rfl) (by simp  only [go_sem, ↓reduceIte, Nat.reduceEqDiff, reduceCtorEq, Nat.reduceAdd, Nat.reduceMul, Nat.reduceLeDiff]; exact rfl) ?_ | refine awOps_no (by rfl) (by rfl) ?_ | refine awOps_yes0 (by rfl) (by rfl) (by rfl) (by simp  only [go_sem, ↓reduceIte, Nat.reduceEqDiff, reduceCtorEq, Nat.reduceAdd, Nat.reduceMul, Nat.reduceLeDiff]; exact rfl) ?_ | fail)
  refine awOps_nil (hK _ _ ?_)
  refine AW.less (sl' := [(3, .av (.sc xv)), (4, .av (.own (s.nx + 6) 0 t.length 3)), (5, vI 0)]) (AllIn.less ⟨rfl, rfl, rfl, trivial⟩) ?_
  refine aw_state (J := fun s3 => TV s (s.nx + 6) (fun n => placeI (varsG t []) n 0) t 0 s3) ⟨⟨(by first | omega | (dsimp only; omega) | (dsimp only at *; omega)), fun j hj => (upd_ne _ _ (by omega)).trans ((upd_ne _ _ (by omega)).trans (upd_ne _ _ (by omega))), rfl⟩, by rw [show mixV (fun n => placeI (varsG t []) n 0) t 0 = t by simp [mixV]]; exact upd_same _ _ _, (by first | omega | (dsimp only; omega) | (dsimp only at *; omega))⟩ fun s3 hJ3 => ?_
  obtain ⟨oid, hoid⟩ : ∃ c, c = s.nx + 6 := ⟨_, rfl⟩
  rw [← hoid] at hJ3 ⊢
  clear hK K
  refine aw_block ?_
  refine AW.less (sl' := [(3, .av (.sc xv)), (4, .av (.own oid 0 t.length 3)), (5, vI (0))]) (AllIn.less ⟨rfl, rfl, rfl, trivial⟩) (aw_loop (fun k sl1 s1 => ∃ (i : Nat), k = t.length - i ∧ sl1 = [(3, .av (.sc xv)), (4, .av (.own oid 0 t.length 3)), (5, vI (i))] ∧ (TV s oid (fun n => placeI (varsG t []) n 0) t i s1) ∧ (i ≤ t.length)) (k := t.length - (0)) ⟨0, rfl, rfl, hJ3.up (by first | omega | (dsimp only; omega) | (dsimp only at *; omega)), Nat.zero_le _⟩ ?_)
  rintro k1 _ s1 ⟨i, hk1, rfl, hs1, hb⟩
  refine aw_seq ?_
  refine aw_region_seq C (pb := false) rfl fun K hK => ?_
  repeat' (first | refine awOps_yes (by rfl) (by rfl) (by rfl) (by simp  only [go_sem, ↓reduceIte, Nat.reduceEqDiff, reduceCtorEq, Nat.reduceAdd, Nat.reduceMul, Nat.reduceLeDiff, lenOwn]; exact rfl) ?_ | refine awOps_no (by rfl) (by rfl) ?_ | refine awOps_yes0 (by rfl) (by rfl) (by rfl) (by simp  only [go_sem, ↓reduceIte, Nat.reduceEqDiff, reduceCtorEq, Nat.reduceAdd, Nat.reduceMul, Nat.reduceLeDiff, lenOwn]; exact rfl) ?_ | fail)
  refine awOps_nil (hK _ _ ?_)
  clear hK K
  refine aw_cond (by rfl) ?_ ?_
  · intro hc0
    try simp only [decide_eq_true_eq, decide_eq_false_iff_not] at hc0
    have hi2 : i < t.length := by omega
    have hi3 : i < (mixV (fun n => placeI (varsG t []) n 0) t i).length := by rw [mixV_len]; exact hi2
    have hge := mixV_get (g := (fun n => placeI (varsG t []) n 0)) hi2
    refine aw_skip ?_
    simp only [thenA_normal, thenA_ret, thenA_exit, blockA_normal, blockA_ret, blockA_exit, ↓reduceIte, Nat.reduceEqDiff]
    refine aw_seq ?_
    refine aw_block ?_
    refine aw_region_seq C (pb := false) rfl fun K hK => ?_
    repeat' (first | refine awOps_yes (by rfl) (by rfl) (by rfl) (by simp  only [go_sem, ↓reduceIte, Nat.reduceEqDiff, reduceCtorEq, Nat.reduceAdd, Nat.reduceMul, Nat.reduceLeDiff, ixC hi2, ldK hs1.o hi3, hge, Nat.add_zero]; exact rfl) ?_ | refine awOps_no (by rfl) (by rfl) ?_ | refine awOps_yes0 (by rfl) (by rfl) (by rfl) (by simp  only [go_sem, ↓reduceIte, Nat.reduceEqDiff, reduceCtorEq, Nat.reduceAdd, Nat.reduceMul, Nat.reduceLeDiff, ixC hi2, ldK hs1.o hi3, hge, Nat.add_zero]; exact rfl) ?_ | fail)
    refine awOps_nil (hK _ _ ?_)
    clear hK K
    refine aw_cond (by rfl) ?_ ?_
    · intro hc1
      try simp only [beq_iff_eq, beq_eq_false_iff_ne, ne_eq] at hc1
      refine aw_region C (pb := false) rfl ?_
      repeat' (first | refine awOps_yes (by rfl) (by rfl) (by rfl) (by simp  only [go_sem, ↓reduceIte, Nat.reduceEqDiff, reduceCtorEq, Nat.reduceAdd, Nat.reduceMul, Nat.reduceLeDiff, ixC hi2, ldN3 hs1.o hi3, hge, stCell hs1.o hi3, Nat.add_zero]; exact rfl) ?_ | refine awOps_no (by rfl) (by rfl) ?_ | refine awOps_yes0 (by rfl) (by rfl) (by rfl) (by simp  only [go_sem, ↓reduceIte, Nat.reduceEqDiff, reduceCtorEq, Nat.reduceAdd, Nat.reduceMul, Nat.reduceLeDiff, ixC hi2, ldN3 hs1.o hi3, hge, stCell hs1.o hi3, Nat.add_zero]; exact rfl) ?_ | fail)
      (refine awOps_call (by rfl) (by rfl) (by rfl) (And.intro Try.call61 (fn61 L (varsG t []) t[i].n _ xv hxv (by have := varsG_len t []; simp only [List.length_nil] at this; omega))) ?_; rintro _ _ ⟨rfl, rfl⟩)
      repeat' (first | refine awOps_yes (by rfl) (by rfl) (by rfl) (by simp  only [go_sem, ↓reduceIte, Nat.reduceEqDiff, reduceCtorEq, Nat.reduceAdd, Nat.reduceMul, Nat.reduceLeDiff, ixC hi2, ldN3 hs1.o hi3, hge, stCell hs1.o hi3, Nat.add_zero]; exact rfl) ?_ | refine awOps_no (by rfl) (by rfl) ?_ | refine awOps_yes0 (by rfl) (by rfl) (by rfl) (by simp  only [go_sem, ↓reduceIte, Nat.reduceEqDiff, reduceCtorEq, Nat.reduceAdd, Nat.reduceMul, Nat.reduceLeDiff, ixC hi2, ldN3 hs1.o hi3, hge, stCell hs1.o hi3, Nat.add_zero]; exact rfl) ?_ | fail)
      refine awOps_nil ?_
      try simp only [thenA_normal, thenA_ret, thenA_exit, blockA_normal, blockA_ret, blockA_exit]
      refine aw_region C (pb := false) rfl ?_
      repeat' (first | refine awOps_yes (by rfl) (by rfl) (by rfl) (by simp  only [go_sem, ↓reduceIte, Nat.reduceEqDiff, reduceCtorEq, Nat.reduceAdd, Nat.reduceMul, Nat.reduceLeDiff, wrap_small ((i : Int) + 1) (by omega) (by omega)]; exact rfl) ?_ | refine awOps_no (by rfl) (by rfl) ?_ | refine awOps_yes0 (by rfl) (by rfl) (by rfl) (by simp  only [go_sem, ↓reduceIte, Nat.reduceEqDiff, reduceCtorEq, Nat.reduceAdd, Nat.reduceMul, Nat.reduceLeDiff, wrap_small ((i : Int) + 1) (by omega) (by omega)]; exact rfl) ?_ | fail)
      refine awOps_nil ?_
      try simp only [thenA_normal, thenA_ret, thenA_exit, blockA_normal, blockA_ret, blockA_exit]
      -- end of round 0 at 0t1t
      refine ⟨t.length - (i + 1), [(3, .av (.sc xv)), (4, .av (.own oid 0 t.length 3)), (5, vI (i + 1))], by omega, AllIn.less ⟨rfl, rfl, rfl, trivial⟩, i + 1, rfl, rfl, ?_, ?_⟩
      · exact hs1.set hi2 hc1 (by first | omega | (dsimp only; omega) | (dsimp only at *; omega)) (by rw [mapC, if_pos hc1])
      · omega
    · intro hc1
      try simp only [beq_iff_eq, beq_eq_false_iff_ne, ne_eq] at hc1
      refine aw_skip ?_
      simp only [thenA_normal, thenA_ret, thenA_exit, blockA_normal, blockA_ret, blockA_exit, ↓reduceIte, Nat.reduceEqDiff]
      refine aw_region C (pb := false) rfl ?_
      repeat' (first | refine awOps_yes (by rfl) (by rfl) (by rfl) (by simp  only [go_sem, ↓reduceIte, Nat.reduceEqDiff, reduceCtorEq, Nat.reduceAdd, Nat.reduceMul, Nat.reduceLeDiff, wrap_small ((i : Int) + 1) (by omega) (by omega)]; exact rfl) ?_ | refine awOps_no (by rfl) (by rfl) ?_ | refine awOps_yes0 (by rfl) (by rfl) (by rfl) (by simp  only [go_sem, ↓reduceIte, Nat.reduceEqDiff, reduceCtorEq, Nat.reduceAdd, Nat.reduceMul, Nat.reduceLeDiff, wrap_small ((i : Int) + 1) (by omega) (by omega)]; exact rfl) ?_ | fail)
      refine awOps_nil ?_
      try simp only [thenA_normal, thenA_ret, thenA_exit, blockA_normal, blockA_ret, blockA_exit]
      -- end of round 0 at 0t1f
      refine ⟨t.length - (i + 1), [(3, .av (.sc xv)), (4, .av (.own oid 0 t.length 3)), (5, vI (i + 1))], by omega, AllIn.less ⟨rfl, rfl, rfl, trivial⟩, i + 1, rfl, rfl, ?_, ?_⟩
      · exact hs1.keep hi2 hc1 (by first | omega | (dsimp only; omega) | (dsimp only at *; omega))
      · omega
  · intro hc0
    try simp only [decide_eq_true_eq, decide_eq_false_iff_not] at hc0
    refine aw_exit ?_
    simp only [thenA_normal, thenA_ret, thenA_exit, blockA_normal, blockA_ret, blockA_exit, ↓reduceIte, Nat.reduceEqDiff]
    have hin : i = t.length := by omega
    have hpl := celC_pure (hs1.fin hin)
    rw [List.length_map] at hpl
    refine aw_pur 4 hpl ?_
    refine aw_region_seq C (pb := false) rfl fun K hK => ?_
    repeat' (first | refine awOps_yes (by rfl) (by rfl) (by rfl) (by simp  only [go_sem, ↓reduceIte, Nat.reduceEqDiff, reduceCtorEq, Nat.reduceAdd, Nat.reduceMul, Nat.reduceLeDiff]; exact rfl) ?_ | refine awOps_no (by rfl) (by rfl) ?_ | refine awOps_yes0 (by rfl) (by rfl) (by rfl) (by simp  only [go_sem, ↓reduceIte, Nat.reduceEqDiff, reduceCtorEq, Nat.reduceAdd, Nat.reduceMul, Nat.reduceLeDiff]; exact rfl) ?_ | fail)
    refine awOps_nil (hK _ _ ?_)
    clear hK K
    refine aw_ret ?_
    simp only [go_sem, ↓reduceIte, Nat.reduceEqDiff, reduceCtorEq, Nat.reduceAdd, Nat.reduceMul, Nat.reduceLeDiff, FnQ, resA]
    -- 0f.x0.ret
    exact fun _ => ⟨rfl, fun j hj => (upd_ne _ _ (by have := hs1.lo; omega)).trans (hs1.kp.2.1 j hj), hs1.kp.2.2, by first | rfl | (simp only [vC, numG, List.length_map])⟩
end Go.Am.Seat
/-
  MADE BY PROGRAM (am.py): the walks of functions 29.
-/
namespace Go.Am.Seat
open Go.Proofs

/-- What Shift tells: none, if it is not right. -/
def shiftG (t : List Cell) (by_ : Int) : List Cell := if rightOk (t.map (mapC (· + by_))) then t.map (mapC (· + by_)) else []

-- many steps
theorem bod29 : Try.f29.body = some (Try.f29.body.getD .skip) := rfl
set_option maxHeartbeats 1000000 in
theorem fn29 (L : Loops) (t : List Cell) (by_ : Int) (s : Me) (x : Sc) (hx : GSl encC x t) (hl : 0 < t.length ∧ t.length ≤ 1000000) (hn : ∀ c ∈ t, c.name.size ≤ 1152921504606846976) (hv : ∀ c ∈ t, c.kind = 1 → 0 ≤ c.n ∧ c.n ≤ 1000000) (hby : 0 ≤ by_ ∧ by_ ≤ 1000000) : FnL Try.prog L 29 [.av (.sc x), vI by_] s fun r s' => (∃ y, r = .av (.sc y) ∧ GSl encC y (shiftG t by_)) ∧ s' = s := by
  refine FnL.pure (R := fun r => ∃ y, r = .av (.sc y) ∧ GSl encC y (shiftG t by_)) ?_
  obtain rfl := gsl_pos hx hl.1
  refine fn_of_body (ts := [4]) Try.func29 bod29 rfl (by simp) (by simp [Try.ntmps29]) fun D0 => ?_
  unfold Try.f29
  simp only [Option.getD_some, initSl]
  refine aw_region_seq C (pb := false) rfl fun K hK => ?_
  repeat' (first | refine awOps_yes (by rfl) (by rfl) (by rfl) (by simp  only [go_sem, ↓reduceIte, Nat.reduceEqDiff, reduceCtorEq, Nat.reduceAdd, Nat.reduceMul, Nat.reduceLeDiff]; exact rfl) ?_ | refine awOps_no (by rfl) (by rfl) ?_ | refine awOps_yes0 (by rfl) (by rfl) (by rfl) (by simp  only [go_sem, ↓reduceIte, Nat.reduceEqDiff, reduceCtorEq, Nat.reduceAdd, Nat.reduceMul, Nat.reduceLeDiff]; exact rfl) ?_ | fail)
  refine awOps_nil (hK _ _ ?_)
  clear hK K
  refine aw_region_seq C (pb := false) rfl fun K hK => ?_
  repeat' (first | refine awOps_yes (by rfl) (by rfl) (by rfl) (by simp  only [go_sem, ↓reduceIte, Nat.reduceEqDiff, reduceCtorEq, Nat.reduceAdd, Nat.reduceMul, Nat.reduceLeDiff]; exact rfl) ?_ | refine awOps_no (by rfl) (by rfl) ?_ | refine awOps_yes0 (by rfl) (by rfl) (by rfl) (by simp  only [go_sem, ↓reduceIte, Nat.reduceEqDiff, reduceCtorEq, Nat.reduceAdd, Nat.reduceMul, Nat.reduceLeDiff]; exact rfl) ?_ | fail)
  refine awOps_yes (by rfl) (by rfl) (by rfl) ((show aop C false _ _ _ _ = aAppend T _ _ 22 _ _ from rfl).trans (appC0 (l := t) (upd_same _ _ _) hl.1 (by omega))) ?_
  repeat' (first | refine awOps_yes (by rfl) (by rfl) (by rfl) (by simp  only [go_sem, ↓reduceIte, Nat.reduceEqDiff, reduceCtorEq, Nat.reduceAdd, Nat.reduceMul, Nat.reduceLeDiff]; exact rfl) ?_ | refine awOps_no (by rfl) (by rfl) ?_ | refine awOps_yes0 (by rfl) (by rfl) (by rfl) (by simp  only [go_sem, ↓reduceIte, Nat.reduceEqDiff, reduceCtorEq, Nat.reduceAdd, Nat.reduceMul, Nat.reduceLeDiff]; exact rfl) ?_ | fail)
  refine awOps_nil (hK _ _ ?_)
  clear hK K
  refine aw_seq ?_
  refine aw_region_seq C (pb := false) rfl fun K hK => ?_
  repeat' (first | refine awOps_yes (by rfl) (by rfl) (by rfl) (by simp  only [go_sem, ↓reduceIte, Nat.reduceEqDiff, reduceCtorEq, Nat.reduceAdd, Nat.reduceMul, Nat.reduceLeDiff]; exact rfl) ?_ | refine awOps_no (by rfl) (by rfl) ?_ | refine awOps_yes0 (by rfl) (by rfl) (by rfl) (by simp  only [go_sem, ↓reduceIte, Nat.reduceEqDiff, reduceCtorEq, Nat.reduceAdd, Nat.reduceMul, Nat.reduceLeDiff]; exact rfl) ?_ | fail)
  refine awOps_nil (hK _ _ ?_)
  refine AW.less (sl' := [(1, vI by_), (5, .av (.own (s.nx + 3) 0 t.length 3)), (6, vI 0)]) (AllIn.less ⟨rfl, rfl, rfl, trivial⟩) ?_
  refine aw_state (J := fun s3 => TV s (s.nx + 3) (· + by_) t 0 s3) ⟨⟨(by first | omega | (dsimp only; omega) | (dsimp only at *; omega)), fun j hj => (upd_ne _ _ (by omega)).trans ((upd_ne _ _ (by omega)).trans (upd_ne _ _ (by omega))), rfl⟩, by rw [show mixV (· + by_) t 0 = t by simp [mixV]]; exact upd_same _ _ _, (by first | omega | (dsimp only; omega) | (dsimp only at *; omega))⟩ fun s3 hJ3 => ?_
  obtain ⟨oid, hoid⟩ : ∃ c, c = s.nx + 3 := ⟨_, rfl⟩
  rw [← hoid] at hJ3 ⊢
  clear hK K
  refine aw_block ?_
  refine AW.less (sl' := [(1, vI by_), (5, .av (.own oid 0 t.length 3)), (6, vI (0))]) (AllIn.less ⟨rfl, rfl, rfl, trivial⟩) (aw_loop (fun k sl1 s1 => ∃ (i : Nat), k = t.length - i ∧ sl1 = [(1, vI by_), (5, .av (.own oid 0 t.length 3)), (6, vI (i))] ∧ (TV s oid (· + by_) t i s1) ∧ (i ≤ t.length)) (k := t.length - (0)) ⟨0, rfl, rfl, hJ3.up (by first | omega | (dsimp only; omega) | (dsimp only at *; omega)), Nat.zero_le _⟩ ?_)
  rintro k1 _ s1 ⟨i, hk1, rfl, hs1, hb⟩
  refine aw_seq ?_
  refine aw_region_seq C (pb := false) rfl fun K hK => ?_
  repeat' (first | refine awOps_yes (by rfl) (by rfl) (by rfl) (by simp  only [go_sem, ↓reduceIte, Nat.reduceEqDiff, reduceCtorEq, Nat.reduceAdd, Nat.reduceMul, Nat.reduceLeDiff, lenOwn]; exact rfl) ?_ | refine awOps_no (by rfl) (by rfl) ?_ | refine awOps_yes0 (by rfl) (by rfl) (by rfl) (by simp  only [go_sem, ↓reduceIte, Nat.reduceEqDiff, reduceCtorEq, Nat.reduceAdd, Nat.reduceMul, Nat.reduceLeDiff, lenOwn]; exact rfl) ?_ | fail)
  refine awOps_nil (hK _ _ ?_)
  clear hK K
  refine aw_cond (by rfl) ?_ ?_
  · intro hc0
    try simp only [decide_eq_true_eq, decide_eq_false_iff_not] at hc0
    have hi2 : i < t.length := by omega
    have hi3 : i < (mixV (· + by_) t i).length := by rw [mixV_len]; exact hi2
    have hge := mixV_get (g := (· + by_)) hi2
    have hvi := hv t[i] (List.getElem_mem hi2)
    refine aw_skip ?_
    simp only [thenA_normal, thenA_ret, thenA_exit, blockA_normal, blockA_ret, blockA_exit, ↓reduceIte, Nat.reduceEqDiff]
    refine aw_seq ?_
    refine aw_block ?_
    refine aw_region_seq C (pb := false) rfl fun K hK => ?_
    repeat' (first | refine awOps_yes (by rfl) (by rfl) (by rfl) (by simp  only [go_sem, ↓reduceIte, Nat.reduceEqDiff, reduceCtorEq, Nat.reduceAdd, Nat.reduceMul, Nat.reduceLeDiff, ixC hi2, ldK hs1.o hi3, hge, Nat.add_zero]; exact rfl) ?_ | refine awOps_no (by rfl) (by rfl) ?_ | refine awOps_yes0 (by rfl) (by rfl) (by rfl) (by simp  only [go_sem, ↓reduceIte, Nat.reduceEqDiff, reduceCtorEq, Nat.reduceAdd, Nat.reduceMul, Nat.reduceLeDiff, ixC hi2, ldK hs1.o hi3, hge, Nat.add_zero]; exact rfl) ?_ | fail)
    refine awOps_nil (hK _ _ ?_)
    clear hK K
    refine aw_cond (by rfl) ?_ ?_
    · intro hc1
      try simp only [beq_iff_eq, beq_eq_false_iff_ne, ne_eq] at hc1
      refine aw_region C (pb := false) rfl ?_
      repeat' (first | refine awOps_yes (by rfl) (by rfl) (by rfl) (by simp  only [go_sem, ↓reduceIte, Nat.reduceEqDiff, reduceCtorEq, Nat.reduceAdd, Nat.reduceMul, Nat.reduceLeDiff, ixC hi2, ldN3 hs1.o hi3, hge, stCell hs1.o hi3, Nat.add_zero, wrap_small (t[i].n + by_) (by have := hvi hc1; omega) (by have := hvi hc1; omega)]; exact rfl) ?_ | refine awOps_no (by rfl) (by rfl) ?_ | refine awOps_yes0 (by rfl) (by rfl) (by rfl) (by simp  only [go_sem, ↓reduceIte, Nat.reduceEqDiff, reduceCtorEq, Nat.reduceAdd, Nat.reduceMul, Nat.reduceLeDiff, ixC hi2, ldN3 hs1.o hi3, hge, stCell hs1.o hi3, Nat.add_zero, wrap_small (t[i].n + by_) (by have := hvi hc1; omega) (by have := hvi hc1; omega)]; exact rfl) ?_ | fail)
      refine awOps_nil ?_
      try simp only [thenA_normal, thenA_ret, thenA_exit, blockA_normal, blockA_ret, blockA_exit]
      refine aw_region C (pb := false) rfl ?_
      repeat' (first | refine awOps_yes (by rfl) (by rfl) (by rfl) (by simp  only [go_sem, ↓reduceIte, Nat.reduceEqDiff, reduceCtorEq, Nat.reduceAdd, Nat.reduceMul, Nat.reduceLeDiff, wrap_small ((i : Int) + 1) (by omega) (by omega)]; exact rfl) ?_ | refine awOps_no (by rfl) (by rfl) ?_ | refine awOps_yes0 (by rfl) (by rfl) (by rfl) (by simp  only [go_sem, ↓reduceIte, Nat.reduceEqDiff, reduceCtorEq, Nat.reduceAdd, Nat.reduceMul, Nat.reduceLeDiff, wrap_small ((i : Int) + 1) (by omega) (by omega)]; exact rfl) ?_ | fail)
      refine awOps_nil ?_
      try simp only [thenA_normal, thenA_ret, thenA_exit, blockA_normal, blockA_ret, blockA_exit]
      -- end of round 0 at 0t1t
      refine ⟨t.length - (i + 1), [(1, vI by_), (5, .av (.own oid 0 t.length 3)), (6, vI (i + 1))], by omega, AllIn.less ⟨rfl, rfl, rfl, trivial⟩, i + 1, rfl, rfl, ?_, ?_⟩
      · exact hs1.set hi2 hc1 (by first | omega | (dsimp only; omega) | (dsimp only at *; omega)) (by rw [mapC, if_pos hc1])
      · omega
    · intro hc1
      try simp only [beq_iff_eq, beq_eq_false_iff_ne, ne_eq] at hc1
      refine aw_skip ?_
      simp only [thenA_normal, thenA_ret, thenA_exit, blockA_normal, blockA_ret, blockA_exit, ↓reduceIte, Nat.reduceEqDiff]
      refine aw_region C (pb := false) rfl ?_
      repeat' (first | refine awOps_yes (by rfl) (by rfl) (by rfl) (by simp  only [go_sem, ↓reduceIte, Nat.reduceEqDiff, reduceCtorEq, Nat.reduceAdd, Nat.reduceMul, Nat.reduceLeDiff, wrap_small ((i : Int) + 1) (by omega) (by omega)]; exact rfl) ?_ | refine awOps_no (by rfl) (by rfl) ?_ | refine awOps_yes0 (by rfl) (by rfl) (by rfl) (by simp  only [go_sem, ↓reduceIte, Nat.reduceEqDiff, reduceCtorEq, Nat.reduceAdd, Nat.reduceMul, Nat.reduceLeDiff, wrap_small ((i : Int) + 1) (by omega) (by omega)]; exact rfl) ?_ | fail)
      refine awOps_nil ?_
      try simp only [thenA_normal, thenA_ret, thenA_exit, blockA_normal, blockA_ret, blockA_exit]
      -- end of round 0 at 0t1f
      refine ⟨t.length - (i + 1), [(1, vI by_), (5, .av (.own oid 0 t.length 3)), (6, vI (i + 1))], by omega, AllIn.less ⟨rfl, rfl, rfl, trivial⟩, i + 1, rfl, rfl, ?_, ?_⟩
      · exact hs1.keep hi2 hc1 (by first | omega | (dsimp only; omega) | (dsimp only at *; omega))
      · omega
  · intro hc0
    try simp only [decide_eq_true_eq, decide_eq_false_iff_not] at hc0
    refine aw_exit ?_
    simp only [thenA_normal, thenA_ret, thenA_exit, blockA_normal, blockA_ret, blockA_exit, ↓reduceIte, Nat.reduceEqDiff]
    refine aw_seq ?_
    have hin : i = t.length := by omega
    have hpl := celC_pure (hs1.fin hin)
    rw [List.length_map] at hpl
    refine aw_pur 5 hpl ?_
    obtain ⟨t', ht'⟩ : ∃ u, u = t.map (mapC (· + by_)) := ⟨_, rfl⟩
    have hl' : t'.length = t.length := by rw [ht', List.length_map]
    have hsh : shiftG t by_ = if rightOk t' then t' else [] := by rw [shiftG, ht']
    have hn' : ∀ c ∈ t', c.name.size ≤ 1152921504606846976 := by
      intro c hc
      rw [ht'] at hc
      obtain ⟨d, hd, rfl⟩ := List.mem_map.1 hc
      rw [show (mapC (· + by_) d).name = d.name by unfold mapC; split <;> rfl]
      exact hn d hd
    rw [← ht']
    refine aw_region_seq C (pb := false) rfl fun K hK => ?_
    repeat' (first | refine awOps_yes (by rfl) (by rfl) (by rfl) (by simp  only [go_sem, ↓reduceIte, Nat.reduceEqDiff, reduceCtorEq, Nat.reduceAdd, Nat.reduceMul, Nat.reduceLeDiff]; exact rfl) ?_ | refine awOps_no (by rfl) (by rfl) ?_ | refine awOps_yes0 (by rfl) (by rfl) (by rfl) (by simp  only [go_sem, ↓reduceIte, Nat.reduceEqDiff, reduceCtorEq, Nat.reduceAdd, Nat.reduceMul, Nat.reduceLeDiff]; exact rfl) ?_ | fail)
    (refine awOps_call (by rfl) (by rfl) (by rfl) (And.intro Try.call32 (fn32 L t' _ _ (gslC t') (by omega) hn')) ?_; rintro _ _ ⟨rfl, rfl⟩)
    repeat' (first | refine awOps_yes (by rfl) (by rfl) (by rfl) (by simp  only [go_sem, ↓reduceIte, Nat.reduceEqDiff, reduceCtorEq, Nat.reduceAdd, Nat.reduceMul, Nat.reduceLeDiff]; exact rfl) ?_ | refine awOps_no (by rfl) (by rfl) ?_ | refine awOps_yes0 (by rfl) (by rfl) (by rfl) (by simp  only [go_sem, ↓reduceIte, Nat.reduceEqDiff, reduceCtorEq, Nat.reduceAdd, Nat.reduceMul, Nat.reduceLeDiff]; exact rfl) ?_ | fail)
    refine awOps_nil (hK _ _ ?_)
    clear hK K
    refine aw_cond (by rfl) ?_ ?_
    · intro hc2
      try simp only [Bool.not_eq_true', Bool.not_eq_false'] at hc2
      refine aw_region_seq C (pb := false) rfl fun K hK => ?_
      repeat' (first | refine awOps_yes (by rfl) (by rfl) (by rfl) (by simp  only [go_sem, ↓reduceIte, Nat.reduceEqDiff, reduceCtorEq, Nat.reduceAdd, Nat.reduceMul, Nat.reduceLeDiff]; exact rfl) ?_ | refine awOps_no (by rfl) (by rfl) ?_ | refine awOps_yes0 (by rfl) (by rfl) (by rfl) (by simp  only [go_sem, ↓reduceIte, Nat.reduceEqDiff, reduceCtorEq, Nat.reduceAdd, Nat.reduceMul, Nat.reduceLeDiff]; exact rfl) ?_ | fail)
      refine awOps_nil (hK _ _ ?_)
      clear hK K
      refine aw_ret ?_
      try simp only [thenA_normal, thenA_ret, thenA_exit, blockA_normal, blockA_ret, blockA_exit]
      simp only [go_sem, ↓reduceIte, Nat.reduceEqDiff, reduceCtorEq, Nat.reduceAdd, Nat.reduceMul, Nat.reduceLeDiff, FnQ, resA]
      -- 0f.x02t.ret
      refine fun _ => ⟨by first | rfl | trivial, fun j hj => (upd_ne _ _ (by have := hs1.lo; omega)).trans (hs1.kp.2.1 j hj), hs1.kp.2.2, .nilsl, rfl, .inl ⟨rfl, ?_⟩⟩
      rw [hsh, hc2]; rfl
    · intro hc2
      try simp only [Bool.not_eq_true', Bool.not_eq_false'] at hc2
      refine aw_skip ?_
      simp only [thenA_normal, thenA_ret, thenA_exit, blockA_normal, blockA_ret, blockA_exit, ↓reduceIte, Nat.reduceEqDiff]
      refine aw_region_seq C (pb := false) rfl fun K hK => ?_
      repeat' (first | refine awOps_yes (by rfl) (by rfl) (by rfl) (by simp  only [go_sem, ↓reduceIte, Nat.reduceEqDiff, reduceCtorEq, Nat.reduceAdd, Nat.reduceMul, Nat.reduceLeDiff]; exact rfl) ?_ | refine awOps_no (by rfl) (by rfl) ?_ | refine awOps_yes0 (by rfl) (by rfl) (by rfl) (by simp  only [go_sem, ↓reduceIte, Nat.reduceEqDiff, reduceCtorEq, Nat.reduceAdd, Nat.reduceMul, Nat.reduceLeDiff]; exact rfl) ?_ | fail)
      refine awOps_nil (hK _ _ ?_)
      clear hK K
      refine aw_ret ?_
      simp only [go_sem, ↓reduceIte, Nat.reduceEqDiff, reduceCtorEq, Nat.reduceAdd, Nat.reduceMul, Nat.reduceLeDiff, FnQ, resA]
      -- 0f.x02f.ret
      refine fun _ => ⟨by first | rfl | trivial, fun j hj => (upd_ne _ _ (by have := hs1.lo; omega)).trans (hs1.kp.2.1 j hj), hs1.kp.2.2, .sl t'.length (t'.flatMap encC), by first | rfl | trivial, by rw [hsh, hc2, if_pos rfl]; exact gslC t'⟩
end Go.Am.Seat
/-
  THE PLAIN LAW of variants and of matching.
-/
namespace Go.Am.Seat
/-! ### Numbering -/
theorem contains_map {g : Int → Int} {l : List Int} {n : Int} (hg : ∀ a ∈ l, g a = g n → a = n) : (l.map g).contains (g n) = l.contains n := by
  rw [Bool.eq_iff_iff, List.contains_iff_mem, List.contains_iff_mem]
  constructor
  · intro h
    obtain ⟨a, h1, h2⟩ := List.mem_map.1 h
    rw [← hg a h1 h2]; exact h1
  · exact fun h => List.mem_map_of_mem h
theorem varsG_map {g : Int → Int} {S : Int → Prop} (hg : ∀ a b, S a → S b → g a = g b → a = b) : ∀ {l : List Cell} {out : List Int}, (∀ c ∈ l, c.kind = 1 → S c.n) → (∀ n ∈ out, S n) → varsG (l.map (mapC g)) (out.map g) = (varsG l out).map g
  | [], out, _, _ => rfl
  | c :: l, out, hl, ho => by
    rw [List.map_cons, varsG, varsG]
    by_cases hk : c.kind = 1
    · have e1 : mapC g c = ⟨c.kind, c.name, g c.n⟩ := by rw [mapC, if_pos hk]
      have hc := hl c (by simp) hk
      rw [e1]
      dsimp only
      rw [contains_map fun a ha h => hg a c.n (ho a ha) hc h, hk]
      by_cases hm : out.contains c.n = true
      · rw [hm]
        simp only [beq_self_eq_true, Bool.not_true, Bool.and_false, Bool.false_eq_true, if_false]
        exact varsG_map hg (fun d hd => hl d (by simp [hd])) ho
      · rw [Bool.not_eq_true] at hm
        rw [hm]
        simp only [beq_self_eq_true, Bool.not_false, Bool.and_true, if_true]
        rw [show out.map g ++ [g c.n] = (out ++ [c.n]).map g by simp]
        refine varsG_map hg (fun d hd => hl d (by simp [hd])) fun n hn => ?_
        rcases List.mem_append.1 hn with h | h
        · exact ho n h
        · rw [List.mem_singleton.1 h]; exact hc
    · have e1 : mapC g c = c := by rw [mapC, if_neg hk]
      have e2 : (c.kind == 1) = false := by simpa using hk
      rw [e1, e2]
      simp only [Bool.false_and, Bool.false_eq_true, if_false]
      exact varsG_map hg (fun d hd => hl d (by simp [hd])) ho
theorem varsG_mem {c : Cell} : ∀ {l : List Cell} {out : List Int}, (c ∈ l ∧ c.kind = 1) ∨ c.n ∈ out → c.n ∈ varsG l out
  | [], out, h => by simpa [varsG] using h
  | d :: l, out, h => by
    rw [varsG]
    refine varsG_mem ?_
    rcases h with ⟨h1, h2⟩ | h
    · rcases List.mem_cons.1 h1 with rfl | h1
      · right
        rw [h2]
        by_cases hm : out.contains c.n = true
        · rw [hm]; simpa using hm
        · rw [Bool.not_eq_true] at hm
          rw [hm]; simp
      · exact .inl ⟨h1, h2⟩
    · right
      split
      · exact List.mem_append_left _ h
      · exact h
theorem varsG_nodup : ∀ {l : List Cell} {out : List Int}, out.Nodup → (varsG l out).Nodup
  | [], out, h => h
  | c :: l, out, h => by
    rw [varsG]
    refine varsG_nodup ?_
    split
    · rename_i hc
      simp only [Bool.and_eq_true, Bool.not_eq_true'] at hc
      refine List.nodup_append.2 ⟨h, by simp, fun a ha b hb => ?_⟩
      rw [List.mem_singleton.1 hb]
      rintro rfl
      have := hc.2
      rw [← Bool.not_eq_true, List.contains_iff_mem] at this
      exact this ha
    · exact h
theorem placeI_map {g : Int → Int} {n : Int} : ∀ {l : List Int} {i : Nat}, (∀ a ∈ l, g a = g n → a = n) → placeI (l.map g) (g n) i = placeI l n i
  | [], i, _ => rfl
  | a :: l, i, h => by
    rw [List.map_cons]
    simp only [placeI]
    by_cases ha : a = n
    · subst ha; simp
    · have : g a ≠ g n := fun e => ha (h a (by simp) e)
      have e1 : (g a == g n) = false := by simpa using this
      have e2 : (a == n) = false := by simpa using ha
      rw [e1, e2]
      exact placeI_map fun a ha => h a (by simp [ha])
theorem numG_ren {g : Int → Int} {t : List Cell} (hg : ∀ c ∈ t, ∀ d ∈ t, c.kind = 1 → d.kind = 1 → g c.n = g d.n → c.n = d.n) : numG (t.map (mapC g)) = numG t := by
  have hS : varsG (t.map (mapC g)) [] = (varsG t []).map g := by
    refine varsG_map (S := fun n => ∃ c ∈ t, c.kind = 1 ∧ c.n = n) ?_ (fun c hc hk => ⟨c, hc, hk, rfl⟩) (out := []) (by simp)
    rintro _ _ ⟨c, hc, hk, rfl⟩ ⟨d, hd, hk', rfl⟩ h
    exact hg c hc d hd hk hk' h
  unfold numG
  rw [hS, List.map_map]
  refine List.map_congr_left fun c hc => ?_
  simp only [Function.comp]
  by_cases hk : c.kind = 1
  · have e1 : mapC g c = ⟨c.kind, c.name, g c.n⟩ := by rw [mapC, if_pos hk]
    rw [e1, mapC, if_pos hk, mapC, if_pos hk]
    dsimp only
    rw [placeI_map]
    intro n hn h
    rcases varsG_kind hn with h1 | ⟨d, h1, h2, h3⟩
    · simp at h1
    · rw [← h3] at h ⊢
      exact hg d h1 c hc h2 hk h
  · rw [mapC, mapC, if_neg hk, mapC, if_neg hk, if_neg hk]
theorem placeI_get {n : Int} : ∀ {l : List Int} {i : Nat}, n ∈ l → ∃ j : Nat, placeI l n i = ((i + j : Nat) : Int) ∧ l[j]? = some n
  | [], i, h => by simp at h
  | a :: l, i, h => by
    rw [placeI]
    by_cases ha : a = n
    · subst ha
      exact ⟨0, by simp, by simp⟩
    · have e2 : (a == n) = false := by simpa using ha
      rw [e2]
      rcases List.mem_cons.1 h with h | h
      · exact absurd h.symm ha
      · obtain ⟨j, h1, h2⟩ := placeI_get (i := i + 1) h
        exact ⟨j + 1, by simp only [Bool.false_eq_true, if_false]; rw [h1]; omega, by simpa using h2⟩
theorem placeI_inj {l : List Int} {n m : Int} (hn : n ∈ l) (hm : m ∈ l) (h : placeI l n 0 = placeI l m 0) : n = m := by
  obtain ⟨j, h1, h2⟩ := placeI_get (i := 0) hn
  obtain ⟨k, h3, h4⟩ := placeI_get (i := 0) hm
  have : j = k := by omega
  subst this
  rw [h2] at h4
  exact Option.some.inj h4
theorem numG_idem (t : List Cell) : numG (numG t) = numG t := by
  refine numG_ren fun c hc d hd hk hk' h => placeI_inj (varsG_mem (.inl ⟨hc, hk⟩)) (varsG_mem (.inl ⟨hd, hk'⟩)) h
theorem numG_shift (t : List Cell) (k : Int) : numG (t.map (mapC (· + k))) = numG t := numG_ren fun c hc d hd hk hk' h => by
  have : c.n + k = d.n + k := h
  omega
/-- Alike but for numbers: one is the other one with its variables renamed. -/
theorem numG_eq {a b : List Cell} (h : numG a = numG b) : ∃ g : Int → Int, b = a.map (mapC g) ∧ ∀ c ∈ a, ∀ d ∈ a, c.kind = 1 → d.kind = 1 → g c.n = g d.n → c.n = d.n := by
  have hl : a.length = b.length := by
    have := congrArg List.length h
    rwa [numG, numG, List.length_map, List.length_map] at this
  have hi : ∀ i (h1 : i < a.length) (h2 : i < b.length), mapC (fun n => placeI (varsG a []) n 0) a[i] = mapC (fun n => placeI (varsG b []) n 0) b[i] := by
    intro i h1 h2
    have := congrArg (fun l : List Cell => l[i]?) h
    simpa [numG, List.getElem?_eq_getElem h1, List.getElem?_eq_getElem h2] using this
  have hk : ∀ (f : Int → Int) (c : Cell), (mapC f c).kind = c.kind ∧ (mapC f c).name = c.name := by
    intro f c; unfold mapC; split <;> exact ⟨rfl, rfl⟩
  have hv : ∀ i (h1 : i < a.length) (h2 : i < b.length), a[i].kind = 1 → placeI (varsG a []) a[i].n 0 = placeI (varsG b []) b[i].n 0 := by
    intro i h1 h2 hk1
    have e := hi i h1 h2
    have hk2 : b[i].kind = 1 := by rw [← (hk _ b[i]).1, ← e, (hk _ a[i]).1, hk1]
    rw [mapC, if_pos hk1, mapC, if_pos hk2] at e
    exact congrArg Cell.n e
  refine ⟨fun n => (varsG b []).getD (placeI (varsG a []) n 0).toNat 0, ?_, ?_⟩
  · refine List.ext_getElem (by rw [List.length_map, hl]) fun i h2 h1' => ?_
    have h1 : i < a.length := by rw [hl]; exact h2
    rw [List.getElem_map]
    have e := hi i h1 h2
    by_cases hk1 : a[i].kind = 1
    · have hk2 : b[i].kind = 1 := by rw [← (hk _ b[i]).1, ← e, (hk _ a[i]).1, hk1]
      obtain ⟨j, h3, h4⟩ := placeI_get (i := 0) (varsG_mem (out := []) (.inl ⟨List.getElem_mem h2, hk2⟩))
      rw [mapC, if_pos hk1, hv i h1 h2 hk1, h3]
      have hnm : b[i].name = a[i].name := by rw [← (hk _ b[i]).2, ← e, (hk _ a[i]).2]
      rw [Nat.zero_add, Int.toNat_natCast, List.getD_eq_getElem?_getD, h4, Option.getD_some, ← hnm, hk1, ← hk2]
    · have hk2 : ¬ b[i].kind = 1 := by rw [← (hk (fun n => placeI (varsG b []) n 0) b[i]).1, ← e, (hk _ a[i]).1]; exact hk1
      rw [mapC, if_neg hk1, mapC, if_neg hk2] at e
      rw [mapC, if_neg hk1, e]
  · intro c hc d hd hk1 hk2 h
    obtain ⟨i, h1, rfl⟩ := List.getElem_of_mem hc
    obtain ⟨j, h2, rfl⟩ := List.getElem_of_mem hd
    have h1' : i < b.length := by omega
    have h2' : j < b.length := by omega
    have k1 : b[i].kind = 1 := by rw [← (hk (fun n => placeI (varsG b []) n 0) b[i]).1, ← hi i h1 h1', (hk _ a[i]).1, hk1]
    have k2 : b[j].kind = 1 := by rw [← (hk (fun n => placeI (varsG b []) n 0) b[j]).1, ← hi j h2 h2', (hk _ a[j]).1, hk2]
    obtain ⟨x, h3, h4⟩ := placeI_get (i := 0) (varsG_mem (out := []) (.inl ⟨List.getElem_mem h1', k1⟩))
    obtain ⟨y, h5, h6⟩ := placeI_get (i := 0) (varsG_mem (out := []) (.inl ⟨List.getElem_mem h2', k2⟩))
    dsimp only at h
    rw [hv i h1 h1' hk1, hv j h2 h2' hk2, h3, h5, Nat.zero_add, Nat.zero_add, Int.toNat_natCast, Int.toNat_natCast, List.getD_eq_getElem?_getD, List.getD_eq_getElem?_getD, h4, h6, Option.getD_some, Option.getD_some] at h
    refine placeI_inj (varsG_mem (out := []) (.inl ⟨List.getElem_mem h1, hk1⟩)) (varsG_mem (out := []) (.inl ⟨List.getElem_mem h2, hk2⟩)) ?_
    rw [hv i h1 h1' hk1, hv j h2 h2' hk2, h]
end Go.Am.Seat
/-
  THE PLAIN LAW of matching.
-/
namespace Go.Am.Seat
/-- A term that stands in another one. -/
structure TermOf (b t : List Cell) : Prop where
  tk : takes t 1 = some t.length
  pos : 1 ≤ t.length
  len : t.length ≤ b.length
  mem : ∀ c ∈ t, c ∈ b
def appL (M : Int → Option (List Cell)) (t : List Cell) : List Cell := t.flatMap fun c => if c.kind = 1 then (M c.n).getD [c] else [c]
theorem appL_cons (M : Int → Option (List Cell)) (c : Cell) (l : List Cell) : appL M (c :: l) = (if c.kind = 1 then (M c.n).getD [c] else [c]) ++ appL M l := by simp [appL]
theorem takes_take : ∀ {l : List Cell} {n e : Nat}, takes l n = some e → takes (l.take e) n = some e
  | l, 0, e, h => by rw [takes_zero h]; cases l <;> rfl
  | [], n + 1, e, h => (takes_nil (by omega) h).elim
  | c :: l, n + 1, e, h => by
    obtain ⟨p, rfl, h1⟩ := takes_cons (by omega) h
    simp only [Nat.add_sub_cancel] at h1
    rw [List.take_succ_cons, takes, takes_take h1]
    rfl
theorem slice_take {b : List Cell} {k e : Nat} : (b.take (k + e)).drop k = (b.drop k).take e := by
  rw [List.drop_take, Nat.add_sub_cancel_left]
theorem termOf_slice {b : List Cell} {k e : Nat} (h : takes (b.drop k) 1 = some e) : TermOf b ((b.take (k + e)).drop k) := by
  have hle := takes_le h
  have hl : ((b.drop k).take e).length = e := by rw [List.length_take]; omega
  rw [List.length_drop] at hle
  rw [slice_take]
  refine ⟨by rw [hl]; exact takes_take h, ?_, by rw [hl]; omega, fun c hc => List.mem_of_mem_drop (List.mem_of_mem_take hc)⟩
  rw [hl]
  rcases Nat.eq_zero_or_pos e with h0 | h0
  · subst h0; exact absurd h (takes_pos0 _)
  · exact h0
theorem matG_sound {b : List Cell} : ∀ {l : List Cell} {k : Nat} {M M' : Int → Option (List Cell)}, matG b l k M = some M' → (∀ n t, M n = some t → TermOf b t) →
    (∀ n t, M n = some t → M' n = some t) ∧ (∀ n t, M' n = some t → TermOf b t) ∧ (∀ c ∈ l, c.kind = 1 → (M' c.n).isSome) ∧ ∃ e, e ≤ b.length - k ∧ appL M' l = (b.drop k).take e
  | [], k, M, M', h, hM => by
    simp only [matG, Option.some.injEq] at h
    subst h
    exact ⟨fun _ _ h => h, hM, fun c hc => by simp at hc, 0, Nat.zero_le _, by simp [appL]⟩
  | c :: l, k, M, M', h, hM => by
    rw [matG] at h
    split at h
    · cases h
    rename_i d hd
    obtain ⟨hk, hdk⟩ := List.getElem?_eq_some_iff.1 hd
    split at h
    · rename_i hk1
      split at h
      · cases h
      rename_i e he
      have hT := termOf_slice he
      have hle := takes_le he
      rw [List.length_drop] at hle
      have key : (∀ t, M c.n = some t → t = (b.take (k + e)).drop k) → matG b l (k + e) (updI M c.n ((b.take (k + e)).drop k)) = some M' → (∀ n t, M n = some t → M' n = some t) ∧ (∀ n t, M' n = some t → TermOf b t) ∧ (∀ d ∈ c :: l, d.kind = 1 → (M' d.n).isSome) ∧ ∃ e, e ≤ b.length - k ∧ appL M' (c :: l) = (b.drop k).take e := by
        intro h0 h
        obtain ⟨h1, h2, h3, e2, h4, h5⟩ := matG_sound h fun n t hn => by
          unfold updI at hn
          split at hn
          · cases hn; exact hT
          · exact hM n t hn
        have hc : M' c.n = some ((b.take (k + e)).drop k) := h1 c.n _ (by simp [updI])
        refine ⟨fun n t hn => h1 n t ?_, h2, fun d hd hk => ?_, e + e2, by omega, ?_⟩
        · unfold updI
          split
          · rename_i hnc
            subst hnc
            rw [h0 t hn]
          · exact hn
        · rcases List.mem_cons.1 hd with rfl | hd
          · rw [hc]; rfl
          · exact h3 d hd hk
        · rw [appL_cons, if_pos hk1, hc, Option.getD_some, h5, slice_take, List.take_add, List.drop_drop]
      split at h
      · rename_i u hu
        split at h
        · rename_i hs
          exact key (fun t ht => by rw [hu] at ht; cases ht; exact sameL_iff.1 hs) h
        · cases h
      · rename_i hu
        exact key (fun t ht => by rw [hu] at ht; cases ht) h
    · rename_i hk1
      split at h
      · rename_i hs
        obtain ⟨h1, h2, h3, e2, h4, h5⟩ := matG_sound h hM
        refine ⟨h1, h2, fun d hd hk => ?_, 1 + e2, by omega, ?_⟩
        · rcases List.mem_cons.1 hd with rfl | hd
          · exact absurd hk hk1
          · exact h3 d hd hk
        · rw [appL_cons, if_neg hk1, h5, List.take_add, List.drop_drop, List.drop_eq_getElem_cons hk, cellEq_iff.1 hs, hdk]
          rfl
      · cases h
theorem sortI_perm (l : List Int) : (sortI l).Perm l := List.mergeSort_perm _ _
theorem sortI_le (l : List Int) : (sortI l).Pairwise (· ≤ ·) := by
  have := List.pairwise_mergeSort (le := fun x y : Int => decide (x ≤ y)) (fun a b c h1 h2 => by simp only [decide_eq_true_eq] at *; omega) (fun a b => by simp only [Bool.or_eq_true, decide_eq_true_eq]; omega) l
  exact this.imp fun h => by simpa using h
theorem sortI_lt {l : List Int} (h : l.Nodup) : (sortI l).Pairwise (· < ·) := by
  have h1 := sortI_le l
  have h2 : (sortI l).Nodup := (sortI_perm l).nodup_iff.2 h
  exact (List.pairwise_and_iff.2 ⟨h1, h2⟩).imp fun ⟨h3, h4⟩ => by omega
theorem outG_mem {M : Int → Option (List Cell)} {p : Int × List Cell} : ∀ {l : List Int}, p ∈ outG M l → p.1 ∈ l ∧ M p.1 = some p.2 ∧ headV p.2 p.1 = false
  | [], h => by simp [outG] at h
  | n :: l, h => by
    rw [outG] at h
    split at h
    · rename_i t ht
      split at h
      · obtain ⟨h1, h2⟩ := outG_mem h
        exact ⟨by simp [h1], h2⟩
      · rename_i hv
        rcases List.mem_cons.1 h with rfl | h
        · exact ⟨by simp, ht, by simpa using hv⟩
        · obtain ⟨h1, h2⟩ := outG_mem h
          exact ⟨by simp [h1], h2⟩
    · obtain ⟨h1, h2⟩ := outG_mem h
      exact ⟨by simp [h1], h2⟩
theorem outG_lt {M : Int → Option (List Cell)} : ∀ {l : List Int}, l.Pairwise (· < ·) → (outG M l).Pairwise fun a b => a.1 < b.1
  | [], h => by simp [outG]
  | n :: l, h => by
    obtain ⟨h1, h2⟩ := List.pairwise_cons.1 h
    rw [outG]
    split
    · split
      · exact outG_lt h2
      · exact List.pairwise_cons.2 ⟨fun p hp => h1 _ (outG_mem hp).1, outG_lt h2⟩
    · exact outG_lt h2
theorem headV_false {t : List Cell} {n : Int} (h : headV t n = false) (hl : 0 < t.length) : ¬ (t.length = 1 ∧ t[0].kind = 1 ∧ t[0].n = n) := by
  cases t with
  | nil => simp at hl
  | cons c t =>
    rintro ⟨_, h1, h2⟩
    simp only [List.getElem_cons_zero] at h1 h2
    simp [headV, h1, h2] at h
theorem matR_some {a b : List Cell} {out : List (Int × List Cell)} (h : matR a b = some out) : ∃ M, matG b a 0 (fun _ => none) = some M ∧ out = outG M (sortI (varsG a [])) := by
  unfold matR at h
  obtain ⟨M, h1, h2⟩ := Option.map_eq_some_iff.1 h
  exact ⟨M, h1, h2.symm⟩
theorem matR_right {a b : List Cell} (ha : RTm a) (hb : RTm b) {out : List (Int × List Cell)} (h : matR a b = some out) : RightB out := by
  obtain ⟨M, hM, rfl⟩ := matR_some h
  obtain ⟨_, h2, h3, _⟩ := matG_sound hM fun n t h => by cases h
  refine ⟨fun p hp => ?_, outG_lt (sortI_lt (varsG_nodup (by simp)))⟩
  obtain ⟨p1, p2, p3⟩ := outG_mem hp
  have ht := h2 _ _ p2
  have hlen := hb.len
  have htl := ht.len
  have htp := ht.pos
  rcases varsG_kind (sortI_mem p1) with h | ⟨c, hc, hk, hn⟩
  · simp at h
  · have hv := (ok_var (ha.ok c hc) hk).2
    rw [hn] at hv
    exact ⟨hv.1, hv.2, ht.pos, by omega, fun c hc => hb.ok c (ht.mem c hc), ht.tk, fun hl => headV_false p3 hl⟩
/-- One of which each variable is turned into another one is matched. -/
theorem matG_ren {g : Int → Int} : ∀ {l : List Cell} {pre : List Cell} {M : Int → Option (List Cell)}, (∀ c ∈ l, c.kind = 1 → c.name = .empty) → (∀ n t, M n = some t → t = [⟨1, .empty, g n⟩]) → ∃ M', matG (pre ++ l.map (mapC g)) l pre.length M = some M'
  | [], pre, M, _, _ => ⟨M, rfl⟩
  | c :: l, pre, M, hl, hM => by
    have e0 : (pre ++ (c :: l).map (mapC g))[pre.length]? = some (mapC g c) := by simp
    have e1 : (pre ++ (c :: l).map (mapC g)).drop pre.length = mapC g c :: l.map (mapC g) := by simp
    have e2 : pre ++ (c :: l).map (mapC g) = (pre ++ [mapC g c]) ++ l.map (mapC g) := by simp
    have e3 : (pre ++ [mapC g c]).length = pre.length + 1 := by simp
    rw [matG, e0]
    dsimp only
    split
    · rename_i hk
      have ec : mapC g c = ⟨1, .empty, g c.n⟩ := by rw [mapC, if_pos hk, hk, hl c (by simp) hk]
      have et : takes ((pre ++ (c :: l).map (mapC g)).drop pre.length) 1 = some 1 := by
        rw [e1, ec]
        simp [takes, arC]
      have es : (((pre ++ (c :: l).map (mapC g)).take (pre.length + 1)).drop pre.length) = [⟨1, .empty, g c.n⟩] := by
        rw [slice_take, e1, ec]
        rfl
      rw [et]
      dsimp only
      rw [es]
      have hgo : ∃ M', matG (pre ++ (c :: l).map (mapC g)) l (pre.length + 1) (updI M c.n [⟨1, .empty, g c.n⟩]) = some M' := by
        rw [e2, ← e3]
        refine matG_ren (fun d hd => hl d (by simp [hd])) fun n t h => ?_
        unfold updI at h
        split at h
        · rename_i hn; cases h; rw [hn]
        · exact hM n t h
      split
      · rename_i u hu
        rw [hM _ _ hu, sameL_iff.2 rfl, if_pos rfl]
        exact hgo
      · exact hgo
    · rename_i hk
      have ec : mapC g c = c := by rw [mapC, if_neg hk]
      rw [ec, cellEq_iff.2 rfl, if_pos rfl]
      have := matG_ren (g := g) (l := l) (pre := pre ++ [mapC g c]) (M := M) (fun d hd => hl d (by simp [hd])) hM
      rw [e3, ec] at this
      rw [show pre ++ (c :: l).map (mapC g) = (pre ++ [c]) ++ l.map (mapC g) by rw [e2, ec]]
      exact this
theorem takes_appL {M : Int → Option (List Cell)} (hM : ∀ n t, M n = some t → takes t 1 = some t.length) : ∀ {l : List Cell} {n : Nat}, takes l n = some l.length → takes (appL M l) n = some (appL M l).length
  | [], n, h => by simpa [appL] using h
  | c :: l, n, h => by
    have hn : 0 < n := by
      rcases Nat.eq_zero_or_pos n with h0 | h0
      · subst h0; have := takes_zero h; simp at this
      · exact h0
    obtain ⟨p, hp, h1⟩ := takes_cons hn h
    simp only [List.length_cons] at hp
    obtain rfl : l.length = p := by omega
    have ih := takes_appL hM h1
    have hcell : takes (c :: appL M l) n = some (c :: appL M l).length := by
      obtain ⟨n, rfl⟩ : ∃ p, n = p + 1 := ⟨n - 1, by omega⟩
      simp only [Nat.add_sub_cancel] at ih
      rw [takes, ih]; simp
    rw [appL_cons]
    split
    · rename_i hk
      cases hc : M c.n with
      | none => exact hcell
      | some t =>
        have ha : arC c = 0 := by unfold arC; rw [if_neg (by omega)]
        rw [ha, Nat.add_zero] at ih
        have := takes_cat (hM _ _ hc) ih
        rw [show 1 + (n - 1) = n by omega] at this
        exact this
    · exact hcell
theorem appL_len {M : Int → Option (List Cell)} (hM : ∀ n t, M n = some t → 1 ≤ t.length) : ∀ (l : List Cell), l.length ≤ (appL M l).length
  | [] => by simp
  | c :: l => by
    have ih := appL_len hM l
    rw [appL_cons, List.length_append, List.length_cons]
    split
    · cases hc : M c.n with
      | none => simp only [Option.getD_none, List.length_cons, List.length_nil]; omega
      | some t => have := hM _ _ hc; simp only [Option.getD_some]; omega
    · simp only [List.length_cons, List.length_nil]; omega
def hd1 (M : Int → Option (List Cell)) (n : Int) : Cell := ((M n).getD []).headD ⟨1, .empty, n⟩
theorem appL_one {M : Int → Option (List Cell)} (hM : ∀ n t, M n = some t → 1 ≤ t.length) : ∀ {l : List Cell}, (∀ c ∈ l, c.kind = 1 → (M c.n).isSome) → (appL M l).length ≤ l.length → appL M l = l.map fun c => if c.kind = 1 then hd1 M c.n else c
  | [], _, _ => rfl
  | c :: l, hs, hl => by
    have ih := appL_len hM l
    rw [appL_cons, List.length_append, List.length_cons] at hl
    rw [appL_cons, List.map_cons]
    by_cases hk : c.kind = 1
    · rw [if_pos hk] at hl ⊢
      rw [if_pos hk]
      obtain ⟨t, ht⟩ := Option.isSome_iff_exists.1 (hs c (by simp) hk)
      have := hM _ _ ht
      rw [ht, Option.getD_some] at hl ⊢
      have h1 : t.length = 1 := by omega
      obtain ⟨x, rfl⟩ := List.length_eq_one_iff.1 h1
      rw [appL_one hM (fun d hd => hs d (by simp [hd])) (by simp only [List.length_cons, List.length_nil] at hl; omega)]
      simp [hd1, ht]
    · rw [if_neg hk] at hl ⊢
      rw [if_neg hk, appL_one hM (fun d hd => hs d (by simp [hd])) (by simp only [List.length_cons, List.length_nil] at hl; omega)]
      rfl
/-- What is matched is made of the first one. -/
theorem matR_app {a b : List Cell} (ha : RTm a) (hb : RTm b) {M : Int → Option (List Cell)} (h : matG b a 0 (fun _ => none) = some M) : appL M a = b := by
  obtain ⟨_, h2, h3, e, h4, h5⟩ := matG_sound h fun n t h => by cases h
  rw [List.drop_zero] at h5
  have h6 := takes_appL (fun n t h => (h2 n t h).tk) ha.tk
  rw [h5] at h6
  have h7 := takes_app (r := b.drop e) h6
  rw [List.take_append_drop, hb.tk] at h7
  have h8 := Option.some.inj h7
  rw [h5]
  rw [List.length_take] at h8
  exact List.take_of_length_le (by omega)
theorem variant_match {a b : List Cell} (ha : RTm a) (hb : RTm b) : sameL (numG a) (numG b) = ((matR a b).isSome && (matR b a).isSome) := by
  have one : ∀ {a b : List Cell}, RTm a → RTm b → numG a = numG b → (matR a b).isSome = true := by
    intro a b ha hb h
    obtain ⟨g, h1, _⟩ := numG_eq h
    obtain ⟨M', h2⟩ := matG_ren (g := g) (l := a) (pre := []) (M := fun _ => none) (fun c hc hk => (ok_var (ha.ok c hc) hk).1) (fun n t h => by cases h)
    rw [List.nil_append, ← h1] at h2
    unfold matR
    rw [show ([] : List Cell).length = 0 from rfl] at h2
    rw [h2]; rfl
  rw [Bool.eq_iff_iff, sameL_iff, Bool.and_eq_true]
  constructor
  · exact fun h => ⟨one ha hb h, one hb ha h.symm⟩
  · rintro ⟨h1, h2⟩
    obtain ⟨o1, h1⟩ := Option.isSome_iff_exists.1 h1
    obtain ⟨o2, h2⟩ := Option.isSome_iff_exists.1 h2
    obtain ⟨M, hM, _⟩ := matR_some h1
    obtain ⟨N, hN, _⟩ := matR_some h2
    have eM := matR_app ha hb hM
    have eN := matR_app hb ha hN
    obtain ⟨_, m2, m3, _⟩ := matG_sound hM fun n t h => by cases h
    obtain ⟨_, n2, n3, _⟩ := matG_sound hN fun n t h => by cases h
    have l1 := appL_len (fun n t h => (m2 n t h).pos) a
    have l2 := appL_len (fun n t h => (n2 n t h).pos) b
    rw [eM] at l1
    rw [eN] at l2
    have f1 := appL_one (fun n t h => (m2 n t h).pos) m3 (by rw [eM]; exact l2)
    have f2 := appL_one (fun n t h => (n2 n t h).pos) n3 (by rw [eN]; exact l1)
    rw [eM] at f1
    rw [eN] at f2
    have hl : a.length = b.length := by omega
    have g1 : ∀ i (h1 : i < a.length) (h2 : i < b.length), b[i] = if a[i].kind = 1 then hd1 M a[i].n else a[i] := by
      intro i h1 h2
      have := congrArg (fun l : List Cell => l[i]?) f1
      simpa [List.getElem?_eq_getElem h1, List.getElem?_eq_getElem h2] using this
    have g2 : ∀ i (h1 : i < a.length) (h2 : i < b.length), a[i] = if b[i].kind = 1 then hd1 N b[i].n else b[i] := by
      intro i h1 h2
      have := congrArg (fun l : List Cell => l[i]?) f2
      simpa [List.getElem?_eq_getElem h1, List.getElem?_eq_getElem h2] using this
    have hv : ∀ i (h1 : i < a.length) (h2 : i < b.length), a[i].kind = 1 → b[i].kind = 1 ∧ b[i] = ⟨1, .empty, (hd1 M a[i].n).n⟩ := by
      intro i h1 h2 hk
      have e1 := g1 i h1 h2
      rw [if_pos hk] at e1
      have hkb : b[i].kind = 1 := by
        by_cases h : b[i].kind = 1
        · exact h
        · have e2 := g2 i h1 h2
          rw [if_neg h] at e2
          rw [e2] at hk; exact absurd hk h
      refine ⟨hkb, ?_⟩
      have hn := (ok_var (hb.ok _ (List.getElem_mem h2)) hkb).1
      have : b[i] = ⟨b[i].kind, b[i].name, b[i].n⟩ := rfl
      rw [this, hkb, hn, e1]
    have hb' : b = a.map (mapC fun n => (hd1 M n).n) := by
      refine List.ext_getElem (by rw [List.length_map, hl]) fun i h2 h1' => ?_
      have h1 : i < a.length := by rw [hl]; exact h2
      rw [List.getElem_map]
      by_cases hk : a[i].kind = 1
      · rw [(hv i h1 h2 hk).2, mapC, if_pos hk, hk, (ok_var (ha.ok _ (List.getElem_mem h1)) hk).1]
      · rw [mapC, if_neg hk, g1 i h1 h2, if_neg hk]
    rw [hb']
    refine (numG_ren fun c hc d hd hk1 hk2 h => ?_).symm
    obtain ⟨i, h1, rfl⟩ := List.getElem_of_mem hc
    obtain ⟨j, h2, rfl⟩ := List.getElem_of_mem hd
    have h1' : i < b.length := by omega
    have h2' : j < b.length := by omega
    have e1 := hv i h1 h1' hk1
    have e2 := hv j h2 h2' hk2
    have e3 := g2 i h1 h1'
    have e4 := g2 j h2 h2'
    rw [if_pos e1.1, e1.2] at e3
    rw [if_pos e2.1, e2.2] at e4
    dsimp only at h e3 e4
    rw [e3, e4, h]
theorem sameL_comm (a b : List Cell) : sameL a b = sameL b a := by
  rw [Bool.eq_iff_iff, sameL_iff, sameL_iff]
  exact ⟨Eq.symm, Eq.symm⟩
end Go.Am.Seat
/-
  MADE BY PROGRAM (am.py): the walks of functions 9.
-/
namespace Go.Am.Seat
open Go.Proofs

theorem fnVar (L : Loops) {a b : List Cell} {v : Bool} (hv : sameL (numG a) (numG b) = v) (s : Me) (x y : Sc) (hx : GSl encC x a) (hy : GSl encC y b) (ha : 1 ≤ a.length ∧ a.length ≤ 200) (hb : 1 ≤ b.length ∧ b.length ≤ 200) : FnL Try.prog L 18 [.av (.sc x), .av (.sc y)] s fun r s' => r = vB v ∧ s' = s :=
  (fn18 L a b s x y hx hy (by omega) (by omega)).mono fun r s' h => ⟨h.1.trans (congrArg vB hv), h.2⟩
theorem fnMat (L : Loops) {a b : List Cell} (ha : RTm a) (hb : RTm b) (s : Me) (x y : Sc) (hx : GSl encC x a) (hy : GSl encC y b) : FnL Try.prog L 15 [.av (.sc x), .av (.sc y)] s fun r s' => (∃ z, r = .tup [.av (.sc z), vB (matR a b).isSome] ∧ GSl encB z (((matR a b).getD []).map bndI)) ∧ s' = s := by
  have a2 := ha.len
  have b2 := hb.len
  refine (fn15 L a b _ s x y hx hy (by omega) hb.tok rfl fun o ho => matR_right ha hb ho).mono fun r s' ⟨⟨z, o, h1, h2, h3⟩, h4⟩ => ⟨⟨z, h1, ?_⟩, h4⟩
  rw [h3] at h2
  exact h2
theorem numG_len (t : List Cell) : (numG t).length = t.length := by rw [numG, List.length_map]

-- many steps
theorem bod9 : Try.f9.body = some (Try.f9.body.getD .skip) := rfl
set_option maxHeartbeats 2000000 in
set_option maxRecDepth 20000 in
theorem fn9 (L : Loops) (a b : List Cell) (k : Int) (s : Me) (sa sb : Sc) (ha : GSl encC sa a) (hb : GSl encC sb b) (hla : a.length ≤ 281474976710656) (hlb : b.length ≤ 281474976710656) (hna : ∀ c ∈ a, c.name.size ≤ 1152921504606846976) (hnb : ∀ c ∈ b, c.name.size ≤ 1152921504606846976) (hk : 0 ≤ k ∧ k ≤ 255) : FnL Try.prog L 9 [.av (.sc sa), .av (.sc sb), .av (.sc (.int .u8 k))] s fun r s' => (r = vB true) ∧ s' = s := by
  refine FnL.pure (R := fun r => r = vB true) ?_
  refine fn_of_body (ts := [6]) Try.func9 bod9 rfl (by simp) (by simp [Try.ntmps9]) fun D0 => ?_
  unfold Try.f9
  simp only [Option.getD_some, initSl]
  refine aw_region_seq C (pb := false) rfl fun K hK => ?_
  repeat' (first | refine awOps_yes (by rfl) (by rfl) (by rfl) (by simp  only [go_sem, ↓reduceIte, Nat.reduceEqDiff, reduceCtorEq, Nat.reduceAdd, Nat.reduceMul, Nat.reduceLeDiff, aLoad, aStore]; exact rfl) ?_ | refine awOps_no (by rfl) (by rfl) ?_ | refine awOps_yes0 (by rfl) (by rfl) (by rfl) (by simp  only [go_sem, ↓reduceIte, Nat.reduceEqDiff, reduceCtorEq, Nat.reduceAdd, Nat.reduceMul, Nat.reduceLeDiff, aLoad, aStore]; exact rfl) ?_ | fail)
  refine awOps_nil (hK _ _ ?_)
  clear hK K
  refine aw_region_seq C (pb := false) rfl fun K hK => ?_
  (refine awOps_call (by rfl) (by rfl) (by rfl) (And.intro Try.call11 (fn11 L _)) ?_; rintro _ _ ⟨rfl, rfl⟩)
  repeat' (first | refine awOps_yes (by rfl) (by rfl) (by rfl) (by simp  only [go_sem, ↓reduceIte, Nat.reduceEqDiff, reduceCtorEq, Nat.reduceAdd, Nat.reduceMul, Nat.reduceLeDiff, aLoad, aStore]; exact rfl) ?_ | refine awOps_no (by rfl) (by rfl) ?_ | refine awOps_yes0 (by rfl) (by rfl) (by rfl) (by simp  only [go_sem, ↓reduceIte, Nat.reduceEqDiff, reduceCtorEq, Nat.reduceAdd, Nat.reduceMul, Nat.reduceLeDiff, aLoad, aStore]; exact rfl) ?_ | fail)
  refine awOps_nil (hK _ _ ?_)
  clear hK K
  refine aw_region_seq C (pb := false) rfl fun K hK => ?_
  repeat' (first | refine awOps_yes (by rfl) (by rfl) (by rfl) (by simp  only [go_sem, ↓reduceIte, Nat.reduceEqDiff, reduceCtorEq, Nat.reduceAdd, Nat.reduceMul, Nat.reduceLeDiff, aLoad, aStore]; exact rfl) ?_ | refine awOps_no (by rfl) (by rfl) ?_ | refine awOps_yes0 (by rfl) (by rfl) (by rfl) (by simp  only [go_sem, ↓reduceIte, Nat.reduceEqDiff, reduceCtorEq, Nat.reduceAdd, Nat.reduceMul, Nat.reduceLeDiff, aLoad, aStore]; exact rfl) ?_ | fail)
  refine awOps_call (by rfl) (by rfl) (by rfl) (And.intro Try.call12 (fn12 L a 30 _ sa ha hla hna (by decide))) ?_
  rintro _ _ ⟨⟨ya, t, rfl, hya, hra, hta⟩, rfl⟩
  repeat' (first | refine awOps_yes (by rfl) (by rfl) (by rfl) (by simp  only [go_sem, ↓reduceIte, Nat.reduceEqDiff, reduceCtorEq, Nat.reduceAdd, Nat.reduceMul, Nat.reduceLeDiff, aLoad, aStore]; exact rfl) ?_ | refine awOps_no (by rfl) (by rfl) ?_ | refine awOps_yes0 (by rfl) (by rfl) (by rfl) (by simp  only [go_sem, ↓reduceIte, Nat.reduceEqDiff, reduceCtorEq, Nat.reduceAdd, Nat.reduceMul, Nat.reduceLeDiff, aLoad, aStore]; exact rfl) ?_ | fail)
  refine awOps_nil (hK _ _ ?_)
  clear hK K
  refine aw_region_seq C (pb := false) rfl fun K hK => ?_
  repeat' (first | refine awOps_yes (by rfl) (by rfl) (by rfl) (by simp  only [go_sem, ↓reduceIte, Nat.reduceEqDiff, reduceCtorEq, Nat.reduceAdd, Nat.reduceMul, Nat.reduceLeDiff, aLoad, aStore]; exact rfl) ?_ | refine awOps_no (by rfl) (by rfl) ?_ | refine awOps_yes0 (by rfl) (by rfl) (by rfl) (by simp  only [go_sem, ↓reduceIte, Nat.reduceEqDiff, reduceCtorEq, Nat.reduceAdd, Nat.reduceMul, Nat.reduceLeDiff, aLoad, aStore]; exact rfl) ?_ | fail)
  refine awOps_call (by rfl) (by rfl) (by rfl) (And.intro Try.call12 (fn12 L b 30 _ sb hb hlb hnb (by decide))) ?_
  rintro _ _ ⟨⟨yb, u, rfl, hyb, hrb, htb⟩, rfl⟩
  repeat' (first | refine awOps_yes (by rfl) (by rfl) (by rfl) (by simp  only [go_sem, ↓reduceIte, Nat.reduceEqDiff, reduceCtorEq, Nat.reduceAdd, Nat.reduceMul, Nat.reduceLeDiff, aLoad, aStore]; exact rfl) ?_ | refine awOps_no (by rfl) (by rfl) ?_ | refine awOps_yes0 (by rfl) (by rfl) (by rfl) (by simp  only [go_sem, ↓reduceIte, Nat.reduceEqDiff, reduceCtorEq, Nat.reduceAdd, Nat.reduceMul, Nat.reduceLeDiff, aLoad, aStore]; exact rfl) ?_ | fail)
  refine awOps_nil (hK _ _ ?_)
  refine AW.less (sl' := [(0, .av (.sc ya)), (1, .av (.sc yb)), (2, .av (.sc (.int .u8 k))), (7, vB true)]) (AllIn.less ⟨rfl, rfl, rfl, rfl, trivial⟩) ?_
  clear hK K
  have rt := right_tm hra
  have ru := right_tm hrb
  have t1 := rt.pos
  have u1 := ru.pos
  refine aw_region_seq C (pb := false) rfl fun K hK => ?_
  repeat' (first | refine awOps_yes (by rfl) (by rfl) (by rfl) (by simp  only [go_sem, ↓reduceIte, Nat.reduceEqDiff, reduceCtorEq, Nat.reduceAdd, Nat.reduceMul, Nat.reduceLeDiff, aLoad, aStore, wrap_small k (by omega) (by omega)]; exact rfl) ?_ | refine awOps_no (by rfl) (by rfl) ?_ | refine awOps_yes0 (by rfl) (by rfl) (by rfl) (by simp  only [go_sem, ↓reduceIte, Nat.reduceEqDiff, reduceCtorEq, Nat.reduceAdd, Nat.reduceMul, Nat.reduceLeDiff, aLoad, aStore, wrap_small k (by omega) (by omega)]; exact rfl) ?_ | fail)
  refine awOps_call (by rfl) (by rfl) (by rfl) (And.intro Try.call29 (fn29 L t k _ ya hya (by omega) (fun c hc => by have := name_size (rt.ok c hc); omega) (fun c hc h1 => by have := (ok_var (rt.ok c hc) h1).2; omega) (by omega))) ?_
  rintro _ _ ⟨⟨xs, rfl, hxs⟩, rfl⟩
  repeat' (first | refine awOps_yes (by rfl) (by rfl) (by rfl) (by simp  only [go_sem, ↓reduceIte, Nat.reduceEqDiff, reduceCtorEq, Nat.reduceAdd, Nat.reduceMul, Nat.reduceLeDiff, aLoad, aStore, wrap_small k (by omega) (by omega)]; exact rfl) ?_ | refine awOps_no (by rfl) (by rfl) ?_ | refine awOps_yes0 (by rfl) (by rfl) (by rfl) (by simp  only [go_sem, ↓reduceIte, Nat.reduceEqDiff, reduceCtorEq, Nat.reduceAdd, Nat.reduceMul, Nat.reduceLeDiff, aLoad, aStore, wrap_small k (by omega) (by omega)]; exact rfl) ?_ | fail)
  (refine awOps_call (by rfl) (by rfl) (by rfl) (And.intro Try.call30 (fn30 L u _ yb hyb (by omega))) ?_; rintro _ _ ⟨rfl, rfl⟩)
  repeat' (first | refine awOps_yes (by rfl) (by rfl) (by rfl) (by simp  only [go_sem, ↓reduceIte, Nat.reduceEqDiff, reduceCtorEq, Nat.reduceAdd, Nat.reduceMul, Nat.reduceLeDiff, aLoad, aStore, wrap_small k (by omega) (by omega)]; exact rfl) ?_ | refine awOps_no (by rfl) (by rfl) ?_ | refine awOps_yes0 (by rfl) (by rfl) (by rfl) (by simp  only [go_sem, ↓reduceIte, Nat.reduceEqDiff, reduceCtorEq, Nat.reduceAdd, Nat.reduceMul, Nat.reduceLeDiff, aLoad, aStore, wrap_small k (by omega) (by omega)]; exact rfl) ?_ | fail)
  refine awOps_nil (hK _ _ ?_)
  refine AW.less (sl' := [(0, .av (.sc ya)), (1, .av (.sc yb)), (7, vB true), (8, .av (.sc xs)), (9, vC (numG u))]) (AllIn.less ⟨rfl, rfl, rfl, rfl, rfl, trivial⟩) ?_
  clear hK K
  obtain ⟨v, hv⟩ : ∃ v, v = sameL (numG t) (numG u) := ⟨_, rfl⟩
  refine aw_region_seq C (pb := false) rfl fun K hK => ?_
  repeat' (first | refine awOps_yes (by rfl) (by rfl) (by rfl) (by simp  only [go_sem, ↓reduceIte, Nat.reduceEqDiff, reduceCtorEq, Nat.reduceAdd, Nat.reduceMul, Nat.reduceLeDiff, aLoad, aStore]; exact rfl) ?_ | refine awOps_no (by rfl) (by rfl) ?_ | refine awOps_yes0 (by rfl) (by rfl) (by rfl) (by simp  only [go_sem, ↓reduceIte, Nat.reduceEqDiff, reduceCtorEq, Nat.reduceAdd, Nat.reduceMul, Nat.reduceLeDiff, aLoad, aStore]; exact rfl) ?_ | fail)
  (refine awOps_call (by rfl) (by rfl) (by rfl) (And.intro Try.call18 (fnVar L hv.symm _ ya yb hya hyb (by omega) (by omega))) ?_; rintro _ _ ⟨rfl, rfl⟩)
  repeat' (first | refine awOps_yes (by rfl) (by rfl) (by rfl) (by simp  only [go_sem, ↓reduceIte, Nat.reduceEqDiff, reduceCtorEq, Nat.reduceAdd, Nat.reduceMul, Nat.reduceLeDiff, aLoad, aStore]; exact rfl) ?_ | refine awOps_no (by rfl) (by rfl) ?_ | refine awOps_yes0 (by rfl) (by rfl) (by rfl) (by simp  only [go_sem, ↓reduceIte, Nat.reduceEqDiff, reduceCtorEq, Nat.reduceAdd, Nat.reduceMul, Nat.reduceLeDiff, aLoad, aStore]; exact rfl) ?_ | fail)
  refine awOps_nil (hK _ _ ?_)
  refine AW.less (sl' := [(0, .av (.sc ya)), (1, .av (.sc yb)), (7, vB true), (8, .av (.sc xs)), (9, vC (numG u)), (10, vB v)]) (AllIn.less ⟨rfl, rfl, rfl, rfl, rfl, rfl, trivial⟩) ?_
  clear hK K
  refine aw_region_seq C (pb := false) rfl fun K hK => ?_
  repeat' (first | refine awOps_yes (by rfl) (by rfl) (by rfl) (by simp  only [go_sem, ↓reduceIte, Nat.reduceEqDiff, reduceCtorEq, Nat.reduceAdd, Nat.reduceMul, Nat.reduceLeDiff, aLoad, aStore]; exact rfl) ?_ | refine awOps_no (by rfl) (by rfl) ?_ | refine awOps_yes0 (by rfl) (by rfl) (by rfl) (by simp  only [go_sem, ↓reduceIte, Nat.reduceEqDiff, reduceCtorEq, Nat.reduceAdd, Nat.reduceMul, Nat.reduceLeDiff, aLoad, aStore]; exact rfl) ?_ | fail)
  refine awOps_call (by rfl) (by rfl) (by rfl) (And.intro Try.call15 (fnMat L rt ru _ ya yb hya hyb)) ?_
  rintro _ _ ⟨⟨z1, rfl, hz1⟩, rfl⟩
  repeat' (first | refine awOps_yes (by rfl) (by rfl) (by rfl) (by simp  only [go_sem, ↓reduceIte, Nat.reduceEqDiff, reduceCtorEq, Nat.reduceAdd, Nat.reduceMul, Nat.reduceLeDiff, aLoad, aStore]; exact rfl) ?_ | refine awOps_no (by rfl) (by rfl) ?_ | refine awOps_yes0 (by rfl) (by rfl) (by rfl) (by simp  only [go_sem, ↓reduceIte, Nat.reduceEqDiff, reduceCtorEq, Nat.reduceAdd, Nat.reduceMul, Nat.reduceLeDiff, aLoad, aStore]; exact rfl) ?_ | fail)
  refine awOps_nil (hK _ _ ?_)
  refine AW.less (sl' := [(0, .av (.sc ya)), (1, .av (.sc yb)), (7, vB true), (8, .av (.sc xs)), (9, vC (numG u)), (10, vB v), (12, vB (matR t u).isSome)]) (AllIn.less ⟨rfl, rfl, rfl, rfl, rfl, rfl, rfl, trivial⟩) ?_
  clear hK K
  refine aw_region_seq C (pb := false) rfl fun K hK => ?_
  repeat' (first | refine awOps_yes (by rfl) (by rfl) (by rfl) (by simp  only [go_sem, ↓reduceIte, Nat.reduceEqDiff, reduceCtorEq, Nat.reduceAdd, Nat.reduceMul, Nat.reduceLeDiff, aLoad, aStore]; exact rfl) ?_ | refine awOps_no (by rfl) (by rfl) ?_ | refine awOps_yes0 (by rfl) (by rfl) (by rfl) (by simp  only [go_sem, ↓reduceIte, Nat.reduceEqDiff, reduceCtorEq, Nat.reduceAdd, Nat.reduceMul, Nat.reduceLeDiff, aLoad, aStore]; exact rfl) ?_ | fail)
  refine awOps_call (by rfl) (by rfl) (by rfl) (And.intro Try.call15 (fnMat L ru rt _ yb ya hyb hya)) ?_
  rintro _ _ ⟨⟨z2, rfl, hz2⟩, rfl⟩
  repeat' (first | refine awOps_yes (by rfl) (by rfl) (by rfl) (by simp  only [go_sem, ↓reduceIte, Nat.reduceEqDiff, reduceCtorEq, Nat.reduceAdd, Nat.reduceMul, Nat.reduceLeDiff, aLoad, aStore]; exact rfl) ?_ | refine awOps_no (by rfl) (by rfl) ?_ | refine awOps_yes0 (by rfl) (by rfl) (by rfl) (by simp  only [go_sem, ↓reduceIte, Nat.reduceEqDiff, reduceCtorEq, Nat.reduceAdd, Nat.reduceMul, Nat.reduceLeDiff, aLoad, aStore]; exact rfl) ?_ | fail)
  refine awOps_nil (hK _ _ ?_)
  refine AW.less (sl' := [(0, .av (.sc ya)), (1, .av (.sc yb)), (7, vB true), (8, .av (.sc xs)), (9, vC (numG u)), (10, vB v), (12, vB (matR t u).isSome), (14, vB (matR u t).isSome)]) (AllIn.less ⟨rfl, rfl, rfl, rfl, rfl, rfl, rfl, rfl, trivial⟩) ?_
  clear hK K
  refine aw_seq ?_
  refine aw_cut_seq C (pb := false) [(0, .av (.sc ya)), (1, .av (.sc yb)), (7, vB true), (9, vC (numG u)), (10, vB v), (12, vB (matR t u).isSome), (14, vB (matR u t).isSome), (49, vB false)] rfl ?_ fun n8 hn8 => ?_
  · by_cases hsr : rightOk (t.map (mapC (· + k))) = true
    · have hsg : shiftG t k = t.map (mapC (· + k)) := by rw [shiftG, if_pos hsr]
      have hgt : decide (((shiftG t k).length : Int) > 0) = true := decide_eq_true (by rw [hsg, List.length_map]; omega)
      repeat' (first | refine awOps_yes (by rfl) (by rfl) (by rfl) (by simp only [go_sem, ↓reduceIte, Nat.reduceEqDiff, reduceCtorEq, Nat.reduceAdd, Nat.reduceMul, Nat.reduceLeDiff, aLoad, aStore, lenC hxs, hgt]; exact rfl) ?_ | refine awOps_no (by rfl) (by rfl) ?_ | fail)
      refine awOps_call (by rfl) (by rfl) (by rfl) (And.intro Try.call18 (fnVar L (v := true) (by rw [hsg, numG_shift]; exact sameL_iff.2 rfl) _ ya xs hya hxs (by omega) (by rw [hsg, List.length_map]; omega))) ?_
      rintro _ _ ⟨rfl, rfl⟩
      repeat' (first | refine awOps_yes (by rfl) (by rfl) (by rfl) (by simp only [go_sem, ↓reduceIte, Nat.reduceEqDiff, reduceCtorEq, Nat.reduceAdd, Nat.reduceMul, Nat.reduceLeDiff, aLoad, aStore, lenC hxs, hgt]; exact rfl) ?_ | refine awOps_no (by rfl) (by rfl) ?_ | fail)
      exact awOps_nil ⟨⟨rfl, rfl, rfl, rfl, rfl, rfl, rfl, rfl, trivial⟩, rfl, (by first | omega | (dsimp only; omega) | (dsimp only at *; omega)), rfl⟩
    · have hsg : shiftG t k = [] := by rw [shiftG, if_neg hsr]
      have hgt : decide (((shiftG t k).length : Int) > 0) = false := decide_eq_false (by rw [hsg]; simp)
      repeat' (first | refine awOps_yes (by rfl) (by rfl) (by rfl) (by simp only [go_sem, ↓reduceIte, Nat.reduceEqDiff, reduceCtorEq, Nat.reduceAdd, Nat.reduceMul, Nat.reduceLeDiff, aLoad, aStore, lenC hxs, hgt]; exact rfl) ?_ | refine awOps_no (by rfl) (by rfl) ?_ | fail)
      exact awOps_nil ⟨⟨rfl, rfl, rfl, rfl, rfl, rfl, rfl, rfl, trivial⟩, rfl, (by first | omega | (dsimp only; omega) | (dsimp only at *; omega)), rfl⟩
  refine aw_cond (by rfl) ?_ ?_
  · intro hc0
    cases hc0
  · intro hc0
    refine aw_skip ?_
    simp only [thenA_normal, thenA_ret, thenA_exit, blockA_normal, blockA_ret, blockA_exit, ↓reduceIte, Nat.reduceEqDiff]
    have h2 : sameL (numG u) (numG (numG u)) = true := by rw [numG_idem]; exact sameL_iff.2 rfl
    have h3 : sameL (numG u) (numG t) = v := by rw [sameL_comm, hv]
    have h4 : sameL (numG t) (numG (numG u)) = v := by rw [numG_idem, hv]
    have h5 : v = ((matR t u).isSome && (matR u t).isSome) := by rw [hv, variant_match rt ru]
    have hul := numG_len u
    obtain ⟨p, hp⟩ : ∃ p, p = (matR t u).isSome := ⟨_, rfl⟩
    obtain ⟨q, hq⟩ : ∃ q, q = (matR u t).isSome := ⟨_, rfl⟩
    rw [← hp, ← hq] at h5 ⊢
    clear hp hq hv
    refine aw_cut_seq C (pb := false) [(6, vB true)] rfl ?_ fun n10 hn10 => ?_
    · subst h5; cases p <;> cases q
      all_goals (repeat' (first | refine awOps_yes (by rfl) (by rfl) (by rfl) (by simp  only [go_sem, ↓reduceIte, Nat.reduceEqDiff, reduceCtorEq, Nat.reduceAdd, Nat.reduceMul, Nat.reduceLeDiff, aLoad, aStore, true_and]; exact rfl) ?_ | refine awOps_no (by rfl) (by rfl) ?_ | refine awOps_yes0 (by rfl) (by rfl) (by rfl) (by simp  only [go_sem, ↓reduceIte, Nat.reduceEqDiff, reduceCtorEq, Nat.reduceAdd, Nat.reduceMul, Nat.reduceLeDiff, aLoad, aStore, true_and]; exact rfl) ?_ | fail))
      all_goals ((refine awOps_call (by rfl) (by rfl) (by rfl) (And.intro Try.call18 (fnVar L (sameL_iff.2 rfl) _ ya ya hya hya (by omega) (by omega))) ?_; rintro _ _ ⟨rfl, rfl⟩))
      all_goals (repeat' (first | refine awOps_yes (by rfl) (by rfl) (by rfl) (by simp  only [go_sem, ↓reduceIte, Nat.reduceEqDiff, reduceCtorEq, Nat.reduceAdd, Nat.reduceMul, Nat.reduceLeDiff, aLoad, aStore, true_and]; exact rfl) ?_ | refine awOps_no (by rfl) (by rfl) ?_ | refine awOps_yes0 (by rfl) (by rfl) (by rfl) (by simp  only [go_sem, ↓reduceIte, Nat.reduceEqDiff, reduceCtorEq, Nat.reduceAdd, Nat.reduceMul, Nat.reduceLeDiff, aLoad, aStore, true_and]; exact rfl) ?_ | fail))
      all_goals (try (first | (refine awOps_call (by rfl) (by rfl) (by rfl) (And.intro Try.call18 (fnVar L h2 _ yb _ hyb (gslC _) (by omega) (by omega))) ?_; rintro _ _ ⟨rfl, rfl⟩) | refine awOps_no (by rfl) (by rfl) ?_ | fail))
      all_goals (repeat' (first | refine awOps_yes (by rfl) (by rfl) (by rfl) (by simp  only [go_sem, ↓reduceIte, Nat.reduceEqDiff, reduceCtorEq, Nat.reduceAdd, Nat.reduceMul, Nat.reduceLeDiff, aLoad, aStore, true_and]; exact rfl) ?_ | refine awOps_no (by rfl) (by rfl) ?_ | refine awOps_yes0 (by rfl) (by rfl) (by rfl) (by simp  only [go_sem, ↓reduceIte, Nat.reduceEqDiff, reduceCtorEq, Nat.reduceAdd, Nat.reduceMul, Nat.reduceLeDiff, aLoad, aStore, true_and]; exact rfl) ?_ | fail))
      all_goals (try (first | (refine awOps_call (by rfl) (by rfl) (by rfl) (And.intro Try.call18 (fnVar L h3 _ yb ya hyb hya (by omega) (by omega))) ?_; rintro _ _ ⟨rfl, rfl⟩) | refine awOps_no (by rfl) (by rfl) ?_ | fail))
      all_goals (repeat' (first | refine awOps_yes (by rfl) (by rfl) (by rfl) (by simp  only [go_sem, ↓reduceIte, Nat.reduceEqDiff, reduceCtorEq, Nat.reduceAdd, Nat.reduceMul, Nat.reduceLeDiff, aLoad, aStore, true_and]; exact rfl) ?_ | refine awOps_no (by rfl) (by rfl) ?_ | refine awOps_yes0 (by rfl) (by rfl) (by rfl) (by simp  only [go_sem, ↓reduceIte, Nat.reduceEqDiff, reduceCtorEq, Nat.reduceAdd, Nat.reduceMul, Nat.reduceLeDiff, aLoad, aStore, true_and]; exact rfl) ?_ | fail))
      all_goals (try (first | (refine awOps_call (by rfl) (by rfl) (by rfl) (And.intro Try.call18 (fnVar L h4 _ ya _ hya (gslC _) (by omega) (by omega))) ?_; rintro _ _ ⟨rfl, rfl⟩) | refine awOps_no (by rfl) (by rfl) ?_ | fail))
      all_goals (repeat' (first | refine awOps_yes (by rfl) (by rfl) (by rfl) (by simp  only [go_sem, ↓reduceIte, Nat.reduceEqDiff, reduceCtorEq, Nat.reduceAdd, Nat.reduceMul, Nat.reduceLeDiff, aLoad, aStore, true_and]; exact rfl) ?_ | refine awOps_no (by rfl) (by rfl) ?_ | refine awOps_yes0 (by rfl) (by rfl) (by rfl) (by simp  only [go_sem, ↓reduceIte, Nat.reduceEqDiff, reduceCtorEq, Nat.reduceAdd, Nat.reduceMul, Nat.reduceLeDiff, aLoad, aStore, true_and]; exact rfl) ?_ | fail))
      all_goals (exact awOps_nil ⟨⟨by first | rfl | simp [get], trivial⟩, rfl, (by first | omega | (dsimp only; omega)), rfl⟩)
    refine aw_ret ?_
    simp only [go_sem, ↓reduceIte, Nat.reduceEqDiff, reduceCtorEq, Nat.reduceAdd, Nat.reduceMul, Nat.reduceLeDiff, aLoad, aStore, FnQ, resA]
    -- 0f.ret
    exact fun _ => ⟨by first | rfl | trivial, by first | exact fun _ _ => rfl | trivial, by first | rfl | trivial, by first | rfl | trivial⟩
end Go.Am.Seat
/-
  UnifyVariants: for every input the law returns true, and each argument reads as it read: the row, out of the walk's contract (fn9) and the plain law.
-/
namespace Go.Proofs.Yticnfndhinjbbaa.unifyVariants
open Go.ChangeShapes Go.WideShapes Go.ChangeAt Go.RowKit Go.Am Go.Am.Seat
theorem own : ownKnob Try.prog.godebug = none := by kernel_rfl
theorem laidOut : laidOutB Try.prog = true := by kernel_rfl
set_option maxRecDepth 100000 in
theorem lifted (os : Os) (started : os.Started) (H : Type) (enc : TypeId × Value → H) :
    ReturnsInHanded {} Try.checked os 9 .any (Rows.unifyVariantsSpec.pre6 enc Try.prog Try.f9 Rows.unifyVariantsRow.domain false) (Rows.unifyVariantsSpec.post enc Try.prog Try.f9 false true false false) := by
  refine returnsInHanded_of_change_sized (C := Try.checked) own started (by kernel_rfl) Try.func9
    (ChangeSpec.witness6 (enc := enc) (C := Try.checked) false ⟨#[], #[.slice none 0 0, .slice none 0 0, .int .u8 0], []⟩ 8 (by kernel_rfl) (by kernel_rfl) (by kernel_rfl) (by kernel_rfl)) ?_
  intro W base args ds gs before hval0 hW hcnd hsz0 _
  have hsz : (DataW.weightsEach Try.prog (Try.f9.params.toList ++ Rows.unifyVariantsSpec.plain.varTypes Try.prog) (ds ++ gs)).all (· ≤ reachBytes) = true := hsz0
  have hval : ∀ (j : Nat) t v, Try.f9.params[j]? = some t → args[j]? = some v → Value.okWide Try.prog W .any base t v := hval0
  have hW' := hW
  obtain ⟨p, q, hA0, hV, rfl, hfz, hnd⟩ := hW
  have hA : DataW.TrodAll enc Try.prog W 0 (fun _ => true) true Try.f9.params.toList args.toList ds p := hA0
  rw [Try.params9] at hA hval hsz
  obtain ⟨v0, vs0, d0, ds0, p0, q0, hargs, rfl, rfl, h0, r0⟩ := trodAll_cons hA
  obtain ⟨v1, vs1, d1, ds1, p1, q1, rfl, rfl, rfl, h1, r1⟩ := trodAll_cons r0
  obtain ⟨v2, vs2, d2, ds2, p2, q2, rfl, rfl, rfl, h2, r2⟩ := trodAll_cons r1
  obtain ⟨rfl, rfl, rfl⟩ := trodAll_nil r2
  obtain rfl : args = #[v0, v1, v2] := by cases args; simp_all
  obtain ⟨rfl, rfl⟩ := trodVars_none hV
  obtain ⟨a0, len0, cap0, rfl⟩ := okWide_slice Try.underlying22 (hval 0 22 v0 rfl rfl)
  have k0 := h0
  have lt0 : ∀ x ∈ p0, x.block < W.heap.size := by obtain ⟨m, hm⟩ := k0; exact DataW.trod_lt m _ _ _ hm
  obtain ⟨l0, ⟨⟨sc0, hsr0, hg0⟩, hl0, hn0⟩⟩ : ∃ l, ReadsC W (.slice a0 len0 cap0) l := by
    obtain ⟨fuel, hf⟩ := h0
    obtain ⟨v, l, hcs, hr⟩ := open_cells hf fun n hn => by
      have := List.all_eq_true.1 hsz n (DataW.weights_mem_each (j := 0) (t := 22) rfl rfl n hn)
      simpa using this
    simp only [Value.cells, List.cons.injEq, and_true] at hcs
    subst hcs
    exact ⟨l, hr⟩
  obtain ⟨a1, len1, cap1, rfl⟩ := okWide_slice Try.underlying22 (hval 1 22 v1 rfl rfl)
  have k1 := h1
  have lt1 : ∀ x ∈ p1, x.block < W.heap.size := by obtain ⟨m, hm⟩ := k1; exact DataW.trod_lt m _ _ _ hm
  obtain ⟨l1, ⟨⟨sc1, hsr1, hg1⟩, hl1, hn1⟩⟩ : ∃ l, ReadsC W (.slice a1 len1 cap1) l := by
    obtain ⟨fuel, hf⟩ := h1
    obtain ⟨v, l, hcs, hr⟩ := open_cells hf fun n hn => by
      have := List.all_eq_true.1 hsz n (DataW.weights_mem_each (j := 1) (t := 22) rfl rfl n hn)
      simpa using this
    simp only [Value.cells, List.cons.injEq, and_true] at hcs
    subst hcs
    exact ⟨l, hr⟩
  obtain ⟨a2, rfl, rfl, rfl, w2⟩ := open_int Try.underlying5 (hval 2 5 v2 rfl rfl) h2
  clear hA0 hval0 hsz0
  have hb2 : 0 ≤ a2 ∧ a2 ≤ 255 := u8_range w2
  have hc := calls_of (s := ⟨fun _ => .dead, 0, fun _ => .ready⟩) rfl (fn9 noL l0 l1 a2 _ sc0 sc1 hg0 hg1 hl0 hl1 hn0 hn1 hb2) (W := W) (vs := [.slice a0 len0 cap0, .slice a1 len1 cap1, .int .u8 a2]) (VRs.cons (by simpa only [VR, AR, SR] using hsr0) (VRs.cons (by simpa only [VR, AR, SR] using hsr1) (VRs.cons (by simp only [VR, AR, SR]) VRs.nil)))
  refine hc.mono fun e W' ⟨⟨v, m', G', he, hvr⟩, bel⟩ => ?_
  simp only [VR, AR, SR] at hvr
  subst hvr
  subst he
  exact ⟨_, rfl, _, _, _, [], _, [], hW', trodAll_mk1 (shut_bool Try.underlying4 _), (trodAll_cons_mk (Below.trod laidOut (by kernel_rfl) (of_decide_eq_true (by kernel_rfl)) k0 bel lt0) (trodAll_cons_mk (Below.trod laidOut (by kernel_rfl) (of_decide_eq_true (by kernel_rfl)) k1 bel lt1) (trodAll_cons_mk (shut_int Try.underlying5 w2) trodAll_mk0))), rfl, bel.frame _, fun h => by cases h⟩
theorem over : Rows.unifyVariantsRow.holds Try.pinned (OpenSpec.ofChange Rows.unifyVariantsSpec) :=
  OpenClaim.holds_of_wide 9 Try.f9 rfl rfl rfl rfl rfl rfl rfl ⟨rfl, rfl, rfl, rfl, rfl⟩ rfl rfl rfl rfl rfl (by kernel_rfl) Try.func9 (by kernel_rfl)
    (of_decide_eq_true (by kernel_rfl)) (by unfold Func.isWrapper; first | (rw [if_pos (by decide +kernel)]; kernel_rfl) | (rw [if_neg (by decide +kernel)]; exact ⟨rfl, rfl⟩))
    (fun os started H enc _ => lifted os started H enc)
theorem proved : Rows.UnifyVariantsSaid := over
#print axioms proved
end Go.Proofs.Yticnfndhinjbbaa.unifyVariants
namespace Go.Proofs.Yticnfndhinjbbaa
/-- The row, under a short name, for the claim. -/
theorem unifyVariants_holds : Rows.UnifyVariantsSaid := unifyVariants.proved
end Go.Proofs.Yticnfndhinjbbaa
