/-
  UnifyMost and UnifyParts: for every input each law returns true, and each argument reads as it read: the rows, out of the walks' contracts (fn5, fn7) and the plain law.
-/
import Derived.Below
import Derived.ChangeOld
import Derived.OpenShut
import Derived.ProofKit
import Derived.ShutString
import Derived.SizedLaws
import Derived.Test.YticnfndhinjbbaaRows
import Derived.WalkKit
import Derived.Test.YticnfndhinjbbaaMW6
set_option linter.unusedVariables false
set_option linter.unusedSimpArgs false
/-
  PARTS: two terms of one name, of two parts each, are made alike part by part.
-/
namespace Go.Am.Seat
open Go.Proofs
theorem appT_comp (u s : Int → List Cell) : ∀ l : List Cell, appT u (appT s l) = appT (fun n => appT u (s n)) l
  | [] => rfl
  | c :: l => by
    have e0 : ∀ s : Int → List Cell, appT s (c :: l) = (if c.kind = 1 then s c.n else [c]) ++ appT s l := fun s => by simp [appT]
    rw [e0, e0, appT_append, appT_comp u s l]
    congr 1
    split
    · rfl
    · rename_i hk
      simp [appT, hk]
theorem appT_mem {s : Int → List Cell} {c : Cell} : ∀ {l : List Cell}, c ∈ appT s l → (c ∈ l ∧ ¬ c.kind = 1) ∨ ∃ n, occ l n ∧ c ∈ s n
  | [], h => by simp [appT] at h
  | d :: l, h => by
    have e0 : appT s (d :: l) = (if d.kind = 1 then s d.n else [d]) ++ appT s l := by simp [appT]
    rw [e0] at h
    rcases List.mem_append.1 h with h | h
    · split at h
      · rename_i hk
        exact .inr ⟨d.n, ⟨d, by simp, hk, rfl⟩, h⟩
      · rename_i hk
        rw [List.mem_singleton] at h
        subst h
        exact .inl ⟨by simp, hk⟩
    · rcases appT_mem h with ⟨h1, h2⟩ | ⟨n, ⟨e, h1, h2, h3⟩, h4⟩
      · exact .inl ⟨by simp [h1], h2⟩
      · exact .inr ⟨n, ⟨e, by simp [h1], h2, h3⟩, h4⟩
/-- A term into which a normal one is put is right, if it is not too long. -/
theorem put_tm {a b l : List Cell} (ha : RTm a) (hb : RTm b) {s : Int → List Cell} (h : NormO a b s) (hl : RTm l) (hs : (appT s l).length ≤ 200) : RTm (appT s l) := by
  refine ⟨appT_tk h.tm hl.tk, fun c hc => ?_, Nat.le_trans hl.pos (appT_len h.tm l), hs⟩
  rcases appT_mem hc with ⟨h1, _⟩ | ⟨n, h1, h2⟩
  · exact hl.ok c h1
  · by_cases ho : occ (a ++ b) n
    · exact (h.ok n ho c h2).1
    · rw [h.out n ho, List.mem_singleton] at h2
      obtain ⟨e, h3, h4, h5⟩ := h1
      have := ok_varCell (hl.ok e h3) h4
      rw [h5] at this
      rw [h2, ← this]
      exact hl.ok e h3
theorem appT_mkF (s : Int → List Cell) (a b : List Cell) : appT s (mkF [a, b]) = ⟨3, nmF, 2⟩ :: (appT s a ++ appT s b) := by
  rw [mkF, show (([a, b] : List (List Cell)).length : Int) = 2 from rfl, appT_cons s (by decide : ¬ (Cell.mk 3 nmF 2).kind = 1)]
  simp [appT_append]
theorem two_iff {s : Int → List Cell} (hs : Terms s) {a b c d : List Cell} (ha : RTm a) (hc : RTm c) : appT s (mkF [a, b]) = appT s (mkF [c, d]) ↔ appT s a = appT s c ∧ appT s b = appT s d := by
  rw [appT_mkF, appT_mkF]
  constructor
  · intro h
    have h := (List.cons.inj h).2
    have h1 := takes_app (r := appT s b) (appT_tk hs ha.tk)
    rw [h, takes_app (r := appT s d) (appT_tk hs hc.tk)] at h1
    exact List.append_inj h (Option.some.inj h1).symm
  · rintro ⟨h1, h2⟩
    rw [h1, h2]
theorem occ_app {a b : List Cell} {n : Int} : occ (a ++ b) n ↔ occ a n ∨ occ b n := by
  constructor
  · rintro ⟨c, h1, h2⟩
    exact (List.mem_append.1 h1).imp (fun h => ⟨c, h, h2⟩) fun h => ⟨c, h, h2⟩
  · rintro (⟨c, h1, h2⟩ | ⟨c, h1, h2⟩)
    · exact ⟨c, List.mem_append_left _ h1, h2⟩
    · exact ⟨c, List.mem_append_right _ h1, h2⟩
theorem occ_mkF {a b : List Cell} {n : Int} : occ (mkF [a, b]) n ↔ occ a n ∨ occ b n := by
  rw [← occ_app]
  constructor
  · rintro ⟨c, h1, h2, h3⟩
    rcases List.mem_cons.1 h1 with rfl | h1
    · cases h2
    · exact ⟨c, by simpa using h1, h2, h3⟩
  · rintro ⟨c, h1, h2⟩
    exact ⟨c, List.mem_cons_of_mem _ (by simpa using h1), h2⟩
section
variable {a b c d : List Cell} {s u : Int → List Cell}
theorem pair_tm (ha : RTm a) (hb : RTm b) (h1 : a.length ≤ 12) (h2 : b.length ≤ 12) : RTm (mkF [a, b]) := by
  refine mkF_tm (fun l hl => ?_) (by simp only [List.flatten_cons, List.flatten_nil, List.length_append, List.length_nil]; omega) (by simp)
  simp only [List.mem_cons, List.not_mem_nil, or_false] at hl
  rcases hl with rfl | rfl
  · exact ha
  · exact hb
/-- Both, one behind the other. -/
theorem comp_norm (ha : RTm a) (hb : RTm b) (hc : RTm c) (hd : RTm d) (h : NormO a c s) (hp : RTm (appT s b)) (hq : RTm (appT s d)) (k : NormO (appT s b) (appT s d) u) : NormO (mkF [a, b]) (mkF [c, d]) fun n => appT u (s n) := by
  have ho1 : ∀ n, occ (a ++ c) n → occ (mkF [a, b] ++ mkF [c, d]) n := fun n hn => by
    rw [occ_app, occ_mkF, occ_mkF]
    rcases occ_app.1 hn with h | h
    · exact .inl (.inl h)
    · exact .inr (.inl h)
  have hs : ∀ n m, occ (mkF [a, b] ++ mkF [c, d]) n → occ (s n) m → occ (mkF [a, b] ++ mkF [c, d]) m := fun n m hn ⟨e, h1, h2, h3⟩ => by
    by_cases ho : occ (a ++ c) n
    · exact ho1 _ (h3 ▸ (h.ok n ho e h1).2 h2)
    · rw [h.out n ho, List.mem_singleton] at h1
      subst h1
      rw [← h3]; exact hn
  have ho2 : ∀ n, occ (appT s b ++ appT s d) n → occ (mkF [a, b] ++ mkF [c, d]) n := fun n hn => by
    rw [occ_app] at hn
    have key : ∀ {l : List Cell}, (∀ m, occ l m → occ (mkF [a, b] ++ mkF [c, d]) m) → occ (appT s l) n → occ (mkF [a, b] ++ mkF [c, d]) n := fun {l} hl ⟨e, h1, h2, h3⟩ => by
      rcases appT_mem h1 with ⟨_, h4⟩ | ⟨m, h4, h5⟩
      · exact absurd h2 h4
      · exact hs m n (hl m h4) ⟨e, h5, h2, h3⟩
    rcases hn with hn | hn
    · exact key (fun m hm => by rw [occ_app, occ_mkF]; exact .inl (.inr hm)) hn
    · exact key (fun m hm => by rw [occ_app, occ_mkF, occ_mkF]; exact .inr (.inr hm)) hn
  have htm : Terms fun n => appT u (s n) := fun n => appT_tk k.tm (h.tm n)
  have habs : ∀ v, Terms v → appT v (mkF [a, b]) = appT v (mkF [c, d]) → (∀ n, appT v (s n) = v n) ∧ ∀ n, appT v (u n) = v n := fun v hv e => by
    obtain ⟨e1, e2⟩ := (two_iff hv ha hc).1 e
    have h1 := h.abs v hv e1
    have h3 : (fun n => appT v (s n)) = v := funext h1
    refine ⟨h1, k.abs v hv ?_⟩
    rw [appT_comp, appT_comp, h3, e2]
  refine ⟨⟨?_, htm, fun n e he hk => ?_, fun v hv e n => ?_, fun n m e => ?_⟩, fun n hn e he => ?_, fun n hn => ?_⟩
  · rw [two_iff htm ha hc, ← appT_comp, ← appT_comp, ← appT_comp, ← appT_comp, h.eq, k.eq]
    exact ⟨rfl, rfl⟩
  · rcases appT_mem he with ⟨_, h1⟩ | ⟨m, _, h1⟩
    · exact absurd hk h1
    · exact k.vc m e h1 hk
  · obtain ⟨h1, h2⟩ := habs v hv e
    rw [appT_comp, show (fun n => appT v (u n)) = v from funext h2, h1]
  · have hl := appT_len k.tm (s n)
    rw [e] at hl
    have := h.tm.pos n
    obtain ⟨x, hx⟩ := List.length_eq_one_iff.1 (show (s n).length = 1 by simp only [List.length_cons, List.length_nil] at hl; omega)
    rw [hx] at e
    by_cases hk : x.kind = 1
    · have hxv := h.vc n x (by rw [hx]; simp) hk
      rw [hxv, appT_var] at e
      rw [hxv] at hx
      have h1 := h.least n x.n hx
      have h2 := k.least x.n m e
      omega
    · have e2 : [x] = [varCell m] := by simpa [appT, hk] using e
      have := (List.cons.inj e2).1
      subst this
      exact absurd rfl hk
  · rcases appT_mem he with ⟨h1, h2⟩ | ⟨m, h1, h2⟩
    · refine ⟨?_, fun hk => absurd hk h2⟩
      by_cases ho : occ (a ++ c) n
      · exact (h.ok n ho e h1).1
      · rw [h.out n ho, List.mem_singleton] at h1
        subst h1
        exact absurd rfl h2
    · have hm := hs n m hn h1
      by_cases ho : occ (appT s b ++ appT s d) m
      · exact ⟨(k.ok m ho e h2).1, fun hk => ho2 _ ((k.ok m ho e h2).2 hk)⟩
      · rw [k.out m ho, List.mem_singleton] at h2
        subst h2
        refine ⟨?_, fun _ => hm⟩
        have hok : ∀ l ∈ [a, b, c, d], RTm l := by
          intro l hl
          simp only [List.mem_cons, List.not_mem_nil, or_false] at hl
          rcases hl with rfl | rfl | rfl | rfl
          · exact ha
          · exact hb
          · exact hc
          · exact hd
        have key : ∀ l ∈ [a, b, c, d], occ l m → cellOk (varCell m) = true := fun l hl ⟨e, h1, h2, h3⟩ => by
          have := (hok l hl).ok e h1
          rw [ok_varCell this h2, h3] at this
          exact this
        rw [occ_app, occ_mkF, occ_mkF] at hm
        rcases hm with (hm | hm) | (hm | hm)
        · exact key a (by simp) hm
        · exact key b (by simp) hm
        · exact key c (by simp) hm
        · exact key d (by simp) hm
  · have h1 : s n = [varCell n] := h.out n fun k => hn (ho1 n k)
    have h2 : u n = [varCell n] := k.out n fun k => hn (ho2 n k)
    rw [h1, appT_var, h2]
theorem big_of (h : ∀ n, appT s (u n) = s n) (hs : Terms s) (hu : ¬ small u) : ¬ small s := fun hm => hu fun n hn => by
  have := appT_len hs (u n)
  rw [h] at this
  exact Nat.le_trans this (hm n hn)
/-- What is told of two terms of two parts each. -/
theorem parts_none (ha : RTm a) (hb : RTm b) (hc : RTm c) (hd : RTm d) (hA : RTm (mkF [a, b])) (hC : RTm (mkF [c, d])) (h : (mgu a c).2 = 3) : (mgu (mkF [a, b]) (mkF [c, d])).2 = 3 := by
  rcases mgu_cases ha hc with ⟨_, h2⟩ | ⟨s, hs, h1⟩
  · rcases mgu_cases hA hC with ⟨h3, _⟩ | ⟨u, hu, _⟩
    · rw [h3]
    · exact absurd ((two_iff hu.tm ha hc).1 hu.eq).1 (h2 u hu.tm)
  · rw [h1] at h
    by_cases hm : small s
    · rw [mguO_small hm] at h; cases h
    · rw [mguO_big hm] at h; cases h
theorem parts_big (ha : RTm a) (hb : RTm b) (hc : RTm c) (hd : RTm d) (hA : RTm (mkF [a, b])) (hC : RTm (mkF [c, d])) (h : (mgu a c).2 = 2) : ¬ (mgu (mkF [a, b]) (mkF [c, d])).2 = 0 := by
  rcases mgu_cases ha hc with ⟨h1, _⟩ | ⟨s, hs, h1⟩
  · rw [h1] at h; cases h
  · rw [h1] at h
    have hm : ¬ small s := fun hm => by rw [mguO_small hm] at h; cases h
    rcases mgu_cases hA hC with ⟨h3, _⟩ | ⟨u, hu, h3⟩
    · rw [h3]; decide
    · have := big_of (hs.abs u hu.tm ((two_iff hu.tm ha hc).1 hu.eq).1) hu.tm hm
      rw [h3, mguO_big this]; decide
theorem second_none (ha : RTm a) (hb : RTm b) (hc : RTm c) (hd : RTm d) (hA : RTm (mkF [a, b])) (hC : RTm (mkF [c, d])) (hs : NormO a c s) (hp : RTm (appT s b)) (hq : RTm (appT s d)) (h : (mgu (appT s b) (appT s d)).2 = 3) : (mgu (mkF [a, b]) (mkF [c, d])).2 = 3 := by
  rcases mgu_cases hp hq with ⟨_, h2⟩ | ⟨u, hu, h1⟩
  · rcases mgu_cases hA hC with ⟨h3, _⟩ | ⟨v, hv, _⟩
    · rw [h3]
    · obtain ⟨e1, e2⟩ := (two_iff hv.tm ha hc).1 hv.eq
      have h1 := funext (hs.abs v hv.tm e1)
      exact absurd (show appT v (appT s b) = appT v (appT s d) by rw [appT_comp, appT_comp, h1, e2]) (h2 v hv.tm)
  · rw [h1] at h
    by_cases hm : small u
    · rw [mguO_small hm] at h; cases h
    · rw [mguO_big hm] at h; cases h
theorem second_big (ha : RTm a) (hb : RTm b) (hc : RTm c) (hd : RTm d) (hA : RTm (mkF [a, b])) (hC : RTm (mkF [c, d])) (hs : NormO a c s) (hp : RTm (appT s b)) (hq : RTm (appT s d)) (h : (mgu (appT s b) (appT s d)).2 = 2) : (mgu (mkF [a, b]) (mkF [c, d])).2 = 2 := by
  rcases mgu_cases hp hq with ⟨h1, _⟩ | ⟨u, hu, h1⟩
  · rw [h1] at h; cases h
  · rw [h1] at h
    have hm : ¬ small u := fun hm => by rw [mguO_small hm] at h; cases h
    have hn := comp_norm ha hb hc hd hs hp hq hu
    rw [mgu_norm hA hC hn]
    obtain ⟨e1, e2⟩ := (two_iff hn.tm ha hc).1 hn.eq
    have h1 := funext (hs.abs _ hn.tm e1)
    have := big_of (hu.abs _ hn.tm (by rw [appT_comp, appT_comp, h1, e2])) hn.tm hm
    rw [mguO_big this]
theorem hasB_false {x : List (Int × List Cell)} {v : Int} (h : hasB x v = false) : bmap x v = [varCell v] := by
  rcases bmap_place (a := x) (v := v) with ⟨_, h2⟩ | ⟨i, _, h1, _⟩
  · exact h2
  · rw [hasB, h1] at h
    have := of_decide_eq_false h
    omega
theorem cmp_law {x y : List (Int × List Cell)} (hx : bmap x = s) (hy : bmap y = u) (hu : small u) (hvc : ∀ n, ∀ e ∈ appT u (s n), e.kind = 1 → e = varCell e.n) : ∀ {ns : List Nat} {out : List (Int × List Cell)}, (∀ n ∈ ns, n < 1000) →
    cmpG x y ns out = if ns.any (fun n => decide (200 < (appT u (s (n : Nat))).length)) = true then none else some (out ++ (ns.filterMap (bnd fun n => appT u (s n))).map toI)
  | [], out, _ => by simp [cmpG]
  | n :: ns, out, hn => by
    have ih := fun out => cmp_law hx hy hu hvc (ns := ns) (out := out) fun m hm => hn m (by simp [hm])
    have hc1 : cmp1 x y n = appT u (s n) := by rw [cmp1, hx, hy]
    rw [cmpG, hc1, List.any_cons, List.filterMap_cons, bnd]
    by_cases h1 : hasB x n = false ∧ hasB y n = false
    · have e1 := hasB_false h1.1
      have e2 := hasB_false h1.2
      rw [hx] at e1
      rw [hy] at e2
      have e3 : appT u (s n) = [varCell n] := by rw [e1, appT_var, e2]
      rw [if_pos h1, ih, if_pos e3, e3]
      simp
    · rw [if_neg h1]
      by_cases h2 : 200 < (appT u (s n)).length
      · have hA : hasB x n = true := by
          cases hA : hasB x n with
          | true => rfl
          | false =>
            have e1 := hasB_false hA
            rw [hx] at e1
            rw [e1, appT_var] at h2
            have := hu n (hn n (by simp))
            omega
        rw [if_pos ⟨hA, h2⟩, decide_eq_true h2]
        simp
      · rw [if_neg fun k => h2 k.2, decide_eq_false h2, Bool.false_or]
        have hown : ownB n (appT u (s n)) = true ↔ appT u (s n) = [varCell n] := by
          constructor
          · intro h
            unfold ownB at h
            split at h
            · rename_i e he
              simp only [Bool.and_eq_true, beq_iff_eq] at h
              rw [he, hvc n e (by rw [he]; simp) h.1, h.2]
            · cases h
          · intro h
            rw [h]
            simp [ownB, varCell]
        by_cases h3 : appT u (s n) = [varCell n]
        · rw [if_pos (hown.2 h3), ih, if_pos h3]
        · rw [if_neg fun k => h3 (hown.1 k), ih, if_neg h3]
          simp [toI]
end
end Go.Am.Seat
/-
  MADE BY PROGRAM (am.py): the walks of functions 5.
-/
namespace Go.Am.Seat
open Go.Proofs

theorem appT_bound {s : Int → List Cell} {m : Nat} (hm : 1 ≤ m) (h : ∀ n, (s n).length ≤ m) : ∀ l : List Cell, (appT s l).length ≤ m * l.length
  | [] => by simp [appT]
  | c :: l => by
    have e0 : appT s (c :: l) = (if c.kind = 1 then s c.n else [c]) ++ appT s l := by simp [appT]
    have ih := appT_bound hm h l
    rw [e0, List.length_append, List.length_cons, Nat.mul_add, Nat.mul_one]
    have : (if c.kind = 1 then s c.n else [c]).length ≤ m := by
      split
      · exact h _
      · simpa using hm
    omega
theorem bmap_len {b : List (Int × List Cell)} {m : Nat} (hm : 1 ≤ m) (h : ∀ p ∈ b, p.2.length ≤ m) (n : Int) : (bmap b n).length ≤ m := by
  unfold bmap
  cases hf : b.find? fun p => p.1 == n with
  | none => simpa using hm
  | some p => exact h p (List.mem_of_find?_eq_some hf)
theorem v_tm {n : Nat} (hn : n < 1000) : RTm [cV n] := by
  refine ⟨rfl, fun c hc => ?_, by simp, by simp⟩
  rw [List.mem_singleton] at hc
  subst hc
  unfold cellOk cV
  dsimp only
  rw [if_pos rfl]
  simp only [Bool.and_eq_true, decide_eq_true_eq]
  exact ⟨⟨by kernel_rfl, by omega⟩, by omega⟩

-- many steps
theorem bod5 : Try.f5.body = some (Try.f5.body.getD .skip) := rfl
set_option maxHeartbeats 4000000 in
set_option maxRecDepth 20000 in
theorem fn5 (L : Loops) (a b : List Cell) (ls : List (Sc × List Cell)) (s : Me) (sa sb sl : Sc) (ha : GSl encC sa a) (hb : GSl encC sb b) (hsl : GSl encT sl (ls.map Prod.fst)) (hla : a.length ≤ 281474976710656) (hlb : b.length ≤ 281474976710656) (hna : ∀ c ∈ a, c.name.size ≤ 1152921504606846976) (hnb : ∀ c ∈ b, c.name.size ≤ 1152921504606846976) (hls : ls.length ≤ 281474976710656 ∧ ∀ p ∈ ls, GSl encC p.1 p.2 ∧ p.2.length ≤ 281474976710656 ∧ ∀ c ∈ p.2, c.name.size ≤ 1152921504606846976) : FnL Try.prog L 5 [.av (.sc sa), .av (.sc sb), .av (.sc sl)] s fun r s' => (r = vB true) ∧ s' = s := by
  refine FnL.pure (R := fun r => r = vB true) ?_
  refine fn_of_body (ts := [6]) Try.func5 bod5 rfl (by simp) (by simp [Try.ntmps5]) fun D0 => ?_
  unfold Try.f5
  simp only [Option.getD_some, initSl]
  refine aw_region_seq C (pb := false) rfl fun K hK => ?_
  repeat' (first | refine wy0 (h := ?_) | fail)
  refine awOps_nil (hK _ _ ?_)
  clear hK K
  refine aw_region_seq C (pb := false) rfl fun K hK => ?_
  (refine wc (And.intro Try.call11 (fn11 L _)) ?_; rintro _ _ ⟨rfl, rfl⟩)
  repeat' (first | refine wy0 (h := ?_) | fail)
  refine awOps_nil (hK _ _ ?_)
  clear hK K
  refine aw_region_seq C (pb := false) rfl fun K hK => ?_
  repeat' (first | refine wy0 (h := ?_) | fail)
  refine wc (And.intro Try.call12 (fnMade L a 20 _ sa ha hla hna (by decide))) ?_
  rintro _ _ ⟨⟨t, rfl, rt, hlt⟩, rfl⟩
  repeat' (first | refine wy0 (h := ?_) | fail)
  refine awOps_nil (hK _ _ ?_)
  clear hK K
  refine aw_region_seq C (pb := false) rfl fun K hK => ?_
  repeat' (first | refine wy0 (h := ?_) | fail)
  refine wc (And.intro Try.call12 (fnMade L b 20 _ sb hb hlb hnb (by decide))) ?_
  rintro _ _ ⟨⟨u, rfl, ru, hlu⟩, rfl⟩
  repeat' (first | refine wy0 (h := ?_) | fail)
  refine awOps_nil (hK _ _ ?_)
  refine AW.less (sl' := [(0, vC t), (1, vC u), (2, .av (.sc sl)), (7, vB true)]) (AllIn.less ⟨rfl, rfl, rfl, rfl, trivial⟩) ?_
  clear hK K
  refine aw_region_seq C (pb := false) rfl fun K hK => ?_
  repeat' (first | refine wy0 (h := ?_) | fail)
  refine awOps_nil (hK _ _ ?_)
  clear hK K
  refine aw_seq ?_
  refine aw_region_seq C (pb := false) rfl fun K hK => ?_
  repeat' (first | refine wy0 (h := ?_) | fail)
  refine awOps_nil (hK _ _ ?_)
  clear hK K
  refine aw_block ?_
  refine AW.less (sl' := [(0, vC t), (1, vC u), (2, .av (.sc sl)), (7, vB true), (8, (_)), (9, vI (0))]) (AllIn.less ⟨rfl, rfl, rfl, rfl, rfl, rfl, trivial⟩) (aw_loop (fun k sl1 s1 => ∃ (i : Nat) (xo : Va) (out : List (Int × List Cell)), k = 7 - i ∧ sl1 = [(0, vC t), (1, vC u), (2, .av (.sc sl)), (7, vB true), (8, (xo)), (9, vI (i))] ∧ (Kp s s1) ∧ (i ≤ 6 ∧ i ≤ ls.length ∧ out.length ≤ i) ∧ (Acc s.nx s1.nx s1.ob xo out.length 2 (((out.map bndI).flatMap encB).map .sc)) ∧ (∀ p ∈ out, RTm p.2 ∧ p.2.length ≤ 6)) (k := 7 - (0)) ⟨0, _, [], rfl, rfl, ⟨by first | omega | (dsimp only; omega), fun j hj => upd_ne _ _ (by omega), rfl⟩, ⟨Nat.zero_le _, Nat.zero_le _, Nat.le_refl _⟩, .inr ⟨_, 0, rfl, (by first | omega | (dsimp only; omega) | (dsimp only at *; omega)), (by first | omega | (dsimp only; omega) | (dsimp only at *; omega)), upd_same _ _ _, by simp, by simp⟩, fun p hp => by simp at hp⟩ ?_)
  rintro k1 _ s1 ⟨i, xo, out, hk1, rfl, hs1, hb1, hacc, hout⟩
  refine aw_seq ?_
  refine aw_cut_seq C (pb := false) [(0, vC t), (1, vC u), (2, .av (.sc sl)), (7, vB true), (8, xo), (9, vI i), (35, vB (decide ((i : Int) < (ls.length : Int)) && decide ((i : Int) < 6)))] rfl ?_ fun n6 hn6 => ?_
  · cases hA0 : (decide ((i : Int) < (ls.length : Int)) : Bool)
    all_goals (repeat' (first | refine wy1 (a := by simp only [go_sem, ↓reduceIte, Nat.reduceEqDiff, reduceCtorEq, Nat.reduceAdd, Nat.reduceMul, Nat.reduceLeDiff, aLoad, aStore, lenT hsl, List.length_map, hA0]; exact rfl) (h := ?_) | refine wn (h := ?_) | fail))
    all_goals (exact awOps_nil ⟨⟨rfl, rfl, rfl, rfl, rfl, rfl, rfl, trivial⟩, rfl, (by first | omega | (dsimp only; omega)), rfl⟩)
  refine aw_cond (by rfl) ?_ ?_
  · intro hc0
    obtain ⟨hi1, hi6⟩ := Bool.and_eq_true_iff.1 (show (decide ((i : Int) < (ls.length : Int)) && decide ((i : Int) < 6)) = true from hc0)
    have hi2 : i < ls.length := by have := of_decide_eq_true hi1; omega
    have hi7 : i < 6 := by have := of_decide_eq_true hi6; omega
    have hpi := hls.2 ls[i] (List.getElem_mem hi2)
    have hix : aIndex T 40 (.av (.sc sl)) (vI i) = some (.av (.sc (.cptr (ls[i].1 :: ((ls.map Prod.fst).drop (i + 1)).flatMap encT)))) := by
      have := idxT hsl (i := i) (by rw [List.length_map]; exact hi2)
      rw [List.getElem_map] at this
      exact this
    refine aw_skip ?_
    simp only [thenA_normal, thenA_ret, thenA_exit, blockA_normal, blockA_ret, blockA_exit, ↓reduceIte, Nat.reduceEqDiff]
    refine aw_seq ?_
    refine aw_block ?_
    refine aw_region_seq C (pb := false) rfl fun K hK => ?_
    repeat' (first | refine wy1 (a := by simp only [go_sem, ↓reduceIte, Nat.reduceEqDiff, reduceCtorEq, Nat.reduceAdd, Nat.reduceMul, Nat.reduceLeDiff, aLoad, aStore, hix]; exact rfl) (h := ?_) | fail)
    refine wc (And.intro Try.call12 (fnMade L ls[i].2 6 _ ls[i].1 hpi.1 hpi.2.1 hpi.2.2 (by decide))) ?_
    rintro _ _ ⟨⟨w, rfl, rw_, hlw⟩, rfl⟩
    repeat' (first | refine wy1 (a := by simp only [go_sem, ↓reduceIte, Nat.reduceEqDiff, reduceCtorEq, Nat.reduceAdd, Nat.reduceMul, Nat.reduceLeDiff, aLoad, aStore, hix]; exact rfl) (h := ?_) | fail)
    refine awOps_nil (hK _ _ ?_)
    clear hK K
    have hw0 := rw_.pos
    have hw1 : 0 < w.length := hw0
    have hw2 : aIndex T 22 (vC w) (.av (.sc (.int .i64 0))) = _ := idxC (gslC w) hw1
    refine aw_cut_seq C (pb := false) [(0, vC t), (1, vC u), (2, .av (.sc sl)), (7, vB true), (8, xo), (9, vI i), (10, vC w), (55, vB (!(w[0].kind == 1) || !(w[0].n == (i : Int))))] rfl ?_ fun n9 hn9 => ?_
    · cases hA0 : (w[0].kind == 1 : Bool)
      all_goals (repeat' (first | refine wy1 (a := by simp only [go_sem, ↓reduceIte, Nat.reduceEqDiff, reduceCtorEq, Nat.reduceAdd, Nat.reduceMul, Nat.reduceLeDiff, aLoad, aStore, hw2, bne, hA0]; exact rfl) (h := ?_) | refine wn (h := ?_) | fail))
      all_goals (exact awOps_nil ⟨⟨rfl, rfl, rfl, rfl, rfl, rfl, rfl, rfl, trivial⟩, rfl, (by first | omega | (dsimp only; omega)), rfl⟩)
    refine aw_cond (by rfl) ?_ ?_
    · intro hc1
      refine aw_region C (pb := false) rfl ?_
      repeat' (first | refine wy0 (h := ?_) | fail)
      refine awOps_append (by rfl) (by rfl) (by rfl) (by rfl) (hacc.up (Nat.le_refl _) fun j h1 h2 => upd_ne _ _ (by omega)) T25 rfl T39 rfl (by simp) (by simp [y39]) (k := 1) (new := (encB (bndI ((i : Int), w))).map .sc) (by simp [aSrc, evA, get, upd, zerosA, encB, bndI, storeL, List.range, List.range.loop]; exact ⟨Nat.le_refl _, rfl⟩) (by simp [encB]) (by omega) (by omega) (by have := hs1.1; omega) fun x6 ob6 hacc6 hlow6 _ => ?_
      repeat' (first | refine wy0 (h := ?_) | fail)
      refine awOps_nil ?_
      try simp only [thenA_normal, thenA_ret, thenA_exit, blockA_normal, blockA_ret, blockA_exit]
      refine aw_region C (pb := false) rfl ?_
      repeat' (first | refine wy1 (a := by simp only [go_sem, ↓reduceIte, Nat.reduceEqDiff, reduceCtorEq, Nat.reduceAdd, Nat.reduceMul, Nat.reduceLeDiff, aLoad, aStore, wrap_small ((i : Int) + 1) (by omega) (by omega)]; exact rfl) (h := ?_) | fail)
      refine awOps_nil ?_
      try simp only [thenA_normal, thenA_ret, thenA_exit, blockA_normal, blockA_ret, blockA_exit]
      -- end of round 0 at 0t1t
      refine ⟨7 - (i + 1), [(0, vC t), (1, vC u), (2, .av (.sc sl)), (7, vB true), (8, (x6)), (9, vI (i + 1))], by omega, AllIn.less ⟨rfl, rfl, rfl, rfl, rfl, rfl, trivial⟩, i + 1, x6, out ++ [((i : Int), w)], rfl, rfl, ?_, ?_, ?_, ?_⟩
      · exact ⟨by have := hs1.1; exact (by first | omega | (dsimp only; omega)), fun j hj => (hlow6 j hj).trans ((upd_ne _ _ (by have := hs1.1; omega)).trans (hs1.2.1 j hj)), hs1.2.2⟩
      · simp only [List.length_append, List.length_cons, List.length_nil]
        omega
      · simp only [List.length_append, List.length_cons, List.length_nil, List.map_append, List.flatMap_append, List.map_cons, List.map_nil, List.flatMap_cons, List.flatMap_nil, List.append_nil]
        exact hacc6.up (by first | omega | (dsimp only; omega)) fun _ _ _ => rfl
      · intro p hp
        rcases List.mem_append.1 hp with hp | hp
        · exact hout p hp
        · rw [List.mem_singleton] at hp
          rw [hp]
          exact ⟨rw_, hlw⟩
    · intro hc1
      refine aw_skip ?_
      simp only [thenA_normal, thenA_ret, thenA_exit, blockA_normal, blockA_ret, blockA_exit, ↓reduceIte, Nat.reduceEqDiff]
      refine aw_region C (pb := false) rfl ?_
      repeat' (first | refine wy1 (a := by simp only [go_sem, ↓reduceIte, Nat.reduceEqDiff, reduceCtorEq, Nat.reduceAdd, Nat.reduceMul, Nat.reduceLeDiff, aLoad, aStore, wrap_small ((i : Int) + 1) (by omega) (by omega)]; exact rfl) (h := ?_) | fail)
      refine awOps_nil ?_
      try simp only [thenA_normal, thenA_ret, thenA_exit, blockA_normal, blockA_ret, blockA_exit]
      -- end of round 0 at 0t1f
      refine ⟨7 - (i + 1), [(0, vC t), (1, vC u), (2, .av (.sc sl)), (7, vB true), (8, (xo)), (9, vI (i + 1))], by omega, AllIn.less ⟨rfl, rfl, rfl, rfl, rfl, rfl, trivial⟩, i + 1, xo, out, rfl, rfl, ?_, ?_, ?_, ?_⟩
      · exact hs1.up (by first | omega | (dsimp only; omega))
      · omega
      · exact hacc.up (by first | omega | (dsimp only; omega)) fun _ _ _ => rfl
      · exact hout
  · intro hc0
    refine aw_exit ?_
    simp only [thenA_normal, thenA_ret, thenA_exit, blockA_normal, blockA_ret, blockA_exit, ↓reduceIte, Nat.reduceEqDiff]
    have ht1 := rt.pos
    have hu1 := ru.pos
    obtain ⟨ty, ob7, hpv7, hty, hacc7, hlow7, _⟩ := Acc.pure (enc := encB) (k := 2) (l := out.map bndI) (fun _ => rfl) (by rw [List.length_map]; exact hacc)
    refine aw_pur 8 hpv7 ?_
    refine aw_state (J := fun s8 => Kp s s8) ⟨by have := hs1.1; dsimp only; omega, fun j hj => (hlow7 j hj).trans (hs1.2.1 j hj), hs1.2.2⟩ fun s8 hJ => ?_
    obtain ⟨T, hT⟩ : ∃ T, T = bmap out := ⟨_, rfl⟩
    have hTt : Terms T := by rw [hT]; exact bmap_tm fun p hp => (hout p hp).1
    have hT6 : ∀ n, (T n).length ≤ 6 := fun n => by rw [hT]; exact bmap_len (by omega) (fun p hp => (hout p hp).2) n
    obtain ⟨v1, hv1⟩ : ∃ v, v = appT (bmap out) t := ⟨_, rfl⟩
    obtain ⟨v2, hv2⟩ : ∃ v, v = appT (bmap out) u := ⟨_, rfl⟩
    have b1 : v1.length ≤ 6 * t.length := by rw [hv1, ← hT]; exact appT_bound (by omega) hT6 t
    have b2 : v2.length ≤ 6 * u.length := by rw [hv2, ← hT]; exact appT_bound (by omega) hT6 u
    have hv1l : 1 ≤ v1.length := by rw [hv1, ← hT]; exact Nat.le_trans rt.pos (appT_len hTt t)
    have hv2l : 1 ≤ v2.length := by rw [hv2, ← hT]; exact Nat.le_trans ru.pos (appT_len hTt u)
    obtain ⟨sm, hsm'⟩ : ∃ x, x = sameL v1 v2 := ⟨_, rfl⟩
    have hsm := hsm'.symm
    refine aw_region_seq C (pb := false) rfl fun K hK => ?_
    repeat' (first | refine wy0 (h := ?_) | fail)
    (refine wc (And.intro Try.call21 (fnApplyV L hv1.symm ⟨hv1l, by omega⟩ _ ty _ hty (gslC t) (by omega) (fun p hp => by have := (hout p hp).2; omega) rt)) ?_; rintro _ _ ⟨rfl, rfl⟩)
    repeat' (first | refine wy0 (h := ?_) | fail)
    refine awOps_nil (hK _ _ ?_)
    clear hK K
    refine aw_region_seq C (pb := false) rfl fun K hK => ?_
    repeat' (first | refine wy0 (h := ?_) | fail)
    (refine wc (And.intro Try.call21 (fnApplyV L hv2.symm ⟨hv2l, by omega⟩ _ ty _ hty (gslC u) (by omega) (fun p hp => by have := (hout p hp).2; omega) ru)) ?_; rintro _ _ ⟨rfl, rfl⟩)
    repeat' (first | refine wy0 (h := ?_) | fail)
    refine awOps_nil (hK _ _ ?_)
    clear hK K
    refine aw_seq ?_
    refine aw_region_seq C (pb := false) rfl fun K hK => ?_
    repeat' (first | refine wy0 (h := ?_) | refine wn (h := ?_) | fail)
    try (first | (refine wc (And.intro Try.call20 (fnSameC L hsm _ _ _ (gslC v1) (gslC v2) (by omega))) ?_; rintro _ _ ⟨rfl, rfl⟩) | refine wn (h := ?_) | fail)
    repeat' (first | refine wy0 (h := ?_) | refine wn (h := ?_) | fail)
    refine awOps_nil (hK _ _ ?_)
    clear hK K
    refine aw_cond (by rfl) ?_ ?_
    · intro hc2
      refine aw_region_seq C (pb := false) rfl fun K hK => ?_
      repeat' (first | refine wy0 (h := ?_) | fail)
      refine awOps_nil (hK _ _ ?_)
      clear hK K
      refine aw_ret ?_
      try simp only [thenA_normal, thenA_ret, thenA_exit, blockA_normal, blockA_ret, blockA_exit]
      simp only [go_sem, ↓reduceIte, Nat.reduceEqDiff, reduceCtorEq, Nat.reduceAdd, Nat.reduceMul, Nat.reduceLeDiff, aLoad, aStore, FnQ, resA]
      -- 0f.x02t.ret
      exact fun _ => ⟨by first | rfl | trivial, by first | exact hJ.2.1 | exact hs2.2.1, by first | exact hJ.2.2 | exact hs2.2.2, by first | rfl | trivial⟩
    · intro hc2
      have hsv : v1 = v2 := sameL_iff.1 (hsm.trans (by simpa using hc2))
      have hTe : appT T t = appT T u := by rw [hT, ← hv1, ← hv2, hsv]
      refine aw_skip ?_
      simp only [thenA_normal, thenA_ret, thenA_exit, blockA_normal, blockA_ret, blockA_exit, ↓reduceIte, Nat.reduceEqDiff]
      refine aw_region_seq C (pb := false) rfl fun K hK => ?_
      repeat' (first | refine wy0 (h := ?_) | fail)
      (refine wc (And.intro Try.call13 (fnMguV L rt ru _)) ?_; rintro _ _ ⟨rfl, rfl⟩)
      repeat' (first | refine wy0 (h := ?_) | fail)
      refine awOps_nil (hK _ _ ?_)
      refine AW.less (sl' := [(7, vB true), (8, .av (.sc ty)), (15, .av (.sc (scB ((mgu t u).1.map toI)))), (16, vI (mgu t u).2)]) (AllIn.less ⟨rfl, rfl, rfl, rfl, trivial⟩) ?_
      clear hK K
      refine aw_seq ?_
      have h3 := mgu_three rt ru
      have hn3 : (mgu t u).2 ≠ 3 := by
        intro h
        rcases mgu_cases rt ru with ⟨_, h2⟩ | ⟨σ, _, h2⟩
        · exact h2 T hTt hTe
        · rw [h2] at h
          by_cases hm : small σ
          · rw [mguO_small hm] at h; cases h
          · rw [mguO_big hm] at h; cases h
      obtain ⟨e, he⟩ : ∃ e, e = (mgu t u).2 := ⟨_, rfl⟩
      obtain ⟨o, ho⟩ : ∃ o, o = (mgu t u).1 := ⟨_, rfl⟩
      rw [← he, ← ho] at h3
      rw [← he] at hn3
      rw [← ho, ← he]
      clear ho he
      refine aw_region_seq C (pb := false) rfl fun K hK => ?_
      repeat' (first | refine wy0 (h := ?_) | fail)
      refine awOps_nil (hK _ _ ?_)
      clear hK K
      refine aw_cond (by rfl) ?_ ?_
      · intro hc3
        rcases h3 with ⟨h1, rfl, _, _⟩ | ⟨h, _⟩
        rotate_left
        · rw [h] at hc3; cases hc3
        have hz := scB_gsl (([] : List (Nat × List Cell)).map toI)
        have hl0 : ((((([] : List (Nat × List Cell)).map toI).map bndI).length : Int) == 0) = true := rfl
        refine aw_region_seq C (pb := false) rfl fun K hK => ?_
        repeat' (first | refine wy1 (a := by simp only [go_sem, ↓reduceIte, Nat.reduceEqDiff, reduceCtorEq, Nat.reduceAdd, Nat.reduceMul, Nat.reduceLeDiff, aLoad, aStore, lenB hz, hl0]; exact rfl) (h := ?_) | refine wn (h := ?_) | fail)
        refine awOps_nil (hK _ _ ?_)
        clear hK K
        refine aw_ret ?_
        try simp only [thenA_normal, thenA_ret, thenA_exit, blockA_normal, blockA_ret, blockA_exit]
        simp only [go_sem, ↓reduceIte, Nat.reduceEqDiff, reduceCtorEq, Nat.reduceAdd, Nat.reduceMul, Nat.reduceLeDiff, aLoad, aStore, FnQ, resA]
        -- 0f.x02f3t.ret
        exact fun _ => ⟨by first | rfl | trivial, by first | exact hJ.2.1 | exact hs2.2.1, by first | exact hJ.2.2 | exact hs2.2.2, by first | rfl | trivial⟩
      · intro hc3
        rcases h3 with ⟨h1, _, h, _⟩ | ⟨rfl, σ, hσ, hsm2, rfl⟩
        · rcases h with rfl | rfl
          · exact absurd rfl hn3
          · cases hc3
        refine aw_skip ?_
        simp only [thenA_normal, thenA_ret, thenA_exit, blockA_normal, blockA_ret, blockA_exit, ↓reduceIte, Nat.reduceEqDiff]
        refine aw_seq ?_
        refine aw_region_seq C (pb := false) rfl fun K hK => ?_
        repeat' (first | refine wy0 (h := ?_) | fail)
        refine awOps_nil (hK _ _ ?_)
        clear hK K
        refine aw_cond (by rfl) ?_ ?_
        · intro hc4
          cases hc4
        · intro hc4
          refine aw_skip ?_
          simp only [thenA_normal, thenA_ret, thenA_exit, blockA_normal, blockA_ret, blockA_exit, ↓reduceIte, Nat.reduceEqDiff]
          refine aw_seq ?_
          obtain ⟨bs, hbs⟩ : ∃ bs, bs = (bnds σ).map toI := ⟨_, rfl⟩
          have hbr := bnds_right rt ru hσ hsm2
          have hbl := bnds_len hsm2
          have hbm : ∀ p, p ∈ bs → ∃ n : Nat, n < 1000 ∧ p = ((n : Int), σ n) ∧ σ n ≠ [varCell n] := fun p hp => bnds_mem.1 (hbs ▸ hp)
          rw [← hbs] at hbr hbl ⊢
          obtain ⟨z, hz⟩ : ∃ z, z = scB bs := ⟨_, rfl⟩
          have hzg := scB_gsl bs
          rw [← hz] at hzg ⊢
          clear hz hbs
          refine aw_region_seq C (pb := false) rfl fun K hK => ?_
          repeat' (first | refine wy0 (h := ?_) | fail)
          refine awOps_nil (hK _ _ ?_)
          clear hK K
          refine aw_block ?_
          refine AW.less (sl' := [(7, vB true), (8, .av (.sc ty)), (15, .av (.sc z)), (17, vI (0))]) (AllIn.less ⟨rfl, rfl, rfl, rfl, trivial⟩) (aw_loop (fun k sl1 s1 => ∃ (q : Nat), k = bs.length - q ∧ sl1 = [(7, vB true), (8, .av (.sc ty)), (15, .av (.sc z)), (17, vI (q))] ∧ (Kp s s1) ∧ (q ≤ bs.length)) (k := bs.length - (0)) ⟨0, rfl, rfl, hJ.up (by omega), Nat.zero_le _⟩ ?_)
          rintro k2 _ s2 ⟨q, hk2, rfl, hs2, hb2⟩
          refine aw_seq ?_
          refine aw_region_seq C (pb := false) rfl fun K hK => ?_
          repeat' (first | refine wy1 (a := by simp only [go_sem, ↓reduceIte, Nat.reduceEqDiff, reduceCtorEq, Nat.reduceAdd, Nat.reduceMul, Nat.reduceLeDiff, aLoad, aStore, lenB hzg, List.length_map]; exact rfl) (h := ?_) | fail)
          refine awOps_nil (hK _ _ ?_)
          clear hK K
          refine aw_cond (by rfl) ?_ ?_
          · intro hc5
            try simp only [decide_eq_true_eq, decide_eq_false_iff_not] at hc5
            have hk3 : q < bs.length := by omega
            have hri' := hbr.1 bs[q] (List.getElem_mem hk3)
            obtain ⟨n, hn, hbe, _⟩ := hbm bs[q] (List.getElem_mem hk3)
            have hix := idxBI hzg hk3
            rw [hbe] at hix hri'
            dsimp only at hix hri'
            have hri : RTm (σ n) := ⟨hri'.2.2.2.2.2.1, hri'.2.2.2.2.1, hri'.2.2.1, hri'.2.2.2.1⟩
            have hTσ : appT (bmap out) (σ n) = T n := by rw [← hT]; exact hσ.abs T hTt hTe n
            have hTl := hTt.pos n
            have hTl6 := hT6 n
            have hcl := hs2.1
            refine aw_skip ?_
            simp only [thenA_normal, thenA_ret, thenA_exit, blockA_normal, blockA_ret, blockA_exit, ↓reduceIte, Nat.reduceEqDiff]
            refine aw_seq ?_
            refine aw_block ?_
            refine aw_region_seq C (pb := false) rfl fun K hK => ?_
            repeat' (first | refine wy1 (a := by simp only [go_sem, ↓reduceIte, Nat.reduceEqDiff, reduceCtorEq, Nat.reduceAdd, Nat.reduceMul, Nat.reduceLeDiff, aLoad, aStore, hix]; exact rfl) (h := ?_) | fail)
            (refine wc (And.intro Try.call21 (fnApplyV L hTσ ⟨hTl, by omega⟩ _ ty _ hty (gslC _) (by omega) (fun p hp => by have := (hout p hp).2; omega) hri)) ?_; rintro _ _ ⟨rfl, rfl⟩)
            repeat' (first | refine wy1 (a := by simp only [go_sem, ↓reduceIte, Nat.reduceEqDiff, reduceCtorEq, Nat.reduceAdd, Nat.reduceMul, Nat.reduceLeDiff, aLoad, aStore, hix]; exact rfl) (h := ?_) | fail)
            refine awOps_nil (hK _ _ ?_)
            clear hK K
            refine aw_region_seq C (pb := false) rfl fun K hK => ?_
            repeat' (first | refine wy1 (a := by simp only [go_sem, ↓reduceIte, Nat.reduceEqDiff, reduceCtorEq, Nat.reduceAdd, Nat.reduceMul, Nat.reduceLeDiff, aLoad, aStore, hix]; exact rfl) (h := ?_) | fail)
            (refine wc (And.intro Try.call25 (fn25 L _ _)) ?_; rintro _ _ ⟨rfl, rfl⟩)
            repeat' (first | refine wy1 (a := by simp only [go_sem, ↓reduceIte, Nat.reduceEqDiff, reduceCtorEq, Nat.reduceAdd, Nat.reduceMul, Nat.reduceLeDiff, aLoad, aStore, hix]; exact rfl) (h := ?_) | fail)
            refine wc (And.intro Try.call21 (FnL.pur (PurArgs.keep (PurArgs.pur (celC_pure (l := [cV n]) (upd_same _ _ _)) PurArgs.nil)) (fnApplyV L (v := T n) (by rw [← hT]; simp [appT, cV]) ⟨hTl, by omega⟩ _ ty _ hty (gslC [cV n]) (by omega) (fun p hp => by have := (hout p hp).2; omega) (v_tm hn)))) ?_
            rintro _ _ ⟨rfl, rfl⟩
            repeat' (first | refine wy1 (a := by simp only [go_sem, ↓reduceIte, Nat.reduceEqDiff, reduceCtorEq, Nat.reduceAdd, Nat.reduceMul, Nat.reduceLeDiff, aLoad, aStore, hix]; exact rfl) (h := ?_) | fail)
            refine awOps_nil (hK _ _ ?_)
            clear hK K
            refine aw_region_seq C (pb := false) rfl fun K hK => ?_
            repeat' (first | refine wy0 (h := ?_) | refine wn (h := ?_) | fail)
            try (first | (refine wc (And.intro Try.call20 (fnSameC L (sameL_iff.2 rfl) _ _ _ (gslC _) (gslC _) (by omega))) ?_; rintro _ _ ⟨rfl, rfl⟩) | refine wn (h := ?_) | fail)
            repeat' (first | refine wy0 (h := ?_) | refine wn (h := ?_) | fail)
            refine awOps_nil (hK _ _ ?_)
            clear hK K
            refine aw_cond (by rfl) ?_ ?_
            · intro hc6
              cases hc6
            · intro hc6
              refine aw_skip ?_
              simp only [thenA_normal, thenA_ret, thenA_exit, blockA_normal, blockA_ret, blockA_exit, ↓reduceIte, Nat.reduceEqDiff]
              refine aw_region C (pb := false) rfl ?_
              repeat' (first | refine wy1 (a := by simp only [go_sem, ↓reduceIte, Nat.reduceEqDiff, reduceCtorEq, Nat.reduceAdd, Nat.reduceMul, Nat.reduceLeDiff, aLoad, aStore, wrap_small ((q : Int) + 1) (by omega) (by omega)]; exact rfl) (h := ?_) | fail)
              refine awOps_nil ?_
              try simp only [thenA_normal, thenA_ret, thenA_exit, blockA_normal, blockA_ret, blockA_exit]
              -- end of round 1 at 0f.x02f3f4f5t6f
              refine ⟨bs.length - (q + 1), [(7, vB true), (8, .av (.sc ty)), (15, .av (.sc z)), (17, vI (q + 1))], by omega, AllIn.less ⟨rfl, rfl, rfl, rfl, trivial⟩, q + 1, rfl, rfl, ?_, ?_⟩
              · exact ⟨by have := hs2.1; exact (by first | omega | (dsimp only; omega) | (dsimp only at *; omega)), fun j hj => (upd_ne _ _ (by have := hs2.1; omega)).trans ((upd_ne _ _ (by have := hs2.1; omega)).trans (hs2.2.1 j hj)), hs2.2.2⟩
              · omega
          · intro hc5
            try simp only [decide_eq_true_eq, decide_eq_false_iff_not] at hc5
            refine aw_exit ?_
            simp only [thenA_normal, thenA_ret, thenA_exit, blockA_normal, blockA_ret, blockA_exit, ↓reduceIte, Nat.reduceEqDiff]
            refine aw_region_seq C (pb := false) rfl fun K hK => ?_
            repeat' (first | refine wy0 (h := ?_) | fail)
            refine awOps_nil (hK _ _ ?_)
            clear hK K
            refine aw_ret ?_
            simp only [go_sem, ↓reduceIte, Nat.reduceEqDiff, reduceCtorEq, Nat.reduceAdd, Nat.reduceMul, Nat.reduceLeDiff, aLoad, aStore, FnQ, resA]
            -- 0f.x02f3f4f5f.x2.ret
            exact fun _ => ⟨by first | rfl | trivial, by first | exact hJ.2.1 | exact hs2.2.1, by first | exact hJ.2.2 | exact hs2.2.2, by first | rfl | trivial⟩
end Go.Am.Seat
/-
  UnifyMost: for every input the law returns true, and each argument reads as it read: the row, out of the walk's contract (fn5) and the plain law.
-/
namespace Go.Proofs.Yticnfndhinjbbaa.unifyMost
open Go.ChangeShapes Go.WideShapes Go.ChangeAt Go.RowKit Go.Am Go.Am.Seat
theorem own : ownKnob Try.prog.godebug = none := by kernel_rfl
theorem laidOut : laidOutB Try.prog = true := by kernel_rfl
set_option maxRecDepth 100000 in
theorem lifted (os : Os) (started : os.Started) (H : Type) (enc : TypeId × Value → H) :
    ReturnsInHanded {} Try.checked os 5 .any (Rows.unifyMostSpec.pre6 enc Try.prog Try.f5 Rows.unifyMostRow.domain false) (Rows.unifyMostSpec.post enc Try.prog Try.f5 false true false false) := by
  refine returnsInHanded_of_change_sized (C := Try.checked) own started (by kernel_rfl) Try.func5
    (ChangeSpec.witness6 (enc := enc) (C := Try.checked) false ⟨#[], #[.slice none 0 0, .slice none 0 0, .slice none 0 0], []⟩ 8 (by kernel_rfl) (by kernel_rfl) (by kernel_rfl) (by kernel_rfl)) ?_
  intro W base args ds gs before hval0 hW hcnd hsz0 _
  have hsz : (DataW.weightsEach Try.prog (Try.f5.params.toList ++ Rows.unifyMostSpec.plain.varTypes Try.prog) (ds ++ gs)).all (· ≤ reachBytes) = true := hsz0
  have hval : ∀ (j : Nat) t v, Try.f5.params[j]? = some t → args[j]? = some v → Value.okWide Try.prog W .any base t v := hval0
  have hW' := hW
  obtain ⟨p, q, hA0, hV, rfl, hfz, hnd⟩ := hW
  have hA : DataW.TrodAll enc Try.prog W 0 (fun _ => true) true Try.f5.params.toList args.toList ds p := hA0
  rw [Try.params5] at hA hval hsz
  obtain ⟨v0, vs0, d0, ds0, p0, q0, hargs, rfl, rfl, h0, r0⟩ := trodAll_cons hA
  obtain ⟨v1, vs1, d1, ds1, p1, q1, rfl, rfl, rfl, h1, r1⟩ := trodAll_cons r0
  obtain ⟨v2, vs2, d2, ds2, p2, q2, rfl, rfl, rfl, h2, r2⟩ := trodAll_cons r1
  obtain ⟨rfl, rfl, rfl⟩ := trodAll_nil r2
  obtain rfl : args = #[v0, v1, v2] := by cases args; simp_all
  obtain ⟨rfl, rfl⟩ := trodVars_none hV
  obtain ⟨a0, len0, cap0, rfl⟩ := okWide_slice Try.underlying22 (hval 0 22 v0 rfl rfl)
  have k0 := h0
  have lt0 : ∀ x ∈ p0, x.block < W.heap.size := by obtain ⟨m, hm⟩ := k0; exact DataW.trod_lt m _ _ _ hm
  obtain ⟨l0, ⟨⟨sc0, hsr0, hg0⟩, hl0, hn0⟩⟩ : ∃ l, ReadsC W (.slice a0 len0 cap0) l := by
    obtain ⟨fuel, hf⟩ := h0
    obtain ⟨v, l, hcs, hr⟩ := open_cells hf fun n hn => by
      have := List.all_eq_true.1 hsz n (DataW.weights_mem_each (j := 0) (t := 22) rfl rfl n hn)
      simpa using this
    simp only [Value.cells, List.cons.injEq, and_true] at hcs
    subst hcs
    exact ⟨l, hr⟩
  obtain ⟨a1, len1, cap1, rfl⟩ := okWide_slice Try.underlying22 (hval 1 22 v1 rfl rfl)
  have k1 := h1
  have lt1 : ∀ x ∈ p1, x.block < W.heap.size := by obtain ⟨m, hm⟩ := k1; exact DataW.trod_lt m _ _ _ hm
  obtain ⟨l1, ⟨⟨sc1, hsr1, hg1⟩, hl1, hn1⟩⟩ : ∃ l, ReadsC W (.slice a1 len1 cap1) l := by
    obtain ⟨fuel, hf⟩ := h1
    obtain ⟨v, l, hcs, hr⟩ := open_cells hf fun n hn => by
      have := List.all_eq_true.1 hsz n (DataW.weights_mem_each (j := 1) (t := 22) rfl rfl n hn)
      simpa using this
    simp only [Value.cells, List.cons.injEq, and_true] at hcs
    subst hcs
    exact ⟨l, hr⟩
  obtain ⟨a2, len2, cap2, rfl⟩ := okWide_slice Try.underlying40 (hval 2 40 v2 rfl rfl)
  have k2 := h2
  have lt2 : ∀ x ∈ p2, x.block < W.heap.size := by obtain ⟨m, hm⟩ := k2; exact DataW.trod_lt m _ _ _ hm
  obtain ⟨l2, ⟨⟨sc2, hsr2, hg2⟩, ho2⟩⟩ : ∃ l, ReadsT W (.slice a2 len2 cap2) l := by
    obtain ⟨fuel, hf⟩ := h2
    obtain ⟨v, l, hcs, hr⟩ := open_terms hf fun n hn => by
      have := List.all_eq_true.1 hsz n (DataW.weights_mem_each (j := 2) (t := 40) rfl rfl n hn)
      simpa using this
    simp only [Value.cells, List.cons.injEq, and_true] at hcs
    subst hcs
    exact ⟨l, hr⟩
  clear hA0 hval0 hsz0
  have hc := calls_of (s := ⟨fun _ => .dead, 0, fun _ => .ready⟩) rfl (fn5 noL l0 l1 l2 _ sc0 sc1 sc2 hg0 hg1 hg2 hl0 hl1 hn0 hn1 ho2) (W := W) (vs := [.slice a0 len0 cap0, .slice a1 len1 cap1, .slice a2 len2 cap2]) (VRs.cons (by simpa only [VR, AR, SR] using hsr0) (VRs.cons (by simpa only [VR, AR, SR] using hsr1) (VRs.cons (by simpa only [VR, AR, SR] using hsr2) VRs.nil)))
  refine hc.mono fun e W' ⟨⟨v, m', G', he, hvr⟩, bel⟩ => ?_
  simp only [VR, AR, SR] at hvr
  subst hvr
  subst he
  exact ⟨_, rfl, _, _, _, [], _, [], hW', trodAll_mk1 (shut_bool Try.underlying4 _), (trodAll_cons_mk (Below.trod laidOut (by kernel_rfl) (of_decide_eq_true (by kernel_rfl)) k0 bel lt0) (trodAll_cons_mk (Below.trod laidOut (by kernel_rfl) (of_decide_eq_true (by kernel_rfl)) k1 bel lt1) (trodAll_cons_mk (Below.trod laidOut (by kernel_rfl) (of_decide_eq_true (by kernel_rfl)) k2 bel lt2) trodAll_mk0))), rfl, bel.frame _, fun h => by cases h⟩
theorem over : Rows.unifyMostRow.holds Try.pinned (OpenSpec.ofChange Rows.unifyMostSpec) :=
  OpenClaim.holds_of_wide 5 Try.f5 rfl rfl rfl rfl rfl rfl rfl ⟨rfl, rfl, rfl, rfl, rfl⟩ rfl rfl rfl rfl rfl (by kernel_rfl) Try.func5 (by kernel_rfl)
    (of_decide_eq_true (by kernel_rfl)) (by unfold Func.isWrapper; first | (rw [if_pos (by decide +kernel)]; kernel_rfl) | (rw [if_neg (by decide +kernel)]; exact ⟨rfl, rfl⟩))
    (fun os started H enc _ => lifted os started H enc)
theorem proved : Rows.UnifyMostSaid := over
#print axioms proved
end Go.Proofs.Yticnfndhinjbbaa.unifyMost
namespace Go.Proofs.Yticnfndhinjbbaa
/-- The row, under a short name, for the claim. -/
theorem unifyMost_holds : Rows.UnifyMostSaid := unifyMost.proved
end Go.Proofs.Yticnfndhinjbbaa
/-
  MADE BY PROGRAM (am.py): the walks of functions 7.
-/
namespace Go.Am.Seat
open Go.Proofs

theorem fnMadeE (L : Loops) {l t : List Cell} {most : Nat} (ht : madeG l most = t) (s : Me) (x : Sc) (h : GSl encC x l ∧ l.length ≤ 281474976710656 ∧ ∀ c ∈ l, c.name.size ≤ 1152921504606846976) (hm : 1 ≤ most ∧ most ≤ 200) : FnL Try.prog L 12 [.av (.sc x), vI most] s fun r s' => r = vC t ∧ s' = s :=
  (fnMadeV L l most s x h.1 h.2.1 h.2.2 hm).mono fun r s' h => ⟨h.1.trans (by rw [ht]), h.2⟩
set_option maxRecDepth 10000 in
theorem fnCmp (L : Loops) {σ τ : Int → List Cell} {x y : List (Int × List Cell)} (hx : bmap x = σ) (hy : bmap y = τ) (hτ : small τ) (hvc : ∀ n, ∀ e ∈ appT τ (σ n), e.kind = 1 → e = varCell e.n) {k : Bool} (hk : k = true ↔ small fun n => appT τ (σ n)) (s : Me) (sx sy : Sc) (hsx : GSl encB sx (x.map bndI)) (hsy : GSl encB sy (y.map bndI)) (hlx : x.length ≤ 1000 ∧ ∀ p ∈ x, RTm p.2) (hly : y.length ≤ 1000 ∧ ∀ p ∈ y, RTm p.2) :
    FnL Try.prog L 27 [.av (.sc sx), .av (.sc sy)] s fun r s' => (∃ z, r = .tup [.av (.sc z), vB k] ∧ (k = true → GSl encB z (((bnds fun n => appT τ (σ n)).map toI).map bndI))) ∧ s' = s := by
  refine (fn27 L x y (List.range 1000) s sx sy hsx hsy hlx hly ⟨by simp, fun i h => by simp⟩).mono fun r s' ⟨h1, h2⟩ => ⟨?_, h2⟩
  rw [cmp_law hx hy hτ hvc fun n hn => List.mem_range.1 hn] at h1
  by_cases hs : small fun n => appT τ (σ n)
  · rw [if_neg fun h => (small_iff fun n => appT τ (σ n)).1 h hs] at h1
    obtain ⟨z, h3, h4⟩ := h1
    rw [hk.2 hs]
    exact ⟨z, h3, fun _ => by rw [List.nil_append] at h4; exact h4⟩
  · rw [if_pos ((small_iff fun n => appT τ (σ n)).2 hs)] at h1
    have : k = false := by
      cases h : k with
      | false => rfl
      | true => exact absurd (hk.1 h) hs
    rw [this]
    exact ⟨_, h1, fun h => by cases h⟩
theorem right_tms {bs : List (Int × List Cell)} (h : RightB bs) : ∀ p ∈ bs, RTm p.2 := fun p hp => by
  obtain ⟨_, _, q3, q4, q5, q6, _⟩ := h.1 p hp
  exact ⟨q6, q5, q3, q4⟩

theorem fn26p (L : Loops) {t0 t1 A : List Cell} (hA : mkF [t0, t1] = A) (r0 : RTm t0) (r1 : RTm t1) (l0 : t0.length ≤ 12) (l1 : t1.length ≤ 12) (s : Me) : FnL Try.prog L 26 [.av (.sc (.str nmF)), .av (.sc (.sl 2 [slC t0, slC t1]))] s fun r s' => r = vC A ∧ s' = s := by
  refine (fn26 L [t0, t1] s (.sl 2 [slC t0, slC t1]) (.inr rfl) (fun l hl => ?_) (by simp only [List.flatten_cons, List.flatten_nil, List.length_append, List.length_nil]; omega) (by simp)).mono fun r s' h => ⟨h.1.trans (by rw [hA]), h.2⟩
  simp only [List.mem_cons, List.not_mem_nil, or_false] at hl
  rcases hl with rfl | rfl
  · exact r0
  · exact r1

-- many steps
theorem bod7 : Try.f7.body = some (Try.f7.body.getD .skip) := rfl
set_option maxHeartbeats 4000000 in
set_option maxRecDepth 20000 in
theorem fn7 (L : Loops) (la0 la1 lb0 lb1 : List Cell) (s : Me) (a0 a1 b0 b1 : Sc) (ha0 : GSl encC a0 la0 ∧ la0.length ≤ 281474976710656 ∧ ∀ c ∈ la0, c.name.size ≤ 1152921504606846976) (ha1 : GSl encC a1 la1 ∧ la1.length ≤ 281474976710656 ∧ ∀ c ∈ la1, c.name.size ≤ 1152921504606846976) (hb0 : GSl encC b0 lb0 ∧ lb0.length ≤ 281474976710656 ∧ ∀ c ∈ lb0, c.name.size ≤ 1152921504606846976) (hb1 : GSl encC b1 lb1 ∧ lb1.length ≤ 281474976710656 ∧ ∀ c ∈ lb1, c.name.size ≤ 1152921504606846976) : FnL Try.prog L 7 [.agg [.sc a0, .sc a1], .agg [.sc b0, .sc b1]] s fun r s' => (r = vB true) ∧ s' = s := by
  refine FnL.pure (R := fun r => r = vB true) ?_
  refine fn_of_body (ts := [4]) Try.func7 bod7 rfl (by simp) (by simp [Try.ntmps7]) fun D0 => ?_
  unfold Try.f7
  simp only [Option.getD_some, initSl]
  refine aw_region_seq C (pb := false) rfl fun K hK => ?_
  repeat' (first | refine wy0 (h := ?_) | fail)
  refine awOps_nil (hK _ _ ?_)
  clear hK K
  refine aw_region_seq C (pb := false) rfl fun K hK => ?_
  (refine wc (And.intro Try.call11 (fn11 L _)) ?_; rintro _ _ ⟨rfl, rfl⟩)
  repeat' (first | refine wy0 (h := ?_) | fail)
  refine awOps_nil (hK _ _ ?_)
  refine AW.less (sl' := [(2, .av (.ptr s.nx 0)), (3, .av (.ptr (s.nx + 1) 0)), (5, vB true)]) (AllIn.less ⟨rfl, rfl, rfl, trivial⟩) ?_
  refine aw_state (J := fun s2 => Kp s s2 ∧ s2.ob s.nx = .cs [.sc a0, .sc a1] 0 ∧ s2.ob (s.nx + 1) = .cs [.sc b0, .sc b1] 0 ∧ s.nx + 2 ≤ s2.nx) ⟨⟨(by first | omega | (dsimp only; omega) | (dsimp only at *; omega)), fun j hj => (upd_ne _ _ (by omega)).trans (upd_ne _ _ (by omega)), rfl⟩, (upd_ne _ _ (by omega)).trans (upd_same _ _ _), upd_same _ _ _, (by first | omega | (dsimp only; omega) | (dsimp only at *; omega))⟩ fun s2 hJ2 => ?_
  obtain ⟨hK2, hoa, hob, hn2⟩ := hJ2
  clear hK K
  obtain ⟨t0, ht0⟩ : ∃ t, t = madeG la0 12 := ⟨_, rfl⟩
  obtain ⟨rt0, lt0⟩ : RTm t0 ∧ t0.length ≤ 12 := by rw [ht0]; exact made_tm (by decide)
  obtain ⟨t1, ht1⟩ : ∃ t, t = madeG la1 12 := ⟨_, rfl⟩
  obtain ⟨rt1, lt1⟩ : RTm t1 ∧ t1.length ≤ 12 := by rw [ht1]; exact made_tm (by decide)
  obtain ⟨u0, hu0⟩ : ∃ t, t = madeG lb0 12 := ⟨_, rfl⟩
  obtain ⟨ru0, lu0⟩ : RTm u0 ∧ u0.length ≤ 12 := by rw [hu0]; exact made_tm (by decide)
  obtain ⟨u1, hu1⟩ : ∃ t, t = madeG lb1 12 := ⟨_, rfl⟩
  obtain ⟨ru1, lu1⟩ : RTm u1 ∧ u1.length ≤ 12 := by rw [hu1]; exact made_tm (by decide)
  obtain ⟨o2, ho2⟩ : ∃ o, o = upd (upd s2.ob (s2.nx + 6) (.cs [.sc (slC t0), .sc (slC t1)] 0)) (s2.nx + 13) (.cs [.sc (slC u0), .sc (slC u1)] 0) := ⟨_, rfl⟩
  have ha2 : o2 (s2.nx + 6) = .cs [.sc (slC t0), .sc (slC t1)] 0 := by rw [ho2, upd_ne _ _ (by omega), upd_same]
  have hd2 : o2 (s2.nx + 13) = .cs [.sc (slC u0), .sc (slC u1)] 0 := by rw [ho2, upd_same]
  have hf2 : ∀ j, j < s2.nx → o2 j = s2.ob j := fun j hj => by rw [ho2, upd_ne _ _ (by omega), upd_ne _ _ (by omega)]
  have hoa2 := (hf2 _ (by omega)).trans hoa
  have hob2 := (hf2 _ (by omega)).trans hob
  refine aw_dra_seq C (pb := false) 16 [] [o2] rfl (by kernel_rfl) (by kernel_rfl) rfl (fun j hj => hf2 j hj) fun K hK => ?_
  iterate 2 (first | refine dra_yes [0] (by rfl) (by rfl) (by rfl) (by rfl) (by kernel_rfl) ⟨⟨_, by simp  only [go_sem, ↓reduceIte, Nat.reduceEqDiff, reduceCtorEq, Nat.reduceAdd, Nat.reduceMul, Nat.reduceLeDiff, aLoad, aStore, osL_0, osL_1, osL_2, osL_3, osL_4, osL_5, osL_6, hoa2, hob2]; (try exact rfl), fun _ => rfl⟩, trivial⟩ ?_ | refine dra_no (by rfl) (by rfl) (by rfl) ?_)
  refine dra_callsil [0] (by rfl) (by rfl) (by rfl) (by rfl) (by kernel_rfl) ⟨And.intro Try.call12 (fnMadeE L ht0.symm _ a0 ha0 (by decide)), trivial⟩ ?_
  iterate 2 (first | refine dra_yes [0] (by rfl) (by rfl) (by rfl) (by rfl) (by kernel_rfl) ⟨⟨_, by simp  only [go_sem, ↓reduceIte, Nat.reduceEqDiff, reduceCtorEq, Nat.reduceAdd, Nat.reduceMul, Nat.reduceLeDiff, aLoad, aStore, osL_0, osL_1, osL_2, osL_3, osL_4, osL_5, osL_6, hoa2, hob2]; (try exact rfl), fun _ => rfl⟩, trivial⟩ ?_ | refine dra_no (by rfl) (by rfl) (by rfl) ?_)
  refine dra_callsil [0] (by rfl) (by rfl) (by rfl) (by rfl) (by kernel_rfl) ⟨And.intro Try.call12 (fnMadeE L ht1.symm _ a1 ha1 (by decide)), trivial⟩ ?_
  refine dra_yes [0] (by rfl) (by rfl) (by rfl) (by rfl) (by kernel_rfl) ⟨⟨_, (by simp only [go_sem, ↓reduceIte, Nat.reduceEqDiff, reduceCtorEq, Nat.reduceAdd, Nat.reduceMul, Nat.reduceLeDiff, aLoad, aStore, osL_0, osL_1, osL_2, osL_3, osL_4, osL_5, osL_6, hoa2, hob2]; try exact rfl), fun j => upd_self ha2 j⟩, trivial⟩ ?_
  iterate 2 (first | refine dra_yes [0] (by rfl) (by rfl) (by rfl) (by rfl) (by kernel_rfl) ⟨⟨_, by simp  only [go_sem, ↓reduceIte, Nat.reduceEqDiff, reduceCtorEq, Nat.reduceAdd, Nat.reduceMul, Nat.reduceLeDiff, aLoad, aStore, osL_0, osL_1, osL_2, osL_3, osL_4, osL_5, osL_6, hoa2, hob2]; (try exact rfl), fun _ => rfl⟩, trivial⟩ ?_ | refine dra_no (by rfl) (by rfl) (by rfl) ?_)
  refine dra_callsil [0] (by rfl) (by rfl) (by rfl) (by rfl) (by kernel_rfl) ⟨And.intro Try.call12 (fnMadeE L hu0.symm _ b0 hb0 (by decide)), trivial⟩ ?_
  iterate 2 (first | refine dra_yes [0] (by rfl) (by rfl) (by rfl) (by rfl) (by kernel_rfl) ⟨⟨_, by simp  only [go_sem, ↓reduceIte, Nat.reduceEqDiff, reduceCtorEq, Nat.reduceAdd, Nat.reduceMul, Nat.reduceLeDiff, aLoad, aStore, osL_0, osL_1, osL_2, osL_3, osL_4, osL_5, osL_6, hoa2, hob2]; (try exact rfl), fun _ => rfl⟩, trivial⟩ ?_ | refine dra_no (by rfl) (by rfl) (by rfl) ?_)
  refine dra_callsil [0] (by rfl) (by rfl) (by rfl) (by rfl) (by kernel_rfl) ⟨And.intro Try.call12 (fnMadeE L hu1.symm _ b1 hb1 (by decide)), trivial⟩ ?_
  refine dra_yes [0] (by rfl) (by rfl) (by rfl) (by rfl) (by kernel_rfl) ⟨⟨_, (by simp only [go_sem, ↓reduceIte, Nat.reduceEqDiff, reduceCtorEq, Nat.reduceAdd, Nat.reduceMul, Nat.reduceLeDiff, aLoad, aStore, osL_0, osL_1, osL_2, osL_3, osL_4, osL_5, osL_6, hoa2, hob2]; try exact rfl), fun j => upd_self hd2 j⟩, trivial⟩ ?_
  iterate 2 (first | refine dra_yes [0] (by rfl) (by rfl) (by rfl) (by rfl) (by kernel_rfl) ⟨⟨_, by simp  only [go_sem, ↓reduceIte, Nat.reduceEqDiff, reduceCtorEq, Nat.reduceAdd, Nat.reduceMul, Nat.reduceLeDiff, aLoad, aStore, osL_0, osL_1, osL_2, osL_3, osL_4, osL_5, osL_6, hoa2, hob2]; (try exact rfl), fun _ => rfl⟩, trivial⟩ ?_ | refine dra_no (by rfl) (by rfl) (by rfl) ?_)
  refine dra_nil (hK _ ?_)
  simp only [osL_0, osL_1, osL_2, osL_3, osL_4, osL_5, osL_6, List.length_cons, List.length_nil, Nat.reduceAdd]
  refine AW.less (sl' := [(5, vB true), (6, .av (.own (s2.nx + 6) 0 2 1)), (7, .av (.own (s2.nx + 13) 0 2 1))]) (AllIn.less ⟨rfl, rfl, rfl, trivial⟩) ?_
  refine aw_pur 6 (pur_two ha2) ?_
  refine aw_pur 7 (pur_two ((upd_ne _ _ (by omega)).trans hd2)) ?_
  refine aw_state (J := fun s3 => Kp s s3) ⟨(by first | omega | (dsimp only; omega) | (dsimp only at *; omega)), fun j hj => (upd_ne _ _ (by omega)).trans ((upd_ne _ _ (by omega)).trans ((hf2 j (by omega)).trans (hK2.2.1 j hj))), hK2.2.2⟩ fun s3 hJ => ?_
  obtain ⟨A, hA⟩ : ∃ A, A = mkF [t0, t1] := ⟨_, rfl⟩
  obtain ⟨B, hB⟩ : ∃ B, B = mkF [u0, u1] := ⟨_, rfl⟩
  have rA : RTm A := by rw [hA]; exact pair_tm rt0 rt1 lt0 lt1
  have rB : RTm B := by rw [hB]; exact pair_tm ru0 ru1 lu0 lu1
  clear hK K
  refine aw_region_seq C (pb := false) rfl fun K hK => ?_
  repeat' (first | refine wy0 (h := ?_) | fail)
  refine wc (And.intro Try.call26 (fn26p L hA.symm rt0 rt1 lt0 lt1 _)) ?_
  rintro _ _ ⟨rfl, rfl⟩
  repeat' (first | refine wy0 (h := ?_) | fail)
  refine wc (And.intro Try.call26 (fn26p L hB.symm ru0 ru1 lu0 lu1 _)) ?_
  rintro _ _ ⟨rfl, rfl⟩
  (refine wc (And.intro Try.call13 (fnMguV L rA rB _)) ?_; rintro _ _ ⟨rfl, rfl⟩)
  repeat' (first | refine wy0 (h := ?_) | fail)
  refine awOps_nil (hK _ _ ?_)
  refine AW.less (sl' := [(5, vB true), (6, .av (.sc (.sl 2 [slC t0, slC t1]))), (7, .av (.sc (.sl 2 [slC u0, slC u1]))), (8, .av (.sc (scB ((mgu A B).1.map toI)))), (9, vI (mgu A B).2)]) (AllIn.less ⟨rfl, rfl, rfl, rfl, rfl, trivial⟩) ?_
  clear hK K
  obtain ⟨e, he⟩ : ∃ e, e = (mgu A B).2 := ⟨_, rfl⟩
  obtain ⟨oA, hoA⟩ : ∃ o, o = (mgu A B).1 := ⟨_, rfl⟩
  rw [← he, ← hoA]
  have hzA := scB_gsl (oA.map toI)
  obtain ⟨zA, hzA'⟩ : ∃ z, z = scB (oA.map toI) := ⟨_, rfl⟩
  rw [← hzA'] at hzA ⊢
  have hi6 : aIndex T 40 (.av (.sc (.sl 2 [slC t0, slC t1]))) (.av (.sc (.int .i64 0))) = some (.av (.sc (.cptr [slC t0, slC t1]))) := idxT (l := [slC t0, slC t1]) (.inr rfl) (i := 0) (by simp)
  have hi7 : aIndex T 40 (.av (.sc (.sl 2 [slC u0, slC u1]))) (.av (.sc (.int .i64 0))) = some (.av (.sc (.cptr [slC u0, slC u1]))) := idxT (l := [slC u0, slC u1]) (.inr rfl) (i := 0) (by simp)
  refine aw_sil_seq C (pb := false) 12 _ rfl (by kernel_rfl) rfl (fun _ _ => rfl) fun K hK => ?_
  repeat' (first | refine ws1 (a := by simp only [go_sem, ↓reduceIte, Nat.reduceEqDiff, reduceCtorEq, Nat.reduceAdd, Nat.reduceMul, Nat.reduceLeDiff, aLoad, aStore, hi6, hi7]; exact rfl) (h := ?_) | fail)
  refine wsc (And.intro Try.call13 (fnMguV L rt0 ru0 _)) ?_
  repeat' (first | refine ws1 (a := by simp only [go_sem, ↓reduceIte, Nat.reduceEqDiff, reduceCtorEq, Nat.reduceAdd, Nat.reduceMul, Nat.reduceLeDiff, aLoad, aStore, hi6, hi7]; exact rfl) (h := ?_) | fail)
  refine sil_nil (hK _ ?_)
  refine AW.less (sl' := [(5, vB true), (6, .av (.sc (.sl 2 [slC t0, slC t1]))), (7, .av (.sc (.sl 2 [slC u0, slC u1]))), (8, .av (.sc zA)), (9, vI e), (10, .av (.sc (scB ((mgu t0 u0).1.map toI)))), (11, vI (mgu t0 u0).2)]) (AllIn.less ⟨rfl, rfl, rfl, rfl, rfl, rfl, rfl, trivial⟩) ?_
  obtain ⟨g, hg⟩ : ∃ g, g = (mgu t0 u0).2 := ⟨_, rfl⟩
  have h3 := mgu_three rt0 ru0
  obtain ⟨o, ho⟩ : ∃ o, o = (mgu t0 u0).1 := ⟨_, rfl⟩
  rw [← hg, ← ho] at h3 ⊢
  clear hK K
  refine aw_seq ?_
  refine aw_region_seq C (pb := false) rfl fun K hK => ?_
  repeat' (first | refine wy0 (h := ?_) | fail)
  refine awOps_nil (hK _ _ ?_)
  clear hK K
  refine aw_cond (by rfl) ?_ ?_
  · intro hc0
    have hg3 : (mgu t0 u0).2 = 3 := by rw [← hg]; simpa using hc0
    have he3 : e = 3 := by rw [he, hA, hB]; exact parts_none rt0 rt1 ru0 ru1 (hA ▸ rA) (hB ▸ rB) hg3
    subst he3
    have e1 : ((3 : Int) == 3) = true := rfl
    refine aw_region_seq C (pb := false) rfl fun K hK => ?_
    repeat' (first | refine wy1 (a := by simp only [go_sem, ↓reduceIte, Nat.reduceEqDiff, reduceCtorEq, Nat.reduceAdd, Nat.reduceMul, Nat.reduceLeDiff, aLoad, aStore, e1]; exact rfl) (h := ?_) | refine wn (h := ?_) | fail)
    refine awOps_nil (hK _ _ ?_)
    clear hK K
    refine aw_ret ?_
    try simp only [thenA_normal, thenA_ret, thenA_exit, blockA_normal, blockA_ret, blockA_exit]
    simp only [go_sem, ↓reduceIte, Nat.reduceEqDiff, reduceCtorEq, Nat.reduceAdd, Nat.reduceMul, Nat.reduceLeDiff, aLoad, aStore, FnQ, resA]
    -- 0t.ret
    exact fun _ => ⟨by first | rfl | trivial, hJ.2.1, hJ.2.2, by first | rfl | trivial⟩
  · intro hc0
    refine aw_skip ?_
    simp only [thenA_normal, thenA_ret, thenA_exit, blockA_normal, blockA_ret, blockA_exit, ↓reduceIte, Nat.reduceEqDiff]
    refine aw_seq ?_
    refine aw_region_seq C (pb := false) rfl fun K hK => ?_
    repeat' (first | refine wy0 (h := ?_) | fail)
    refine awOps_nil (hK _ _ ?_)
    clear hK K
    refine aw_cond (by rfl) ?_ ?_
    · intro hc1
      have hg2 : (mgu t0 u0).2 = 2 := by rw [← hg]; simpa using hc1
      have he0 : (e != 0) = true := bne_iff_ne.2 (by rw [he, hA, hB]; exact parts_big rt0 rt1 ru0 ru1 (hA ▸ rA) (hB ▸ rB) hg2)
      refine aw_region_seq C (pb := false) rfl fun K hK => ?_
      repeat' (first | refine wy1 (a := by simp only [go_sem, ↓reduceIte, Nat.reduceEqDiff, reduceCtorEq, Nat.reduceAdd, Nat.reduceMul, Nat.reduceLeDiff, aLoad, aStore, he0]; exact rfl) (h := ?_) | refine wn (h := ?_) | fail)
      refine awOps_nil (hK _ _ ?_)
      clear hK K
      refine aw_ret ?_
      try simp only [thenA_normal, thenA_ret, thenA_exit, blockA_normal, blockA_ret, blockA_exit]
      simp only [go_sem, ↓reduceIte, Nat.reduceEqDiff, reduceCtorEq, Nat.reduceAdd, Nat.reduceMul, Nat.reduceLeDiff, aLoad, aStore, FnQ, resA]
      -- 0f1t.ret
      exact fun _ => ⟨by first | rfl | trivial, hJ.2.1, hJ.2.2, by first | rfl | trivial⟩
    · intro hc1
      rcases h3 with ⟨_, _, h, _⟩ | ⟨_, σ, hσ, hsm, rfl⟩
      · rcases h with rfl | rfl
        · cases hc0
        · cases hc1
      obtain ⟨bs, hbs⟩ : ∃ bs, bs = (bnds σ).map toI := ⟨_, rfl⟩
      have hbm := bmap_norm rt0 ru0 hσ
      have hbr := right_tms (bnds_right rt0 ru0 hσ hsm)
      have hbl := bnds_len hsm
      rw [← hbs] at hbm hbr hbl ⊢
      have hz := scB_gsl bs
      obtain ⟨z, hz'⟩ : ∃ z, z = scB bs := ⟨_, rfl⟩
      rw [← hz'] at hz ⊢
      obtain ⟨p, hp⟩ : ∃ p, p = appT σ t1 := ⟨_, rfl⟩
      obtain ⟨q, hq⟩ : ∃ q, q = appT σ u1 := ⟨_, rfl⟩
      have hp1 : appT (bmap bs) t1 = p := by rw [hbm, hp]
      have hq1 : appT (bmap bs) u1 = q := by rw [hbm, hq]
      obtain ⟨gp, hgp⟩ : ∃ g, g = decide (p.length ≤ 200) := ⟨_, rfl⟩
      obtain ⟨gq, hgq⟩ : ∃ g, g = decide (q.length ≤ 200) := ⟨_, rfl⟩
      have hi61 : aIndex T 40 (.av (.sc (.sl 2 [slC t0, slC t1]))) (.av (.sc (.int .i64 1))) = some (.av (.sc (.cptr [slC t1]))) := idxT (l := [slC t0, slC t1]) (.inr rfl) (i := 1) (by simp)
      have hi71 : aIndex T 40 (.av (.sc (.sl 2 [slC u0, slC u1]))) (.av (.sc (.int .i64 1))) = some (.av (.sc (.cptr [slC u1]))) := idxT (l := [slC u0, slC u1]) (.inr rfl) (i := 1) (by simp)
      refine aw_skip ?_
      simp only [thenA_normal, thenA_ret, thenA_exit, blockA_normal, blockA_ret, blockA_exit, ↓reduceIte, Nat.reduceEqDiff]
      refine aw_region_seq C (pb := false) rfl fun K hK => ?_
      repeat' (first | refine wy1 (a := by simp only [go_sem, ↓reduceIte, Nat.reduceEqDiff, reduceCtorEq, Nat.reduceAdd, Nat.reduceMul, Nat.reduceLeDiff, aLoad, aStore, hi61]; exact rfl) (h := ?_) | fail)
      refine wc (And.intro Try.call21 (fnApplyG L hp1 hgp _ z _ hz (gslC t1) hbl rt1)) ?_
      rintro _ _ ⟨⟨y1, rfl, hy1⟩, rfl⟩
      repeat' (first | refine wy1 (a := by simp only [go_sem, ↓reduceIte, Nat.reduceEqDiff, reduceCtorEq, Nat.reduceAdd, Nat.reduceMul, Nat.reduceLeDiff, aLoad, aStore, hi61]; exact rfl) (h := ?_) | fail)
      refine awOps_nil (hK _ _ ?_)
      clear hK K
      refine aw_region_seq C (pb := false) rfl fun K hK => ?_
      repeat' (first | refine wy1 (a := by simp only [go_sem, ↓reduceIte, Nat.reduceEqDiff, reduceCtorEq, Nat.reduceAdd, Nat.reduceMul, Nat.reduceLeDiff, aLoad, aStore, hi71]; exact rfl) (h := ?_) | fail)
      refine wc (And.intro Try.call21 (fnApplyG L hq1 hgq _ z _ hz (gslC u1) hbl ru1)) ?_
      rintro _ _ ⟨⟨y2, rfl, hy2⟩, rfl⟩
      repeat' (first | refine wy1 (a := by simp only [go_sem, ↓reduceIte, Nat.reduceEqDiff, reduceCtorEq, Nat.reduceAdd, Nat.reduceMul, Nat.reduceLeDiff, aLoad, aStore, hi71]; exact rfl) (h := ?_) | fail)
      refine awOps_nil (hK _ _ ?_)
      clear hK K
      refine aw_seq ?_
      refine aw_cut_seq C (pb := false) [(5, vB true), (6, .av (.sc (.sl 2 [slC t0, slC t1]))), (7, .av (.sc (.sl 2 [slC u0, slC u1]))), (8, .av (.sc zA)), (9, vI e), (10, .av (.sc z)), (12, .av (.sc y1)), (14, .av (.sc y2)), (88, vB (!gp || !gq))] rfl ?_ fun n11 hn11 => ?_
      · cases hA0 : (gp : Bool)
        all_goals (repeat' (first | refine wy1 (a := by simp only [go_sem, ↓reduceIte, Nat.reduceEqDiff, reduceCtorEq, Nat.reduceAdd, Nat.reduceMul, Nat.reduceLeDiff, aLoad, aStore, hA0]; exact rfl) (h := ?_) | refine wn (h := ?_) | fail))
        all_goals (exact awOps_nil ⟨⟨rfl, rfl, rfl, rfl, rfl, rfl, rfl, rfl, rfl, trivial⟩, rfl, (by first | omega | (dsimp only; omega)), rfl⟩)
      refine aw_cond (by rfl) ?_ ?_
      · intro hc2
        refine aw_region_seq C (pb := false) rfl fun K hK => ?_
        repeat' (first | refine wy0 (h := ?_) | fail)
        refine awOps_nil (hK _ _ ?_)
        clear hK K
        refine aw_ret ?_
        try simp only [thenA_normal, thenA_ret, thenA_exit, blockA_normal, blockA_ret, blockA_exit]
        simp only [go_sem, ↓reduceIte, Nat.reduceEqDiff, reduceCtorEq, Nat.reduceAdd, Nat.reduceMul, Nat.reduceLeDiff, aLoad, aStore, FnQ, resA]
        -- 0f1f2t.ret
        exact fun _ => ⟨by first | rfl | trivial, hJ.2.1, hJ.2.2, by first | rfl | trivial⟩
      · intro hc2
        obtain ⟨rfl, rfl⟩ : gp = true ∧ gq = true := by
          cases gp <;> cases gq <;> first | exact ⟨rfl, rfl⟩ | cases hc2
        have lp := of_decide_eq_true hgp.symm
        have lq := of_decide_eq_true hgq.symm
        have rp : RTm p := by rw [hp]; exact put_tm rt0 ru0 hσ rt1 (by rw [← hp]; exact lp)
        have rq : RTm q := by rw [hq]; exact put_tm rt0 ru0 hσ ru1 (by rw [← hq]; exact lq)
        obtain rfl := gsl_cells (hy1 rfl) rp.pos
        obtain rfl := gsl_cells (hy2 rfl) rq.pos
        refine aw_skip ?_
        simp only [thenA_normal, thenA_ret, thenA_exit, blockA_normal, blockA_ret, blockA_exit, ↓reduceIte, Nat.reduceEqDiff]
        refine aw_region_seq C (pb := false) rfl fun K hK => ?_
        repeat' (first | refine wy0 (h := ?_) | fail)
        (refine wc (And.intro Try.call13 (fnMguV L rp rq _)) ?_; rintro _ _ ⟨rfl, rfl⟩)
        repeat' (first | refine wy0 (h := ?_) | fail)
        refine awOps_nil (hK _ _ ?_)
        refine AW.less (sl' := [(5, vB true), (6, .av (.sc (.sl 2 [slC t0, slC t1]))), (7, .av (.sc (.sl 2 [slC u0, slC u1]))), (8, .av (.sc zA)), (9, vI e), (10, .av (.sc z)), (12, vC p), (14, vC q), (16, .av (.sc (scB ((mgu p q).1.map toI)))), (17, vI (mgu p q).2)]) (AllIn.less ⟨rfl, rfl, rfl, rfl, rfl, rfl, rfl, rfl, rfl, rfl, trivial⟩) ?_
        clear hK K
        refine aw_seq ?_
        have h4 := mgu_three rp rq
        obtain ⟨h, hh'⟩ : ∃ h, h = (mgu p q).2 := ⟨_, rfl⟩
        obtain ⟨o2', ho2'⟩ : ∃ o, o = (mgu p q).1 := ⟨_, rfl⟩
        rw [← hh', ← ho2'] at h4 ⊢
        refine aw_region_seq C (pb := false) rfl fun K hK => ?_
        repeat' (first | refine wy0 (h := ?_) | fail)
        refine awOps_nil (hK _ _ ?_)
        clear hK K
        refine aw_cond (by rfl) ?_ ?_
        · intro hc3
          have hh : h = 3 ∨ h = 2 := by
            rcases h4 with ⟨_, _, h, _⟩ | ⟨h, _⟩
            · exact h
            · rw [h] at hc3; cases hc3
          refine aw_cut_seq C (pb := false) [(4, vB true)] rfl ?_ fun n15 hn15 => ?_
          · rcases hh with hh | hh
            · have he3 : e = 3 := by rw [he, hA, hB]; exact second_none rt0 rt1 ru0 ru1 (hA ▸ rA) (hB ▸ rB) hσ (hp ▸ rp) (hq ▸ rq) (by rw [← hp, ← hq, ← hh']; exact hh)
              subst he3 hh
              have e1 : ((3 : Int) == 3) = true := rfl
              have e2 : (true == true) = true := rfl
              have e3 : ((3 : Int) != 0) = true := rfl
              repeat' (first | refine wy1 (a := by simp only [go_sem, ↓reduceIte, Nat.reduceEqDiff, reduceCtorEq, Nat.reduceAdd, Nat.reduceMul, Nat.reduceLeDiff, aLoad, aStore, e1, e2, e3]; exact rfl) (h := ?_) | refine wn (h := ?_) | fail)
              exact awOps_nil ⟨⟨rfl, trivial⟩, rfl, (by first | omega | (dsimp only; omega)), rfl⟩
            · have he2 : e = 2 := by rw [he, hA, hB]; exact second_big rt0 rt1 ru0 ru1 (hA ▸ rA) (hB ▸ rB) hσ (hp ▸ rp) (hq ▸ rq) (by rw [← hp, ← hq, ← hh']; exact hh)
              subst he2 hh
              have e1 : ((2 : Int) == 3) = false := rfl
              have e2 : (false == false) = true := rfl
              have e3 : ((2 : Int) != 0) = true := rfl
              repeat' (first | refine wy1 (a := by simp only [go_sem, ↓reduceIte, Nat.reduceEqDiff, reduceCtorEq, Nat.reduceAdd, Nat.reduceMul, Nat.reduceLeDiff, aLoad, aStore, e1, e2, e3]; exact rfl) (h := ?_) | refine wn (h := ?_) | fail)
              exact awOps_nil ⟨⟨rfl, trivial⟩, rfl, (by first | omega | (dsimp only; omega)), rfl⟩
          refine aw_ret ?_
          try simp only [thenA_normal, thenA_ret, thenA_exit, blockA_normal, blockA_ret, blockA_exit]
          simp only [go_sem, ↓reduceIte, Nat.reduceEqDiff, reduceCtorEq, Nat.reduceAdd, Nat.reduceMul, Nat.reduceLeDiff, aLoad, aStore, FnQ, resA]
          -- 0f1f2f3t.ret
          exact fun _ => ⟨by first | rfl | trivial, hJ.2.1, hJ.2.2, by first | rfl | trivial⟩
        · intro hc3
          rcases h4 with ⟨h, _⟩ | ⟨rfl, τ, hτ, hsm2, rfl⟩
          · exact absurd (by simpa using hc3) h
          have hcn := comp_norm rt0 rt1 ru0 ru1 hσ (hp ▸ rp) (hq ▸ rq) (hp ▸ hq ▸ hτ)
          have hmA : mgu A B = mguO fun n => appT τ (σ n) := by rw [hA, hB]; exact mgu_norm (hA ▸ rA) (hB ▸ rB) hcn
          obtain ⟨cs, hcs⟩ : ∃ bs, bs = (bnds τ).map toI := ⟨_, rfl⟩
          have hcm := bmap_norm rp rq hτ
          have hcr := right_tms (bnds_right rp rq hτ hsm2)
          have hcl := bnds_len hsm2
          rw [← hcs] at hcm hcr hcl ⊢
          have hw := scB_gsl cs
          obtain ⟨k, hk⟩ : ∃ k : Bool, k = true ↔ small fun n => appT τ (σ n) := by
            by_cases hs : small fun n => appT τ (σ n)
            · exact ⟨true, fun _ => hs, fun _ => rfl⟩
            · exact ⟨false, fun h => (by cases h), fun h => absurd h hs⟩
          refine aw_skip ?_
          simp only [thenA_normal, thenA_ret, thenA_exit, blockA_normal, blockA_ret, blockA_exit, ↓reduceIte, Nat.reduceEqDiff]
          refine aw_region_seq C (pb := false) rfl fun K hK => ?_
          repeat' (first | refine wy0 (h := ?_) | fail)
          refine wc (And.intro Try.call27 (fnCmp L hbm hcm hsm2 hcn.vc hk _ z _ hz hw ⟨hbl.1, hbr⟩ ⟨hcl.1, hcr⟩)) ?_
          rintro _ _ ⟨⟨z3, rfl, hz3⟩, rfl⟩
          repeat' (first | refine wy0 (h := ?_) | fail)
          refine awOps_nil (hK _ _ ?_)
          clear hK K
          refine aw_seq ?_
          refine aw_region_seq C (pb := false) rfl fun K hK => ?_
          repeat' (first | refine wy0 (h := ?_) | fail)
          refine awOps_nil (hK _ _ ?_)
          clear hK K
          refine aw_cond (by rfl) ?_ ?_
          · intro hc4
            have hns : ¬ small fun n => appT τ (σ n) := fun h => by rw [hk.2 h] at hc4; cases hc4
            have he2 : e = 2 := by rw [he, hmA, mguO_big hns]
            subst he2
            have e1 : ((2 : Int) == 2) = true := rfl
            refine aw_region_seq C (pb := false) rfl fun K hK => ?_
            repeat' (first | refine wy1 (a := by simp only [go_sem, ↓reduceIte, Nat.reduceEqDiff, reduceCtorEq, Nat.reduceAdd, Nat.reduceMul, Nat.reduceLeDiff, aLoad, aStore, e1]; exact rfl) (h := ?_) | refine wn (h := ?_) | fail)
            refine awOps_nil (hK _ _ ?_)
            clear hK K
            refine aw_ret ?_
            try simp only [thenA_normal, thenA_ret, thenA_exit, blockA_normal, blockA_ret, blockA_exit]
            simp only [go_sem, ↓reduceIte, Nat.reduceEqDiff, reduceCtorEq, Nat.reduceAdd, Nat.reduceMul, Nat.reduceLeDiff, aLoad, aStore, FnQ, resA]
            -- 0f1f2f3f4t.ret
            exact fun _ => ⟨by first | rfl | trivial, hJ.2.1, hJ.2.2, by first | rfl | trivial⟩
          · intro hc4
            have hkt : k = true := by cases k with | true => rfl | false => cases hc4
            have hsc := hk.1 hkt
            have hmm : mgu A B = (bnds (fun n => appT τ (σ n)), 0) := by rw [hmA, mguO_small hsc]
            have he0 : e = 0 := by rw [he, hmm]
            subst he0
            have e1 : ((0 : Int) == 0) = true := rfl
            have ho' : oA.map toI = (bnds (fun n => appT τ (σ n))).map toI := by rw [hoA, hmm]
            rw [ho'] at hzA
            have hz4 := hz3 hkt
            have hbl3 := bnds_len hsc
            refine aw_skip ?_
            simp only [thenA_normal, thenA_ret, thenA_exit, blockA_normal, blockA_ret, blockA_exit, ↓reduceIte, Nat.reduceEqDiff]
            refine aw_region_seq C (pb := false) rfl fun K hK => ?_
            repeat' (first | refine wy1 (a := by simp only [go_sem, ↓reduceIte, Nat.reduceEqDiff, reduceCtorEq, Nat.reduceAdd, Nat.reduceMul, Nat.reduceLeDiff, aLoad, aStore, e1]; exact rfl) (h := ?_) | refine wn (h := ?_) | fail)
            refine wc (And.intro Try.call17 (fnSameE L _ _ zA z3 hzA hz4 hbl3)) ?_
            rintro _ _ ⟨rfl, rfl⟩
            repeat' (first | refine wy1 (a := by simp only [go_sem, ↓reduceIte, Nat.reduceEqDiff, reduceCtorEq, Nat.reduceAdd, Nat.reduceMul, Nat.reduceLeDiff, aLoad, aStore, e1]; exact rfl) (h := ?_) | refine wn (h := ?_) | fail)
            refine awOps_nil (hK _ _ ?_)
            clear hK K
            refine aw_ret ?_
            simp only [go_sem, ↓reduceIte, Nat.reduceEqDiff, reduceCtorEq, Nat.reduceAdd, Nat.reduceMul, Nat.reduceLeDiff, aLoad, aStore, FnQ, resA]
            -- 0f1f2f3f4f.ret
            exact fun _ => ⟨by first | rfl | trivial, hJ.2.1, hJ.2.2, by first | rfl | trivial⟩
end Go.Am.Seat
/-
  UnifyParts: for every input the law returns true, and each argument reads as it read: the row, out of the walk's contract (fn7) and the plain law.
-/
namespace Go.Proofs.Yticnfndhinjbbaa.unifyParts
open Go.ChangeShapes Go.WideShapes Go.ChangeAt Go.RowKit Go.Am Go.Am.Seat
theorem own : ownKnob Try.prog.godebug = none := by kernel_rfl
theorem laidOut : laidOutB Try.prog = true := by kernel_rfl
set_option maxRecDepth 100000 in
theorem lifted (os : Os) (started : os.Started) (H : Type) (enc : TypeId × Value → H) :
    ReturnsInHanded {} Try.checked os 7 .any (Rows.unifyPartsSpec.pre6 enc Try.prog Try.f7 Rows.unifyPartsRow.domain false) (Rows.unifyPartsSpec.post enc Try.prog Try.f7 false true false false) := by
  refine returnsInHanded_of_change_sized (C := Try.checked) own started (by kernel_rfl) Try.func7
    (ChangeSpec.witness6 (enc := enc) (C := Try.checked) false ⟨#[], #[.agg #[.slice none 0 0, .slice none 0 0], .agg #[.slice none 0 0, .slice none 0 0]], []⟩ 8 (by kernel_rfl) (by kernel_rfl) (by kernel_rfl) (by kernel_rfl)) ?_
  intro W base args ds gs before hval0 hW hcnd hsz0 _
  have hsz : (DataW.weightsEach Try.prog (Try.f7.params.toList ++ Rows.unifyPartsSpec.plain.varTypes Try.prog) (ds ++ gs)).all (· ≤ reachBytes) = true := hsz0
  have hval : ∀ (j : Nat) t v, Try.f7.params[j]? = some t → args[j]? = some v → Value.okWide Try.prog W .any base t v := hval0
  have hW' := hW
  obtain ⟨p, q, hA0, hV, rfl, hfz, hnd⟩ := hW
  have hA : DataW.TrodAll enc Try.prog W 0 (fun _ => true) true Try.f7.params.toList args.toList ds p := hA0
  rw [Try.params7] at hA hval hsz
  obtain ⟨v0, vs0, d0, ds0, p0, q0, hargs, rfl, rfl, h0, r0⟩ := trodAll_cons hA
  obtain ⟨v1, vs1, d1, ds1, p1, q1, rfl, rfl, rfl, h1, r1⟩ := trodAll_cons r0
  obtain ⟨rfl, rfl, rfl⟩ := trodAll_nil r1
  obtain rfl : args = #[v0, v1] := by cases args; simp_all
  obtain ⟨rfl, rfl⟩ := trodVars_none hV
  have k0 := h0
  have lt0 : ∀ x ∈ p0, x.block < W.heap.size := by obtain ⟨m, hm⟩ := k0; exact DataW.trod_lt m _ _ _ hm
  obtain ⟨q0, l0, ⟨u0, w0, hv0, hs0, ht0⟩, ho0, hp0⟩ := open_pair (hval 0 45 v0 rfl rfl) h0 fun n hn => by
    have := List.all_eq_true.1 hsz n (DataW.weights_mem_each (j := 0) (t := 45) rfl rfl n hn)
    simpa using this
  subst hv0
  have k1 := h1
  have lt1 : ∀ x ∈ p1, x.block < W.heap.size := by obtain ⟨m, hm⟩ := k1; exact DataW.trod_lt m _ _ _ hm
  obtain ⟨q1, l1, ⟨u1, w1, hv1, hs1, ht1⟩, ho1, hp1⟩ := open_pair (hval 1 45 v1 rfl rfl) h1 fun n hn => by
    have := List.all_eq_true.1 hsz n (DataW.weights_mem_each (j := 1) (t := 45) rfl rfl n hn)
    simpa using this
  subst hv1
  clear hA0 hval0 hsz0
  have hc := calls_of (s := ⟨fun _ => .dead, 0, fun _ => .ready⟩) rfl (fn7 noL l0.1 l0.2 l1.1 l1.2 _ q0.1 q0.2 q1.1 q1.2 ho0 hp0 ho1 hp1) (W := W) (vs := [.agg #[u0, w0], .agg #[u1, w1]]) (VRs.cons (by simp only [VR, ARs, AR]; exact ⟨[u0, w0], rfl, _, _, rfl, hs0, _, _, rfl, ht0, rfl⟩) (VRs.cons (by simp only [VR, ARs, AR]; exact ⟨[u1, w1], rfl, _, _, rfl, hs1, _, _, rfl, ht1, rfl⟩) VRs.nil))
  refine hc.mono fun e W' ⟨⟨v, m', G', he, hvr⟩, bel⟩ => ?_
  simp only [VR, AR, SR] at hvr
  subst hvr
  subst he
  exact ⟨_, rfl, _, _, _, [], _, [], hW', trodAll_mk1 (shut_bool Try.underlying4 _), (trodAll_cons_mk (Below.trod laidOut (by kernel_rfl) (of_decide_eq_true (by kernel_rfl)) k0 bel lt0) (trodAll_cons_mk (Below.trod laidOut (by kernel_rfl) (of_decide_eq_true (by kernel_rfl)) k1 bel lt1) trodAll_mk0)), rfl, bel.frame _, fun h => by cases h⟩
theorem over : Rows.unifyPartsRow.holds Try.pinned (OpenSpec.ofChange Rows.unifyPartsSpec) :=
  OpenClaim.holds_of_wide 7 Try.f7 rfl rfl rfl rfl rfl rfl rfl ⟨rfl, rfl, rfl, rfl, rfl⟩ rfl rfl rfl rfl rfl (by kernel_rfl) Try.func7 (by kernel_rfl)
    (of_decide_eq_true (by kernel_rfl)) (by unfold Func.isWrapper; first | (rw [if_pos (by decide +kernel)]; kernel_rfl) | (rw [if_neg (by decide +kernel)]; exact ⟨rfl, rfl⟩))
    (fun os started H enc _ => lifted os started H enc)
theorem proved : Rows.UnifyPartsSaid := over
#print axioms proved
end Go.Proofs.Yticnfndhinjbbaa.unifyParts
namespace Go.Proofs.Yticnfndhinjbbaa
/-- The row, under a short name, for the claim. -/
theorem unifyParts_holds : Rows.UnifyPartsSaid := unifyParts.proved
end Go.Proofs.Yticnfndhinjbbaa
/-
  UnifyMost and UnifyParts: for every input each law returns true, and each argument reads as it read: the rows, out of the walks' contracts (fn5, fn7) and the plain law.
-/
