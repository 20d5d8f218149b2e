/-
  UnifyApart: for every input the law returns true, and each argument reads as it read: the row, out of the walk's contract (fn10) and the plain law.
-/
import Derived.Below
import Derived.ChangeOld
import Derived.OpenShut
import Derived.ProofKit
import Derived.ShutString
import Derived.SizedLaws
import Derived.Test.YticnfndhinjbbaaRows
import Derived.WalkKit
import Derived.Test.YticnfndhinjbbaaMA6
set_option linter.unusedVariables false
set_option linter.unusedSimpArgs false
/-
  PARTS: two terms of one name, of two parts each, are made alike part by part.
-/
namespace Go.Am.Seat
open Go.Proofs
theorem appT_comp (u s : Int → List Cell) : ∀ l : List Cell, appT u (appT s l) = appT (fun n => appT u (s n)) l
  | [] => rfl
  | c :: l => by
    have e0 : ∀ s : Int → List Cell, appT s (c :: l) = (if c.kind = 1 then s c.n else [c]) ++ appT s l := fun s => by simp [appT]
    rw [e0, e0, appT_append, appT_comp u s l]
    congr 1
    split
    · rfl
    · rename_i hk
      simp [appT, hk]
theorem appT_mem {s : Int → List Cell} {c : Cell} : ∀ {l : List Cell}, c ∈ appT s l → (c ∈ l ∧ ¬ c.kind = 1) ∨ ∃ n, occ l n ∧ c ∈ s n
  | [], h => by simp [appT] at h
  | d :: l, h => by
    have e0 : appT s (d :: l) = (if d.kind = 1 then s d.n else [d]) ++ appT s l := by simp [appT]
    rw [e0] at h
    rcases List.mem_append.1 h with h | h
    · split at h
      · rename_i hk
        exact .inr ⟨d.n, ⟨d, by simp, hk, rfl⟩, h⟩
      · rename_i hk
        rw [List.mem_singleton] at h
        subst h
        exact .inl ⟨by simp, hk⟩
    · rcases appT_mem h with ⟨h1, h2⟩ | ⟨n, ⟨e, h1, h2, h3⟩, h4⟩
      · exact .inl ⟨by simp [h1], h2⟩
      · exact .inr ⟨n, ⟨e, by simp [h1], h2, h3⟩, h4⟩
/-- A term into which a normal one is put is right, if it is not too long. -/
theorem put_tm {a b l : List Cell} (ha : RTm a) (hb : RTm b) {s : Int → List Cell} (h : NormO a b s) (hl : RTm l) (hs : (appT s l).length ≤ 200) : RTm (appT s l) := by
  refine ⟨appT_tk h.tm hl.tk, fun c hc => ?_, Nat.le_trans hl.pos (appT_len h.tm l), hs⟩
  rcases appT_mem hc with ⟨h1, _⟩ | ⟨n, h1, h2⟩
  · exact hl.ok c h1
  · by_cases ho : occ (a ++ b) n
    · exact (h.ok n ho c h2).1
    · rw [h.out n ho, List.mem_singleton] at h2
      obtain ⟨e, h3, h4, h5⟩ := h1
      have := ok_varCell (hl.ok e h3) h4
      rw [h5] at this
      rw [h2, ← this]
      exact hl.ok e h3
theorem appT_mkF (s : Int → List Cell) (a b : List Cell) : appT s (mkF [a, b]) = ⟨3, nmF, 2⟩ :: (appT s a ++ appT s b) := by
  rw [mkF, show (([a, b] : List (List Cell)).length : Int) = 2 from rfl, appT_cons s (by decide : ¬ (Cell.mk 3 nmF 2).kind = 1)]
  simp [appT_append]
theorem two_iff {s : Int → List Cell} (hs : Terms s) {a b c d : List Cell} (ha : RTm a) (hc : RTm c) : appT s (mkF [a, b]) = appT s (mkF [c, d]) ↔ appT s a = appT s c ∧ appT s b = appT s d := by
  rw [appT_mkF, appT_mkF]
  constructor
  · intro h
    have h := (List.cons.inj h).2
    have h1 := takes_app (r := appT s b) (appT_tk hs ha.tk)
    rw [h, takes_app (r := appT s d) (appT_tk hs hc.tk)] at h1
    exact List.append_inj h (Option.some.inj h1).symm
  · rintro ⟨h1, h2⟩
    rw [h1, h2]
theorem occ_app {a b : List Cell} {n : Int} : occ (a ++ b) n ↔ occ a n ∨ occ b n := by
  constructor
  · rintro ⟨c, h1, h2⟩
    exact (List.mem_append.1 h1).imp (fun h => ⟨c, h, h2⟩) fun h => ⟨c, h, h2⟩
  · rintro (⟨c, h1, h2⟩ | ⟨c, h1, h2⟩)
    · exact ⟨c, List.mem_append_left _ h1, h2⟩
    · exact ⟨c, List.mem_append_right _ h1, h2⟩
theorem occ_mkF {a b : List Cell} {n : Int} : occ (mkF [a, b]) n ↔ occ a n ∨ occ b n := by
  rw [← occ_app]
  constructor
  · rintro ⟨c, h1, h2, h3⟩
    rcases List.mem_cons.1 h1 with rfl | h1
    · cases h2
    · exact ⟨c, by simpa using h1, h2, h3⟩
  · rintro ⟨c, h1, h2⟩
    exact ⟨c, List.mem_cons_of_mem _ (by simpa using h1), h2⟩
section
variable {a b c d : List Cell} {s u : Int → List Cell}
theorem pair_tm (ha : RTm a) (hb : RTm b) (h1 : a.length ≤ 12) (h2 : b.length ≤ 12) : RTm (mkF [a, b]) := by
  refine mkF_tm (fun l hl => ?_) (by simp only [List.flatten_cons, List.flatten_nil, List.length_append, List.length_nil]; omega) (by simp)
  simp only [List.mem_cons, List.not_mem_nil, or_false] at hl
  rcases hl with rfl | rfl
  · exact ha
  · exact hb
/-- Both, one behind the other. -/
theorem comp_norm (ha : RTm a) (hb : RTm b) (hc : RTm c) (hd : RTm d) (h : NormO a c s) (hp : RTm (appT s b)) (hq : RTm (appT s d)) (k : NormO (appT s b) (appT s d) u) : NormO (mkF [a, b]) (mkF [c, d]) fun n => appT u (s n) := by
  have ho1 : ∀ n, occ (a ++ c) n → occ (mkF [a, b] ++ mkF [c, d]) n := fun n hn => by
    rw [occ_app, occ_mkF, occ_mkF]
    rcases occ_app.1 hn with h | h
    · exact .inl (.inl h)
    · exact .inr (.inl h)
  have hs : ∀ n m, occ (mkF [a, b] ++ mkF [c, d]) n → occ (s n) m → occ (mkF [a, b] ++ mkF [c, d]) m := fun n m hn ⟨e, h1, h2, h3⟩ => by
    by_cases ho : occ (a ++ c) n
    · exact ho1 _ (h3 ▸ (h.ok n ho e h1).2 h2)
    · rw [h.out n ho, List.mem_singleton] at h1
      subst h1
      rw [← h3]; exact hn
  have ho2 : ∀ n, occ (appT s b ++ appT s d) n → occ (mkF [a, b] ++ mkF [c, d]) n := fun n hn => by
    rw [occ_app] at hn
    have key : ∀ {l : List Cell}, (∀ m, occ l m → occ (mkF [a, b] ++ mkF [c, d]) m) → occ (appT s l) n → occ (mkF [a, b] ++ mkF [c, d]) n := fun {l} hl ⟨e, h1, h2, h3⟩ => by
      rcases appT_mem h1 with ⟨_, h4⟩ | ⟨m, h4, h5⟩
      · exact absurd h2 h4
      · exact hs m n (hl m h4) ⟨e, h5, h2, h3⟩
    rcases hn with hn | hn
    · exact key (fun m hm => by rw [occ_app, occ_mkF]; exact .inl (.inr hm)) hn
    · exact key (fun m hm => by rw [occ_app, occ_mkF, occ_mkF]; exact .inr (.inr hm)) hn
  have htm : Terms fun n => appT u (s n) := fun n => appT_tk k.tm (h.tm n)
  have habs : ∀ v, Terms v → appT v (mkF [a, b]) = appT v (mkF [c, d]) → (∀ n, appT v (s n) = v n) ∧ ∀ n, appT v (u n) = v n := fun v hv e => by
    obtain ⟨e1, e2⟩ := (two_iff hv ha hc).1 e
    have h1 := h.abs v hv e1
    have h3 : (fun n => appT v (s n)) = v := funext h1
    refine ⟨h1, k.abs v hv ?_⟩
    rw [appT_comp, appT_comp, h3, e2]
  refine ⟨⟨?_, htm, fun n e he hk => ?_, fun v hv e n => ?_, fun n m e => ?_⟩, fun n hn e he => ?_, fun n hn => ?_⟩
  · rw [two_iff htm ha hc, ← appT_comp, ← appT_comp, ← appT_comp, ← appT_comp, h.eq, k.eq]
    exact ⟨rfl, rfl⟩
  · rcases appT_mem he with ⟨_, h1⟩ | ⟨m, _, h1⟩
    · exact absurd hk h1
    · exact k.vc m e h1 hk
  · obtain ⟨h1, h2⟩ := habs v hv e
    rw [appT_comp, show (fun n => appT v (u n)) = v from funext h2, h1]
  · have hl := appT_len k.tm (s n)
    rw [e] at hl
    have := h.tm.pos n
    obtain ⟨x, hx⟩ := List.length_eq_one_iff.1 (show (s n).length = 1 by simp only [List.length_cons, List.length_nil] at hl; omega)
    rw [hx] at e
    by_cases hk : x.kind = 1
    · have hxv := h.vc n x (by rw [hx]; simp) hk
      rw [hxv, appT_var] at e
      rw [hxv] at hx
      have h1 := h.least n x.n hx
      have h2 := k.least x.n m e
      omega
    · have e2 : [x] = [varCell m] := by simpa [appT, hk] using e
      have := (List.cons.inj e2).1
      subst this
      exact absurd rfl hk
  · rcases appT_mem he with ⟨h1, h2⟩ | ⟨m, h1, h2⟩
    · refine ⟨?_, fun hk => absurd hk h2⟩
      by_cases ho : occ (a ++ c) n
      · exact (h.ok n ho e h1).1
      · rw [h.out n ho, List.mem_singleton] at h1
        subst h1
        exact absurd rfl h2
    · have hm := hs n m hn h1
      by_cases ho : occ (appT s b ++ appT s d) m
      · exact ⟨(k.ok m ho e h2).1, fun hk => ho2 _ ((k.ok m ho e h2).2 hk)⟩
      · rw [k.out m ho, List.mem_singleton] at h2
        subst h2
        refine ⟨?_, fun _ => hm⟩
        have hok : ∀ l ∈ [a, b, c, d], RTm l := by
          intro l hl
          simp only [List.mem_cons, List.not_mem_nil, or_false] at hl
          rcases hl with rfl | rfl | rfl | rfl
          · exact ha
          · exact hb
          · exact hc
          · exact hd
        have key : ∀ l ∈ [a, b, c, d], occ l m → cellOk (varCell m) = true := fun l hl ⟨e, h1, h2, h3⟩ => by
          have := (hok l hl).ok e h1
          rw [ok_varCell this h2, h3] at this
          exact this
        rw [occ_app, occ_mkF, occ_mkF] at hm
        rcases hm with (hm | hm) | (hm | hm)
        · exact key a (by simp) hm
        · exact key b (by simp) hm
        · exact key c (by simp) hm
        · exact key d (by simp) hm
  · have h1 : s n = [varCell n] := h.out n fun k => hn (ho1 n k)
    have h2 : u n = [varCell n] := k.out n fun k => hn (ho2 n k)
    rw [h1, appT_var, h2]
theorem big_of (h : ∀ n, appT s (u n) = s n) (hs : Terms s) (hu : ¬ small u) : ¬ small s := fun hm => hu fun n hn => by
  have := appT_len hs (u n)
  rw [h] at this
  exact Nat.le_trans this (hm n hn)
/-- What is told of two terms of two parts each. -/
theorem parts_none (ha : RTm a) (hb : RTm b) (hc : RTm c) (hd : RTm d) (hA : RTm (mkF [a, b])) (hC : RTm (mkF [c, d])) (h : (mgu a c).2 = 3) : (mgu (mkF [a, b]) (mkF [c, d])).2 = 3 := by
  rcases mgu_cases ha hc with ⟨_, h2⟩ | ⟨s, hs, h1⟩
  · rcases mgu_cases hA hC with ⟨h3, _⟩ | ⟨u, hu, _⟩
    · rw [h3]
    · exact absurd ((two_iff hu.tm ha hc).1 hu.eq).1 (h2 u hu.tm)
  · rw [h1] at h
    by_cases hm : small s
    · rw [mguO_small hm] at h; cases h
    · rw [mguO_big hm] at h; cases h
theorem parts_big (ha : RTm a) (hb : RTm b) (hc : RTm c) (hd : RTm d) (hA : RTm (mkF [a, b])) (hC : RTm (mkF [c, d])) (h : (mgu a c).2 = 2) : ¬ (mgu (mkF [a, b]) (mkF [c, d])).2 = 0 := by
  rcases mgu_cases ha hc with ⟨h1, _⟩ | ⟨s, hs, h1⟩
  · rw [h1] at h; cases h
  · rw [h1] at h
    have hm : ¬ small s := fun hm => by rw [mguO_small hm] at h; cases h
    rcases mgu_cases hA hC with ⟨h3, _⟩ | ⟨u, hu, h3⟩
    · rw [h3]; decide
    · have := big_of (hs.abs u hu.tm ((two_iff hu.tm ha hc).1 hu.eq).1) hu.tm hm
      rw [h3, mguO_big this]; decide
theorem second_none (ha : RTm a) (hb : RTm b) (hc : RTm c) (hd : RTm d) (hA : RTm (mkF [a, b])) (hC : RTm (mkF [c, d])) (hs : NormO a c s) (hp : RTm (appT s b)) (hq : RTm (appT s d)) (h : (mgu (appT s b) (appT s d)).2 = 3) : (mgu (mkF [a, b]) (mkF [c, d])).2 = 3 := by
  rcases mgu_cases hp hq with ⟨_, h2⟩ | ⟨u, hu, h1⟩
  · rcases mgu_cases hA hC with ⟨h3, _⟩ | ⟨v, hv, _⟩
    · rw [h3]
    · obtain ⟨e1, e2⟩ := (two_iff hv.tm ha hc).1 hv.eq
      have h1 := funext (hs.abs v hv.tm e1)
      exact absurd (show appT v (appT s b) = appT v (appT s d) by rw [appT_comp, appT_comp, h1, e2]) (h2 v hv.tm)
  · rw [h1] at h
    by_cases hm : small u
    · rw [mguO_small hm] at h; cases h
    · rw [mguO_big hm] at h; cases h
theorem second_big (ha : RTm a) (hb : RTm b) (hc : RTm c) (hd : RTm d) (hA : RTm (mkF [a, b])) (hC : RTm (mkF [c, d])) (hs : NormO a c s) (hp : RTm (appT s b)) (hq : RTm (appT s d)) (h : (mgu (appT s b) (appT s d)).2 = 2) : (mgu (mkF [a, b]) (mkF [c, d])).2 = 2 := by
  rcases mgu_cases hp hq with ⟨h1, _⟩ | ⟨u, hu, h1⟩
  · rw [h1] at h; cases h
  · rw [h1] at h
    have hm : ¬ small u := fun hm => by rw [mguO_small hm] at h; cases h
    have hn := comp_norm ha hb hc hd hs hp hq hu
    rw [mgu_norm hA hC hn]
    obtain ⟨e1, e2⟩ := (two_iff hn.tm ha hc).1 hn.eq
    have h1 := funext (hs.abs _ hn.tm e1)
    have := big_of (hu.abs _ hn.tm (by rw [appT_comp, appT_comp, h1, e2])) hn.tm hm
    rw [mguO_big this]
theorem hasB_false {x : List (Int × List Cell)} {v : Int} (h : hasB x v = false) : bmap x v = [varCell v] := by
  rcases bmap_place (a := x) (v := v) with ⟨_, h2⟩ | ⟨i, _, h1, _⟩
  · exact h2
  · rw [hasB, h1] at h
    have := of_decide_eq_false h
    omega
theorem cmp_law {x y : List (Int × List Cell)} (hx : bmap x = s) (hy : bmap y = u) (hu : small u) (hvc : ∀ n, ∀ e ∈ appT u (s n), e.kind = 1 → e = varCell e.n) : ∀ {ns : List Nat} {out : List (Int × List Cell)}, (∀ n ∈ ns, n < 1000) →
    cmpG x y ns out = if ns.any (fun n => decide (200 < (appT u (s (n : Nat))).length)) = true then none else some (out ++ (ns.filterMap (bnd fun n => appT u (s n))).map toI)
  | [], out, _ => by simp [cmpG]
  | n :: ns, out, hn => by
    have ih := fun out => cmp_law hx hy hu hvc (ns := ns) (out := out) fun m hm => hn m (by simp [hm])
    have hc1 : cmp1 x y n = appT u (s n) := by rw [cmp1, hx, hy]
    rw [cmpG, hc1, List.any_cons, List.filterMap_cons, bnd]
    by_cases h1 : hasB x n = false ∧ hasB y n = false
    · have e1 := hasB_false h1.1
      have e2 := hasB_false h1.2
      rw [hx] at e1
      rw [hy] at e2
      have e3 : appT u (s n) = [varCell n] := by rw [e1, appT_var, e2]
      rw [if_pos h1, ih, if_pos e3, e3]
      simp
    · rw [if_neg h1]
      by_cases h2 : 200 < (appT u (s n)).length
      · have hA : hasB x n = true := by
          cases hA : hasB x n with
          | true => rfl
          | false =>
            have e1 := hasB_false hA
            rw [hx] at e1
            rw [e1, appT_var] at h2
            have := hu n (hn n (by simp))
            omega
        rw [if_pos ⟨hA, h2⟩, decide_eq_true h2]
        simp
      · rw [if_neg fun k => h2 k.2, decide_eq_false h2, Bool.false_or]
        have hown : ownB n (appT u (s n)) = true ↔ appT u (s n) = [varCell n] := by
          constructor
          · intro h
            unfold ownB at h
            split at h
            · rename_i e he
              simp only [Bool.and_eq_true, beq_iff_eq] at h
              rw [he, hvc n e (by rw [he]; simp) h.1, h.2]
            · cases h
          · intro h
            rw [h]
            simp [ownB, varCell]
        by_cases h3 : appT u (s n) = [varCell n]
        · rw [if_pos (hown.2 h3), ih, if_pos h3]
        · rw [if_neg fun k => h3 (hown.1 k), ih, if_neg h3]
          simp [toI]
end
end Go.Am.Seat
/-
  APART: two terms without a common variable, one an instance of the other.
-/
namespace Go.Am.Seat
open Go.Proofs
theorem arC_map (g : Int → Int) (c : Cell) : arC (mapC g c) = arC c := by
  unfold mapC arC
  split
  · rename_i h
    simp [h]
  · rfl
theorem takes_map (g : Int → Int) : ∀ (l : List Cell) (n : Nat), takes (l.map (mapC g)) n = takes l n
  | [], 0 => rfl
  | [], n + 1 => rfl
  | c :: l, 0 => rfl
  | c :: l, n + 1 => by rw [List.map_cons, takes, takes, arC_map, takes_map g l]
theorem map_occ {g : Int → Int} {l : List Cell} {n : Int} (h : occ (l.map (mapC g)) n) : ∃ m, occ l m ∧ n = g m := by
  obtain ⟨c, hc, hk, e⟩ := h
  obtain ⟨d, hd, rfl⟩ := List.mem_map.1 hc
  unfold mapC at hk e
  by_cases h : d.kind = 1
  · rw [if_pos h] at e
    exact ⟨d.n, ⟨d, hd, h, rfl⟩, e.symm⟩
  · rw [if_neg h] at hk
    exact absurd hk h
theorem map_tm {g : Int → Int} {l : List Cell} (hl : RTm l) (hg : ∀ n, occ l n → 0 ≤ g n ∧ g n ≤ 999) : RTm (l.map (mapC g)) := by
  refine ⟨by rw [takes_map, hl.tk, List.length_map], fun c hc => ?_, by rw [List.length_map]; exact hl.pos, by rw [List.length_map]; exact hl.len⟩
  obtain ⟨d, hd, rfl⟩ := List.mem_map.1 hc
  have ho := hl.ok d hd
  unfold mapC
  by_cases h : d.kind = 1
  · rw [if_pos h]
    have h1 := ok_var ho h
    have h2 := hg d.n ⟨d, hd, h, rfl⟩
    rw [cellOk, if_pos h] at ho ⊢
    simp only [Bool.and_eq_true, decide_eq_true_eq] at ho ⊢
    exact ⟨⟨ho.1.1, h2.1⟩, h2.2⟩
  · rw [if_neg h]; exact ho
theorem num_tm {t : List Cell} (ht : RTm t) : RTm (numG t) ∧ ∀ n, occ (numG t) n → 0 ≤ n ∧ n < t.length := by
  have key : ∀ n, occ t n → 0 ≤ placeI (varsG t []) n 0 ∧ placeI (varsG t []) n 0 < t.length := fun n hn => by
    obtain ⟨j, h1, h2⟩ := placeI_get (i := 0) (varsG_occ.2 hn)
    have h3 := (List.getElem?_eq_some_iff.1 h2).1
    have h4 := varsG_len t []
    simp only [List.length_nil] at h4
    rw [h1]
    omega
  have hl := ht.len
  refine ⟨map_tm ht fun n hn => by have := key n hn; omega, fun n hn => ?_⟩
  obtain ⟨m, hm, rfl⟩ := map_occ hn
  exact key m hm
/-- All variables so much higher. -/
def shK (k : Int) (n : Int) : List Cell := [varCell (n + k)]
theorem shK_tm (k : Int) : Terms (shK k) := fun n => rfl
theorem shift_app {k : Int} : ∀ {l : List Cell}, (∀ c ∈ l, cellOk c = true) → l.map (mapC (· + k)) = appT (shK k) l
  | [], _ => rfl
  | c :: l, h => by
    have e0 : appT (shK k) (c :: l) = (if c.kind = 1 then shK k c.n else [c]) ++ appT (shK k) l := by simp [appT]
    rw [List.map_cons, e0, shift_app fun d hd => h d (by simp [hd]), mapC]
    split
    · rename_i hk
      have := ok_varCell (h c (by simp)) hk
      have e1 : c.name = noNm := by rw [this]; rfl
      rw [shK, varCell, hk, e1]
      rfl
    · rfl
theorem shiftG_cases {t : List Cell} {k : Int} (ht : RTm t) : shiftG t k = [] ∨ (RTm (shiftG t k) ∧ shiftG t k = appT (shK k) t) := by
  unfold shiftG
  split
  · rename_i h
    exact .inr ⟨right_tm h, shift_app ht.ok⟩
  · exact .inl rfl
section
variable {w b2 : List Cell} {T : Int → List Cell}
theorem apart_law (hw : RTm w) (hv : ∀ n, occ w n → n < 200) (hT : Terms T) (hT6 : ∀ n, (T n).length ≤ 6) (hTv : ∀ n, occ w n → ∀ c ∈ T n, c.kind = 1 → 0 ≤ c.n) (hb : b2 = appT (shK 200) (appT T w)) (rb : RTm b2) :
    ∃ σ, NormO w b2 σ ∧ small σ ∧ (appT σ w).length ≤ 200 ∧ appT σ w = appT σ b2 ∧ RTm (appT σ b2) ∧ sameL (numG (appT σ b2)) (numG b2) = true := by
  have hb200 : ∀ n, occ b2 n → 200 ≤ n := fun n ⟨c, hc, hk, e⟩ => by
    rw [hb] at hc
    rcases appT_mem hc with ⟨_, h⟩ | ⟨m, ⟨d, hd, hdk, e2⟩, h⟩
    · exact absurd hk h
    · rw [shK, List.mem_singleton] at h
      rcases appT_mem hd with ⟨_, h'⟩ | ⟨q, hq, h'⟩
      · exact absurd hdk h'
      · have := hTv q hq d h' hdk
        rw [← e, h]
        simp only [varCell]
        omega
  obtain ⟨u, hu⟩ : ∃ u : Int → List Cell, ∀ n, (occ w n → u n = appT (shK 200) (T n)) ∧ (¬ occ w n → u n = [varCell n]) := by
    refine ⟨fun n => by classical exact if occ w n then appT (shK 200) (T n) else [varCell n], fun n => ⟨fun h => if_pos h, fun h => if_neg h⟩⟩
  have hut : Terms u := fun n => by
    by_cases h : occ w n
    · rw [(hu n).1 h]; exact appT_tk (shK_tm 200) (hT n)
    · rw [(hu n).2 h]; rfl
  have hul : ∀ n, (u n).length ≤ 6 := fun n => by
    by_cases h : occ w n
    · rw [(hu n).1 h]
      have key : ∀ l : List Cell, (appT (shK 200) l).length = l.length := fun l => by
        induction l with
        | nil => rfl
        | cons c l ih =>
          have e0 : appT (shK 200) (c :: l) = (if c.kind = 1 then shK 200 c.n else [c]) ++ appT (shK 200) l := by simp [appT]
          rw [e0, List.length_append, ih, List.length_cons]
          split <;> simp [shK] <;> omega
      rw [key]; exact hT6 n
    · rw [(hu n).2 h]; simp
  have hua : appT u w = b2 := by
    rw [hb, appT_comp]
    exact appT_congr fun c hc hk => (hu c.n).1 ⟨c, hc, hk, rfl⟩
  have hub : appT u b2 = b2 := appT_same (s := u) fun c hc hk => by
    have h1 := hb200 c.n ⟨c, hc, hk, rfl⟩
    rw [(hu c.n).2 fun k => by have := hv c.n k; omega, ← ok_varCell (rb.ok c hc) hk]
  have hue : appT u w = appT u b2 := by rw [hua, hub]
  rcases mgu_cases hw rb with ⟨_, h⟩ | ⟨σ, hσ, _⟩
  · exact absurd hue (h u hut)
  have habs := hσ.abs u hut hue
  have hsm : small σ := fun n _ => by
    have h1 := appT_len hut (σ n)
    rw [habs] at h1
    have := hul n
    omega
  have hlen : (appT σ w).length ≤ 200 := by
    have h1 := appT_len hut (appT σ w)
    rw [appT_comp, show (fun n => appT u (σ n)) = u from funext habs, hua] at h1
    have := rb.len
    omega
  have hy : RTm (appT σ b2) := put_tm hw rb hσ rb (by rw [← hσ.eq]; exact hlen)
  refine ⟨σ, hσ, hsm, hlen, hσ.eq, hy, ?_⟩
  rw [variant_match hy rb, Bool.and_eq_true]
  refine ⟨matR_complete hut ?_, matR_complete hσ.tm rfl⟩
  rw [appT_comp, show (fun n => appT u (σ n)) = u from funext habs, hub]
theorem cV_eq (n : Int) : cV n = varCell n := rfl
set_option maxRecDepth 10000 in
theorem apart_var (hw : RTm w) (hv : ∀ n, occ w n → n < 200) (hr : RTm [varCell 999]) : mgu [varCell 999] w = ([(999, w)], 0) := by
  obtain ⟨s, hs⟩ : ∃ s : Int → List Cell, s = fun n => if n = 999 then w else [varCell n] := ⟨_, rfl⟩
  have h9 : s 999 = w := by rw [hs]; exact if_pos rfl
  have hn : ∀ n, n ≠ 999 → s n = [varCell n] := fun n h => by rw [hs]; exact if_neg h
  have hno : ∀ n, occ w n → n ≠ 999 := fun n h e => by have := hv n h; omega
  have hsw : appT s w = w := appT_same (s := s) fun c hc hk => by rw [hn c.n (hno _ ⟨c, hc, hk, rfl⟩), ← ok_varCell (hw.ok c hc) hk]
  have htm : Terms s := fun n => by
    by_cases h : n = 999
    · rw [h, h9]; exact hw.tk
    · rw [hn n h]; rfl
  have hN : NormO [varCell 999] w s := by
    refine ⟨⟨by rw [appT_var, h9, hsw], htm, fun n c hc hk => ?_, fun u hu e n => ?_, fun n m e => ?_⟩, fun n ho c hc => ?_, fun n ho => hn n fun h => ho ⟨varCell 999, by simp, rfl, h.symm⟩⟩
    · by_cases h : n = 999
      · rw [h, h9] at hc; exact ok_varCell (hw.ok c hc) hk
      · rw [hn n h, List.mem_singleton] at hc
        rw [hc]; rfl
    · by_cases h : n = 999
      · rw [h, h9, ← e, appT_var]
      · rw [hn n h, appT_var]
    · by_cases h : n = 999
      · rw [h, h9] at e
        have := hv m ⟨varCell m, by rw [e]; simp, rfl, rfl⟩
        omega
      · rw [hn n h] at e
        have := congrArg Cell.n (List.cons.inj e).1
        simp only [varCell] at this
        omega
    · by_cases h : n = 999
      · rw [h, h9] at hc
        exact ⟨hw.ok c hc, fun hk => ⟨c, List.mem_append_right _ hc, hk, rfl⟩⟩
      · rw [hn n h, List.mem_singleton] at hc
        rcases occ_app.1 ho with ⟨d, h1, h2, h3⟩ | ⟨d, h1, h2, h3⟩
        · rw [List.mem_singleton] at h1
          rw [h1] at h3
          exact absurd h3.symm h
        · have := ok_varCell (hw.ok d h1) h2
          rw [h3] at this
          rw [hc, ← this]
          exact ⟨hw.ok d h1, fun _ => ⟨d, List.mem_append_right _ h1, h2, rfl⟩⟩
  have hsm : small s := fun n _ => by
    by_cases h : (n : Int) = 999
    · rw [h, h9]; exact hw.len
    · rw [hn _ h]; simp
  rw [mgu_norm hr hw hN, mguO_small hsm]
  congr 1
  have e : List.range 1000 = List.range 999 ++ [999] := List.range_succ
  have hne : w ≠ [varCell 999] := fun h => by
    have := hv 999 ⟨varCell 999, by rw [h]; simp, rfl, rfl⟩
    omega
  rw [bnds, e, List.filterMap_append, List.filterMap_eq_nil_iff.2 fun n hm => ?_]
  · have : bnd s 999 = some (999, w) := by
      have h : s ((999 : Nat) : Int) = w := h9
      rw [bnd, h]; exact if_neg hne
    simp [this]
  · have := List.mem_range.1 hm
    rw [bnd, if_pos (hn _ (by omega))]
end
end Go.Am.Seat
/-
  MADE BY PROGRAM (am.py): the walks of functions 5.
-/
namespace Go.Am.Seat
open Go.Proofs

theorem appT_bound {s : Int → List Cell} {m : Nat} (hm : 1 ≤ m) (h : ∀ n, (s n).length ≤ m) : ∀ l : List Cell, (appT s l).length ≤ m * l.length
  | [] => by simp [appT]
  | c :: l => by
    have e0 : appT s (c :: l) = (if c.kind = 1 then s c.n else [c]) ++ appT s l := by simp [appT]
    have ih := appT_bound hm h l
    rw [e0, List.length_append, List.length_cons, Nat.mul_add, Nat.mul_one]
    have : (if c.kind = 1 then s c.n else [c]).length ≤ m := by
      split
      · exact h _
      · simpa using hm
    omega
theorem bmap_len {b : List (Int × List Cell)} {m : Nat} (hm : 1 ≤ m) (h : ∀ p ∈ b, p.2.length ≤ m) (n : Int) : (bmap b n).length ≤ m := by
  unfold bmap
  cases hf : b.find? fun p => p.1 == n with
  | none => simpa using hm
  | some p => exact h p (List.mem_of_find?_eq_some hf)
theorem v_tm {n : Nat} (hn : n < 1000) : RTm [cV n] := by
  refine ⟨rfl, fun c hc => ?_, by simp, by simp⟩
  rw [List.mem_singleton] at hc
  subst hc
  unfold cellOk cV
  dsimp only
  rw [if_pos rfl]
  simp only [Bool.and_eq_true, decide_eq_true_eq]
  exact ⟨⟨by kernel_rfl, by omega⟩, by omega⟩

-- many steps
theorem bod5 : Try.f5.body = some (Try.f5.body.getD .skip) := rfl
set_option maxHeartbeats 4000000 in
set_option maxRecDepth 20000 in
theorem fn5 (L : Loops) (a b : List Cell) (ls : List (Sc × List Cell)) (s : Me) (sa sb sl : Sc) (ha : GSl encC sa a) (hb : GSl encC sb b) (hsl : GSl encT sl (ls.map Prod.fst)) (hla : a.length ≤ 281474976710656) (hlb : b.length ≤ 281474976710656) (hna : ∀ c ∈ a, c.name.size ≤ 1152921504606846976) (hnb : ∀ c ∈ b, c.name.size ≤ 1152921504606846976) (hls : ls.length ≤ 281474976710656 ∧ ∀ p ∈ ls, GSl encC p.1 p.2 ∧ p.2.length ≤ 281474976710656 ∧ ∀ c ∈ p.2, c.name.size ≤ 1152921504606846976) : FnL Try.prog L 5 [.av (.sc sa), .av (.sc sb), .av (.sc sl)] s fun r s' => (r = vB true) ∧ s' = s := by
  refine FnL.pure (R := fun r => r = vB true) ?_
  refine fn_of_body (ts := [6]) Try.func5 bod5 rfl (by simp) (by simp [Try.ntmps5]) fun D0 => ?_
  unfold Try.f5
  simp only [Option.getD_some, initSl]
  refine aw_region_seq C (pb := false) rfl fun K hK => ?_
  repeat' (first | refine wy0 (h := ?_) | fail)
  refine awOps_nil (hK _ _ ?_)
  clear hK K
  refine aw_region_seq C (pb := false) rfl fun K hK => ?_
  (refine wc (And.intro Try.call11 (fn11 L _)) ?_; rintro _ _ ⟨rfl, rfl⟩)
  repeat' (first | refine wy0 (h := ?_) | fail)
  refine awOps_nil (hK _ _ ?_)
  clear hK K
  refine aw_region_seq C (pb := false) rfl fun K hK => ?_
  repeat' (first | refine wy0 (h := ?_) | fail)
  refine wc (And.intro Try.call12 (fnMade L a 20 _ sa ha hla hna (by decide))) ?_
  rintro _ _ ⟨⟨t, rfl, rt, hlt⟩, rfl⟩
  repeat' (first | refine wy0 (h := ?_) | fail)
  refine awOps_nil (hK _ _ ?_)
  clear hK K
  refine aw_region_seq C (pb := false) rfl fun K hK => ?_
  repeat' (first | refine wy0 (h := ?_) | fail)
  refine wc (And.intro Try.call12 (fnMade L b 20 _ sb hb hlb hnb (by decide))) ?_
  rintro _ _ ⟨⟨u, rfl, ru, hlu⟩, rfl⟩
  repeat' (first | refine wy0 (h := ?_) | fail)
  refine awOps_nil (hK _ _ ?_)
  refine AW.less (sl' := [(0, vC t), (1, vC u), (2, .av (.sc sl)), (7, vB true)]) (AllIn.less ⟨rfl, rfl, rfl, rfl, trivial⟩) ?_
  clear hK K
  refine aw_region_seq C (pb := false) rfl fun K hK => ?_
  repeat' (first | refine wy0 (h := ?_) | fail)
  refine awOps_nil (hK _ _ ?_)
  clear hK K
  refine aw_seq ?_
  refine aw_region_seq C (pb := false) rfl fun K hK => ?_
  repeat' (first | refine wy0 (h := ?_) | fail)
  refine awOps_nil (hK _ _ ?_)
  clear hK K
  refine aw_block ?_
  refine AW.less (sl' := [(0, vC t), (1, vC u), (2, .av (.sc sl)), (7, vB true), (8, (_)), (9, vI (0))]) (AllIn.less ⟨rfl, rfl, rfl, rfl, rfl, rfl, trivial⟩) (aw_loop (fun k sl1 s1 => ∃ (i : Nat) (xo : Va) (out : List (Int × List Cell)), k = 7 - i ∧ sl1 = [(0, vC t), (1, vC u), (2, .av (.sc sl)), (7, vB true), (8, (xo)), (9, vI (i))] ∧ (Kp s s1) ∧ (i ≤ 6 ∧ i ≤ ls.length ∧ out.length ≤ i) ∧ (Acc s.nx s1.nx s1.ob xo out.length 2 (((out.map bndI).flatMap encB).map .sc)) ∧ (∀ p ∈ out, RTm p.2 ∧ p.2.length ≤ 6)) (k := 7 - (0)) ⟨0, _, [], rfl, rfl, ⟨by first | omega | (dsimp only; omega), fun j hj => upd_ne _ _ (by omega), rfl⟩, ⟨Nat.zero_le _, Nat.zero_le _, Nat.le_refl _⟩, .inr ⟨_, 0, rfl, (by first | omega | (dsimp only; omega) | (dsimp only at *; omega)), (by first | omega | (dsimp only; omega) | (dsimp only at *; omega)), upd_same _ _ _, by simp, by simp⟩, fun p hp => by simp at hp⟩ ?_)
  rintro k1 _ s1 ⟨i, xo, out, hk1, rfl, hs1, hb1, hacc, hout⟩
  refine aw_seq ?_
  refine aw_cut_seq C (pb := false) [(0, vC t), (1, vC u), (2, .av (.sc sl)), (7, vB true), (8, xo), (9, vI i), (35, vB (decide ((i : Int) < (ls.length : Int)) && decide ((i : Int) < 6)))] rfl ?_ fun n6 hn6 => ?_
  · cases hA0 : (decide ((i : Int) < (ls.length : Int)) : Bool)
    all_goals (repeat' (first | refine wy1 (a := by simp only [go_sem, ↓reduceIte, Nat.reduceEqDiff, reduceCtorEq, Nat.reduceAdd, Nat.reduceMul, Nat.reduceLeDiff, aLoad, aStore, lenT hsl, List.length_map, hA0]; exact rfl) (h := ?_) | refine wn (h := ?_) | fail))
    all_goals (exact awOps_nil ⟨⟨rfl, rfl, rfl, rfl, rfl, rfl, rfl, trivial⟩, rfl, (by first | omega | (dsimp only; omega)), rfl⟩)
  refine aw_cond (by rfl) ?_ ?_
  · intro hc0
    obtain ⟨hi1, hi6⟩ := Bool.and_eq_true_iff.1 (show (decide ((i : Int) < (ls.length : Int)) && decide ((i : Int) < 6)) = true from hc0)
    have hi2 : i < ls.length := by have := of_decide_eq_true hi1; omega
    have hi7 : i < 6 := by have := of_decide_eq_true hi6; omega
    have hpi := hls.2 ls[i] (List.getElem_mem hi2)
    have hix : aIndex T 40 (.av (.sc sl)) (vI i) = some (.av (.sc (.cptr (ls[i].1 :: ((ls.map Prod.fst).drop (i + 1)).flatMap encT)))) := by
      have := idxT hsl (i := i) (by rw [List.length_map]; exact hi2)
      rw [List.getElem_map] at this
      exact this
    refine aw_skip ?_
    simp only [thenA_normal, thenA_ret, thenA_exit, blockA_normal, blockA_ret, blockA_exit, ↓reduceIte, Nat.reduceEqDiff]
    refine aw_seq ?_
    refine aw_block ?_
    refine aw_region_seq C (pb := false) rfl fun K hK => ?_
    repeat' (first | refine wy1 (a := by simp only [go_sem, ↓reduceIte, Nat.reduceEqDiff, reduceCtorEq, Nat.reduceAdd, Nat.reduceMul, Nat.reduceLeDiff, aLoad, aStore, hix]; exact rfl) (h := ?_) | fail)
    refine wc (And.intro Try.call12 (fnMade L ls[i].2 6 _ ls[i].1 hpi.1 hpi.2.1 hpi.2.2 (by decide))) ?_
    rintro _ _ ⟨⟨w, rfl, rw_, hlw⟩, rfl⟩
    repeat' (first | refine wy1 (a := by simp only [go_sem, ↓reduceIte, Nat.reduceEqDiff, reduceCtorEq, Nat.reduceAdd, Nat.reduceMul, Nat.reduceLeDiff, aLoad, aStore, hix]; exact rfl) (h := ?_) | fail)
    refine awOps_nil (hK _ _ ?_)
    clear hK K
    have hw0 := rw_.pos
    have hw1 : 0 < w.length := hw0
    have hw2 : aIndex T 22 (vC w) (.av (.sc (.int .i64 0))) = _ := idxC (gslC w) hw1
    refine aw_cut_seq C (pb := false) [(0, vC t), (1, vC u), (2, .av (.sc sl)), (7, vB true), (8, xo), (9, vI i), (10, vC w), (55, vB (!(w[0].kind == 1) || !(w[0].n == (i : Int))))] rfl ?_ fun n9 hn9 => ?_
    · cases hA0 : (w[0].kind == 1 : Bool)
      all_goals (repeat' (first | refine wy1 (a := by simp only [go_sem, ↓reduceIte, Nat.reduceEqDiff, reduceCtorEq, Nat.reduceAdd, Nat.reduceMul, Nat.reduceLeDiff, aLoad, aStore, hw2, bne, hA0]; exact rfl) (h := ?_) | refine wn (h := ?_) | fail))
      all_goals (exact awOps_nil ⟨⟨rfl, rfl, rfl, rfl, rfl, rfl, rfl, rfl, trivial⟩, rfl, (by first | omega | (dsimp only; omega)), rfl⟩)
    refine aw_cond (by rfl) ?_ ?_
    · intro hc1
      refine aw_region C (pb := false) rfl ?_
      repeat' (first | refine wy0 (h := ?_) | fail)
      refine awOps_append (by rfl) (by rfl) (by rfl) (by rfl) (hacc.up (Nat.le_refl _) fun j h1 h2 => upd_ne _ _ (by omega)) T25 rfl T39 rfl (by simp) (by simp [y39]) (k := 1) (new := (encB (bndI ((i : Int), w))).map .sc) (by simp [aSrc, evA, get, upd, zerosA, encB, bndI, storeL, List.range, List.range.loop]; exact ⟨Nat.le_refl _, rfl⟩) (by simp [encB]) (by omega) (by omega) (by have := hs1.1; omega) fun x6 ob6 hacc6 hlow6 _ => ?_
      repeat' (first | refine wy0 (h := ?_) | fail)
      refine awOps_nil ?_
      try simp only [thenA_normal, thenA_ret, thenA_exit, blockA_normal, blockA_ret, blockA_exit]
      refine aw_region C (pb := false) rfl ?_
      repeat' (first | refine wy1 (a := by simp only [go_sem, ↓reduceIte, Nat.reduceEqDiff, reduceCtorEq, Nat.reduceAdd, Nat.reduceMul, Nat.reduceLeDiff, aLoad, aStore, wrap_small ((i : Int) + 1) (by omega) (by omega)]; exact rfl) (h := ?_) | fail)
      refine awOps_nil ?_
      try simp only [thenA_normal, thenA_ret, thenA_exit, blockA_normal, blockA_ret, blockA_exit]
      -- end of round 0 at 0t1t
      refine ⟨7 - (i + 1), [(0, vC t), (1, vC u), (2, .av (.sc sl)), (7, vB true), (8, (x6)), (9, vI (i + 1))], by omega, AllIn.less ⟨rfl, rfl, rfl, rfl, rfl, rfl, trivial⟩, i + 1, x6, out ++ [((i : Int), w)], rfl, rfl, ?_, ?_, ?_, ?_⟩
      · exact ⟨by have := hs1.1; exact (by first | omega | (dsimp only; omega)), fun j hj => (hlow6 j hj).trans ((upd_ne _ _ (by have := hs1.1; omega)).trans (hs1.2.1 j hj)), hs1.2.2⟩
      · simp only [List.length_append, List.length_cons, List.length_nil]
        omega
      · simp only [List.length_append, List.length_cons, List.length_nil, List.map_append, List.flatMap_append, List.map_cons, List.map_nil, List.flatMap_cons, List.flatMap_nil, List.append_nil]
        exact hacc6.up (by first | omega | (dsimp only; omega)) fun _ _ _ => rfl
      · intro p hp
        rcases List.mem_append.1 hp with hp | hp
        · exact hout p hp
        · rw [List.mem_singleton] at hp
          rw [hp]
          exact ⟨rw_, hlw⟩
    · intro hc1
      refine aw_skip ?_
      simp only [thenA_normal, thenA_ret, thenA_exit, blockA_normal, blockA_ret, blockA_exit, ↓reduceIte, Nat.reduceEqDiff]
      refine aw_region C (pb := false) rfl ?_
      repeat' (first | refine wy1 (a := by simp only [go_sem, ↓reduceIte, Nat.reduceEqDiff, reduceCtorEq, Nat.reduceAdd, Nat.reduceMul, Nat.reduceLeDiff, aLoad, aStore, wrap_small ((i : Int) + 1) (by omega) (by omega)]; exact rfl) (h := ?_) | fail)
      refine awOps_nil ?_
      try simp only [thenA_normal, thenA_ret, thenA_exit, blockA_normal, blockA_ret, blockA_exit]
      -- end of round 0 at 0t1f
      refine ⟨7 - (i + 1), [(0, vC t), (1, vC u), (2, .av (.sc sl)), (7, vB true), (8, (xo)), (9, vI (i + 1))], by omega, AllIn.less ⟨rfl, rfl, rfl, rfl, rfl, rfl, trivial⟩, i + 1, xo, out, rfl, rfl, ?_, ?_, ?_, ?_⟩
      · exact hs1.up (by first | omega | (dsimp only; omega))
      · omega
      · exact hacc.up (by first | omega | (dsimp only; omega)) fun _ _ _ => rfl
      · exact hout
  · intro hc0
    refine aw_exit ?_
    simp only [thenA_normal, thenA_ret, thenA_exit, blockA_normal, blockA_ret, blockA_exit, ↓reduceIte, Nat.reduceEqDiff]
    have ht1 := rt.pos
    have hu1 := ru.pos
    obtain ⟨ty, ob7, hpv7, hty, hacc7, hlow7, _⟩ := Acc.pure (enc := encB) (k := 2) (l := out.map bndI) (fun _ => rfl) (by rw [List.length_map]; exact hacc)
    refine aw_pur 8 hpv7 ?_
    refine aw_state (J := fun s8 => Kp s s8) ⟨by have := hs1.1; dsimp only; omega, fun j hj => (hlow7 j hj).trans (hs1.2.1 j hj), hs1.2.2⟩ fun s8 hJ => ?_
    obtain ⟨T, hT⟩ : ∃ T, T = bmap out := ⟨_, rfl⟩
    have hTt : Terms T := by rw [hT]; exact bmap_tm fun p hp => (hout p hp).1
    have hT6 : ∀ n, (T n).length ≤ 6 := fun n => by rw [hT]; exact bmap_len (by omega) (fun p hp => (hout p hp).2) n
    obtain ⟨v1, hv1⟩ : ∃ v, v = appT (bmap out) t := ⟨_, rfl⟩
    obtain ⟨v2, hv2⟩ : ∃ v, v = appT (bmap out) u := ⟨_, rfl⟩
    have b1 : v1.length ≤ 6 * t.length := by rw [hv1, ← hT]; exact appT_bound (by omega) hT6 t
    have b2 : v2.length ≤ 6 * u.length := by rw [hv2, ← hT]; exact appT_bound (by omega) hT6 u
    have hv1l : 1 ≤ v1.length := by rw [hv1, ← hT]; exact Nat.le_trans rt.pos (appT_len hTt t)
    have hv2l : 1 ≤ v2.length := by rw [hv2, ← hT]; exact Nat.le_trans ru.pos (appT_len hTt u)
    obtain ⟨sm, hsm'⟩ : ∃ x, x = sameL v1 v2 := ⟨_, rfl⟩
    have hsm := hsm'.symm
    refine aw_region_seq C (pb := false) rfl fun K hK => ?_
    repeat' (first | refine wy0 (h := ?_) | fail)
    (refine wc (And.intro Try.call21 (fnApplyV L hv1.symm ⟨hv1l, by omega⟩ _ ty _ hty (gslC t) (by omega) (fun p hp => by have := (hout p hp).2; omega) rt)) ?_; rintro _ _ ⟨rfl, rfl⟩)
    repeat' (first | refine wy0 (h := ?_) | fail)
    refine awOps_nil (hK _ _ ?_)
    clear hK K
    refine aw_region_seq C (pb := false) rfl fun K hK => ?_
    repeat' (first | refine wy0 (h := ?_) | fail)
    (refine wc (And.intro Try.call21 (fnApplyV L hv2.symm ⟨hv2l, by omega⟩ _ ty _ hty (gslC u) (by omega) (fun p hp => by have := (hout p hp).2; omega) ru)) ?_; rintro _ _ ⟨rfl, rfl⟩)
    repeat' (first | refine wy0 (h := ?_) | fail)
    refine awOps_nil (hK _ _ ?_)
    clear hK K
    refine aw_seq ?_
    refine aw_region_seq C (pb := false) rfl fun K hK => ?_
    repeat' (first | refine wy0 (h := ?_) | refine wn (h := ?_) | fail)
    try (first | (refine wc (And.intro Try.call20 (fnSameC L hsm _ _ _ (gslC v1) (gslC v2) (by omega))) ?_; rintro _ _ ⟨rfl, rfl⟩) | refine wn (h := ?_) | fail)
    repeat' (first | refine wy0 (h := ?_) | refine wn (h := ?_) | fail)
    refine awOps_nil (hK _ _ ?_)
    clear hK K
    refine aw_cond (by rfl) ?_ ?_
    · intro hc2
      refine aw_region_seq C (pb := false) rfl fun K hK => ?_
      repeat' (first | refine wy0 (h := ?_) | fail)
      refine awOps_nil (hK _ _ ?_)
      clear hK K
      refine aw_ret ?_
      try simp only [thenA_normal, thenA_ret, thenA_exit, blockA_normal, blockA_ret, blockA_exit]
      simp only [go_sem, ↓reduceIte, Nat.reduceEqDiff, reduceCtorEq, Nat.reduceAdd, Nat.reduceMul, Nat.reduceLeDiff, aLoad, aStore, FnQ, resA]
      -- 0f.x02t.ret
      exact fun _ => ⟨by first | rfl | trivial, by first | exact hJ.2.1 | exact hs2.2.1, by first | exact hJ.2.2 | exact hs2.2.2, by first | rfl | trivial⟩
    · intro hc2
      have hsv : v1 = v2 := sameL_iff.1 (hsm.trans (by simpa using hc2))
      have hTe : appT T t = appT T u := by rw [hT, ← hv1, ← hv2, hsv]
      refine aw_skip ?_
      simp only [thenA_normal, thenA_ret, thenA_exit, blockA_normal, blockA_ret, blockA_exit, ↓reduceIte, Nat.reduceEqDiff]
      refine aw_region_seq C (pb := false) rfl fun K hK => ?_
      repeat' (first | refine wy0 (h := ?_) | fail)
      (refine wc (And.intro Try.call13 (fnMguV L rt ru _)) ?_; rintro _ _ ⟨rfl, rfl⟩)
      repeat' (first | refine wy0 (h := ?_) | fail)
      refine awOps_nil (hK _ _ ?_)
      refine AW.less (sl' := [(7, vB true), (8, .av (.sc ty)), (15, .av (.sc (scB ((mgu t u).1.map toI)))), (16, vI (mgu t u).2)]) (AllIn.less ⟨rfl, rfl, rfl, rfl, trivial⟩) ?_
      clear hK K
      refine aw_seq ?_
      have h3 := mgu_three rt ru
      have hn3 : (mgu t u).2 ≠ 3 := by
        intro h
        rcases mgu_cases rt ru with ⟨_, h2⟩ | ⟨σ, _, h2⟩
        · exact h2 T hTt hTe
        · rw [h2] at h
          by_cases hm : small σ
          · rw [mguO_small hm] at h; cases h
          · rw [mguO_big hm] at h; cases h
      obtain ⟨e, he⟩ : ∃ e, e = (mgu t u).2 := ⟨_, rfl⟩
      obtain ⟨o, ho⟩ : ∃ o, o = (mgu t u).1 := ⟨_, rfl⟩
      rw [← he, ← ho] at h3
      rw [← he] at hn3
      rw [← ho, ← he]
      clear ho he
      refine aw_region_seq C (pb := false) rfl fun K hK => ?_
      repeat' (first | refine wy0 (h := ?_) | fail)
      refine awOps_nil (hK _ _ ?_)
      clear hK K
      refine aw_cond (by rfl) ?_ ?_
      · intro hc3
        rcases h3 with ⟨h1, rfl, _, _⟩ | ⟨h, _⟩
        rotate_left
        · rw [h] at hc3; cases hc3
        have hz := scB_gsl (([] : List (Nat × List Cell)).map toI)
        have hl0 : ((((([] : List (Nat × List Cell)).map toI).map bndI).length : Int) == 0) = true := rfl
        refine aw_region_seq C (pb := false) rfl fun K hK => ?_
        repeat' (first | refine wy1 (a := by simp only [go_sem, ↓reduceIte, Nat.reduceEqDiff, reduceCtorEq, Nat.reduceAdd, Nat.reduceMul, Nat.reduceLeDiff, aLoad, aStore, lenB hz, hl0]; exact rfl) (h := ?_) | refine wn (h := ?_) | fail)
        refine awOps_nil (hK _ _ ?_)
        clear hK K
        refine aw_ret ?_
        try simp only [thenA_normal, thenA_ret, thenA_exit, blockA_normal, blockA_ret, blockA_exit]
        simp only [go_sem, ↓reduceIte, Nat.reduceEqDiff, reduceCtorEq, Nat.reduceAdd, Nat.reduceMul, Nat.reduceLeDiff, aLoad, aStore, FnQ, resA]
        -- 0f.x02f3t.ret
        exact fun _ => ⟨by first | rfl | trivial, by first | exact hJ.2.1 | exact hs2.2.1, by first | exact hJ.2.2 | exact hs2.2.2, by first | rfl | trivial⟩
      · intro hc3
        rcases h3 with ⟨h1, _, h, _⟩ | ⟨rfl, σ, hσ, hsm2, rfl⟩
        · rcases h with rfl | rfl
          · exact absurd rfl hn3
          · cases hc3
        refine aw_skip ?_
        simp only [thenA_normal, thenA_ret, thenA_exit, blockA_normal, blockA_ret, blockA_exit, ↓reduceIte, Nat.reduceEqDiff]
        refine aw_seq ?_
        refine aw_region_seq C (pb := false) rfl fun K hK => ?_
        repeat' (first | refine wy0 (h := ?_) | fail)
        refine awOps_nil (hK _ _ ?_)
        clear hK K
        refine aw_cond (by rfl) ?_ ?_
        · intro hc4
          cases hc4
        · intro hc4
          refine aw_skip ?_
          simp only [thenA_normal, thenA_ret, thenA_exit, blockA_normal, blockA_ret, blockA_exit, ↓reduceIte, Nat.reduceEqDiff]
          refine aw_seq ?_
          obtain ⟨bs, hbs⟩ : ∃ bs, bs = (bnds σ).map toI := ⟨_, rfl⟩
          have hbr := bnds_right rt ru hσ hsm2
          have hbl := bnds_len hsm2
          have hbm : ∀ p, p ∈ bs → ∃ n : Nat, n < 1000 ∧ p = ((n : Int), σ n) ∧ σ n ≠ [varCell n] := fun p hp => bnds_mem.1 (hbs ▸ hp)
          rw [← hbs] at hbr hbl ⊢
          obtain ⟨z, hz⟩ : ∃ z, z = scB bs := ⟨_, rfl⟩
          have hzg := scB_gsl bs
          rw [← hz] at hzg ⊢
          clear hz hbs
          refine aw_region_seq C (pb := false) rfl fun K hK => ?_
          repeat' (first | refine wy0 (h := ?_) | fail)
          refine awOps_nil (hK _ _ ?_)
          clear hK K
          refine aw_block ?_
          refine AW.less (sl' := [(7, vB true), (8, .av (.sc ty)), (15, .av (.sc z)), (17, vI (0))]) (AllIn.less ⟨rfl, rfl, rfl, rfl, trivial⟩) (aw_loop (fun k sl1 s1 => ∃ (q : Nat), k = bs.length - q ∧ sl1 = [(7, vB true), (8, .av (.sc ty)), (15, .av (.sc z)), (17, vI (q))] ∧ (Kp s s1) ∧ (q ≤ bs.length)) (k := bs.length - (0)) ⟨0, rfl, rfl, hJ.up (by omega), Nat.zero_le _⟩ ?_)
          rintro k2 _ s2 ⟨q, hk2, rfl, hs2, hb2⟩
          refine aw_seq ?_
          refine aw_region_seq C (pb := false) rfl fun K hK => ?_
          repeat' (first | refine wy1 (a := by simp only [go_sem, ↓reduceIte, Nat.reduceEqDiff, reduceCtorEq, Nat.reduceAdd, Nat.reduceMul, Nat.reduceLeDiff, aLoad, aStore, lenB hzg, List.length_map]; exact rfl) (h := ?_) | fail)
          refine awOps_nil (hK _ _ ?_)
          clear hK K
          refine aw_cond (by rfl) ?_ ?_
          · intro hc5
            try simp only [decide_eq_true_eq, decide_eq_false_iff_not] at hc5
            have hk3 : q < bs.length := by omega
            have hri' := hbr.1 bs[q] (List.getElem_mem hk3)
            obtain ⟨n, hn, hbe, _⟩ := hbm bs[q] (List.getElem_mem hk3)
            have hix := idxBI hzg hk3
            rw [hbe] at hix hri'
            dsimp only at hix hri'
            have hri : RTm (σ n) := ⟨hri'.2.2.2.2.2.1, hri'.2.2.2.2.1, hri'.2.2.1, hri'.2.2.2.1⟩
            have hTσ : appT (bmap out) (σ n) = T n := by rw [← hT]; exact hσ.abs T hTt hTe n
            have hTl := hTt.pos n
            have hTl6 := hT6 n
            have hcl := hs2.1
            refine aw_skip ?_
            simp only [thenA_normal, thenA_ret, thenA_exit, blockA_normal, blockA_ret, blockA_exit, ↓reduceIte, Nat.reduceEqDiff]
            refine aw_seq ?_
            refine aw_block ?_
            refine aw_region_seq C (pb := false) rfl fun K hK => ?_
            repeat' (first | refine wy1 (a := by simp only [go_sem, ↓reduceIte, Nat.reduceEqDiff, reduceCtorEq, Nat.reduceAdd, Nat.reduceMul, Nat.reduceLeDiff, aLoad, aStore, hix]; exact rfl) (h := ?_) | fail)
            (refine wc (And.intro Try.call21 (fnApplyV L hTσ ⟨hTl, by omega⟩ _ ty _ hty (gslC _) (by omega) (fun p hp => by have := (hout p hp).2; omega) hri)) ?_; rintro _ _ ⟨rfl, rfl⟩)
            repeat' (first | refine wy1 (a := by simp only [go_sem, ↓reduceIte, Nat.reduceEqDiff, reduceCtorEq, Nat.reduceAdd, Nat.reduceMul, Nat.reduceLeDiff, aLoad, aStore, hix]; exact rfl) (h := ?_) | fail)
            refine awOps_nil (hK _ _ ?_)
            clear hK K
            refine aw_region_seq C (pb := false) rfl fun K hK => ?_
            repeat' (first | refine wy1 (a := by simp only [go_sem, ↓reduceIte, Nat.reduceEqDiff, reduceCtorEq, Nat.reduceAdd, Nat.reduceMul, Nat.reduceLeDiff, aLoad, aStore, hix]; exact rfl) (h := ?_) | fail)
            (refine wc (And.intro Try.call25 (fn25 L _ _)) ?_; rintro _ _ ⟨rfl, rfl⟩)
            repeat' (first | refine wy1 (a := by simp only [go_sem, ↓reduceIte, Nat.reduceEqDiff, reduceCtorEq, Nat.reduceAdd, Nat.reduceMul, Nat.reduceLeDiff, aLoad, aStore, hix]; exact rfl) (h := ?_) | fail)
            refine wc (And.intro Try.call21 (FnL.pur (PurArgs.keep (PurArgs.pur (celC_pure (l := [cV n]) (upd_same _ _ _)) PurArgs.nil)) (fnApplyV L (v := T n) (by rw [← hT]; simp [appT, cV]) ⟨hTl, by omega⟩ _ ty _ hty (gslC [cV n]) (by omega) (fun p hp => by have := (hout p hp).2; omega) (v_tm hn)))) ?_
            rintro _ _ ⟨rfl, rfl⟩
            repeat' (first | refine wy1 (a := by simp only [go_sem, ↓reduceIte, Nat.reduceEqDiff, reduceCtorEq, Nat.reduceAdd, Nat.reduceMul, Nat.reduceLeDiff, aLoad, aStore, hix]; exact rfl) (h := ?_) | fail)
            refine awOps_nil (hK _ _ ?_)
            clear hK K
            refine aw_region_seq C (pb := false) rfl fun K hK => ?_
            repeat' (first | refine wy0 (h := ?_) | refine wn (h := ?_) | fail)
            try (first | (refine wc (And.intro Try.call20 (fnSameC L (sameL_iff.2 rfl) _ _ _ (gslC _) (gslC _) (by omega))) ?_; rintro _ _ ⟨rfl, rfl⟩) | refine wn (h := ?_) | fail)
            repeat' (first | refine wy0 (h := ?_) | refine wn (h := ?_) | fail)
            refine awOps_nil (hK _ _ ?_)
            clear hK K
            refine aw_cond (by rfl) ?_ ?_
            · intro hc6
              cases hc6
            · intro hc6
              refine aw_skip ?_
              simp only [thenA_normal, thenA_ret, thenA_exit, blockA_normal, blockA_ret, blockA_exit, ↓reduceIte, Nat.reduceEqDiff]
              refine aw_region C (pb := false) rfl ?_
              repeat' (first | refine wy1 (a := by simp only [go_sem, ↓reduceIte, Nat.reduceEqDiff, reduceCtorEq, Nat.reduceAdd, Nat.reduceMul, Nat.reduceLeDiff, aLoad, aStore, wrap_small ((q : Int) + 1) (by omega) (by omega)]; exact rfl) (h := ?_) | fail)
              refine awOps_nil ?_
              try simp only [thenA_normal, thenA_ret, thenA_exit, blockA_normal, blockA_ret, blockA_exit]
              -- end of round 1 at 0f.x02f3f4f5t6f
              refine ⟨bs.length - (q + 1), [(7, vB true), (8, .av (.sc ty)), (15, .av (.sc z)), (17, vI (q + 1))], by omega, AllIn.less ⟨rfl, rfl, rfl, rfl, trivial⟩, q + 1, rfl, rfl, ?_, ?_⟩
              · exact ⟨by have := hs2.1; exact (by first | omega | (dsimp only; omega) | (dsimp only at *; omega)), fun j hj => (upd_ne _ _ (by have := hs2.1; omega)).trans ((upd_ne _ _ (by have := hs2.1; omega)).trans (hs2.2.1 j hj)), hs2.2.2⟩
              · omega
          · intro hc5
            try simp only [decide_eq_true_eq, decide_eq_false_iff_not] at hc5
            refine aw_exit ?_
            simp only [thenA_normal, thenA_ret, thenA_exit, blockA_normal, blockA_ret, blockA_exit, ↓reduceIte, Nat.reduceEqDiff]
            refine aw_region_seq C (pb := false) rfl fun K hK => ?_
            repeat' (first | refine wy0 (h := ?_) | fail)
            refine awOps_nil (hK _ _ ?_)
            clear hK K
            refine aw_ret ?_
            simp only [go_sem, ↓reduceIte, Nat.reduceEqDiff, reduceCtorEq, Nat.reduceAdd, Nat.reduceMul, Nat.reduceLeDiff, aLoad, aStore, FnQ, resA]
            -- 0f.x02f3f4f5f.x2.ret
            exact fun _ => ⟨by first | rfl | trivial, by first | exact hJ.2.1 | exact hs2.2.1, by first | exact hJ.2.2 | exact hs2.2.2, by first | rfl | trivial⟩
end Go.Am.Seat
/-
  MADE BY PROGRAM (am.py): the walks of functions 9.
-/
namespace Go.Am.Seat
open Go.Proofs

theorem fnVar (L : Loops) {a b : List Cell} {v : Bool} (hv : sameL (numG a) (numG b) = v) (s : Me) (x y : Sc) (hx : GSl encC x a) (hy : GSl encC y b) (ha : 1 ≤ a.length ∧ a.length ≤ 200) (hb : 1 ≤ b.length ∧ b.length ≤ 200) : FnL Try.prog L 18 [.av (.sc x), .av (.sc y)] s fun r s' => r = vB v ∧ s' = s :=
  (fn18 L a b s x y hx hy (by omega) (by omega)).mono fun r s' h => ⟨h.1.trans (congrArg vB hv), h.2⟩
theorem fnMat (L : Loops) {a b : List Cell} (ha : RTm a) (hb : RTm b) (s : Me) (x y : Sc) (hx : GSl encC x a) (hy : GSl encC y b) : FnL Try.prog L 15 [.av (.sc x), .av (.sc y)] s fun r s' => (∃ z, r = .tup [.av (.sc z), vB (matR a b).isSome] ∧ GSl encB z (((matR a b).getD []).map bndI)) ∧ s' = s := by
  have a2 := ha.len
  have b2 := hb.len
  refine (fn15 L a b _ s x y hx hy (by omega) hb.tok rfl fun o ho => matR_right ha hb ho).mono fun r s' ⟨⟨z, o, h1, h2, h3⟩, h4⟩ => ⟨⟨z, h1, ?_⟩, h4⟩
  rw [h3] at h2
  exact h2
theorem numG_len (t : List Cell) : (numG t).length = t.length := by rw [numG, List.length_map]

-- many steps
theorem bod9 : Try.f9.body = some (Try.f9.body.getD .skip) := rfl
set_option maxHeartbeats 2000000 in
set_option maxRecDepth 20000 in
theorem fn9 (L : Loops) (a b : List Cell) (k : Int) (s : Me) (sa sb : Sc) (ha : GSl encC sa a) (hb : GSl encC sb b) (hla : a.length ≤ 281474976710656) (hlb : b.length ≤ 281474976710656) (hna : ∀ c ∈ a, c.name.size ≤ 1152921504606846976) (hnb : ∀ c ∈ b, c.name.size ≤ 1152921504606846976) (hk : 0 ≤ k ∧ k ≤ 255) : FnL Try.prog L 9 [.av (.sc sa), .av (.sc sb), .av (.sc (.int .u8 k))] s fun r s' => (r = vB true) ∧ s' = s := by
  refine FnL.pure (R := fun r => r = vB true) ?_
  refine fn_of_body (ts := [6]) Try.func9 bod9 rfl (by simp) (by simp [Try.ntmps9]) fun D0 => ?_
  unfold Try.f9
  simp only [Option.getD_some, initSl]
  refine aw_region_seq C (pb := false) rfl fun K hK => ?_
  repeat' (first | refine wy0 (h := ?_) | fail)
  refine awOps_nil (hK _ _ ?_)
  clear hK K
  refine aw_region_seq C (pb := false) rfl fun K hK => ?_
  (refine wc (And.intro Try.call11 (fn11 L _)) ?_; rintro _ _ ⟨rfl, rfl⟩)
  repeat' (first | refine wy0 (h := ?_) | fail)
  refine awOps_nil (hK _ _ ?_)
  clear hK K
  refine aw_region_seq C (pb := false) rfl fun K hK => ?_
  repeat' (first | refine wy0 (h := ?_) | fail)
  refine wc (And.intro Try.call12 (fn12 L a 30 _ sa ha hla hna (by decide))) ?_
  rintro _ _ ⟨⟨ya, t, rfl, hya, hra, hta⟩, rfl⟩
  repeat' (first | refine wy0 (h := ?_) | fail)
  refine awOps_nil (hK _ _ ?_)
  clear hK K
  refine aw_region_seq C (pb := false) rfl fun K hK => ?_
  repeat' (first | refine wy0 (h := ?_) | fail)
  refine wc (And.intro Try.call12 (fn12 L b 30 _ sb hb hlb hnb (by decide))) ?_
  rintro _ _ ⟨⟨yb, u, rfl, hyb, hrb, htb⟩, rfl⟩
  repeat' (first | refine wy0 (h := ?_) | fail)
  refine awOps_nil (hK _ _ ?_)
  refine AW.less (sl' := [(0, .av (.sc ya)), (1, .av (.sc yb)), (2, .av (.sc (.int .u8 k))), (7, vB true)]) (AllIn.less ⟨rfl, rfl, rfl, rfl, trivial⟩) ?_
  clear hK K
  have rt := right_tm hra
  have ru := right_tm hrb
  have t1 := rt.pos
  have u1 := ru.pos
  refine aw_region_seq C (pb := false) rfl fun K hK => ?_
  repeat' (first | refine wy1 (a := by simp only [go_sem, ↓reduceIte, Nat.reduceEqDiff, reduceCtorEq, Nat.reduceAdd, Nat.reduceMul, Nat.reduceLeDiff, aLoad, aStore, wrap_small k (by omega) (by omega)]; exact rfl) (h := ?_) | fail)
  refine wc (And.intro Try.call29 (fn29 L t k _ ya hya (by omega) (fun c hc => by have := name_size (rt.ok c hc); omega) (fun c hc h1 => by have := (ok_var (rt.ok c hc) h1).2; omega) (by omega))) ?_
  rintro _ _ ⟨⟨xs, rfl, hxs⟩, rfl⟩
  repeat' (first | refine wy1 (a := by simp only [go_sem, ↓reduceIte, Nat.reduceEqDiff, reduceCtorEq, Nat.reduceAdd, Nat.reduceMul, Nat.reduceLeDiff, aLoad, aStore, wrap_small k (by omega) (by omega)]; exact rfl) (h := ?_) | fail)
  (refine wc (And.intro Try.call30 (fn30 L u _ yb hyb (by omega))) ?_; rintro _ _ ⟨rfl, rfl⟩)
  repeat' (first | refine wy1 (a := by simp only [go_sem, ↓reduceIte, Nat.reduceEqDiff, reduceCtorEq, Nat.reduceAdd, Nat.reduceMul, Nat.reduceLeDiff, aLoad, aStore, wrap_small k (by omega) (by omega)]; exact rfl) (h := ?_) | fail)
  refine awOps_nil (hK _ _ ?_)
  refine AW.less (sl' := [(0, .av (.sc ya)), (1, .av (.sc yb)), (7, vB true), (8, .av (.sc xs)), (9, vC (numG u))]) (AllIn.less ⟨rfl, rfl, rfl, rfl, rfl, trivial⟩) ?_
  clear hK K
  obtain ⟨v, hv⟩ : ∃ v, v = sameL (numG t) (numG u) := ⟨_, rfl⟩
  refine aw_region_seq C (pb := false) rfl fun K hK => ?_
  repeat' (first | refine wy0 (h := ?_) | fail)
  (refine wc (And.intro Try.call18 (fnVar L hv.symm _ ya yb hya hyb (by omega) (by omega))) ?_; rintro _ _ ⟨rfl, rfl⟩)
  repeat' (first | refine wy0 (h := ?_) | fail)
  refine awOps_nil (hK _ _ ?_)
  refine AW.less (sl' := [(0, .av (.sc ya)), (1, .av (.sc yb)), (7, vB true), (8, .av (.sc xs)), (9, vC (numG u)), (10, vB v)]) (AllIn.less ⟨rfl, rfl, rfl, rfl, rfl, rfl, trivial⟩) ?_
  clear hK K
  refine aw_region_seq C (pb := false) rfl fun K hK => ?_
  repeat' (first | refine wy0 (h := ?_) | fail)
  refine wc (And.intro Try.call15 (fnMat L rt ru _ ya yb hya hyb)) ?_
  rintro _ _ ⟨⟨z1, rfl, hz1⟩, rfl⟩
  repeat' (first | refine wy0 (h := ?_) | fail)
  refine awOps_nil (hK _ _ ?_)
  refine AW.less (sl' := [(0, .av (.sc ya)), (1, .av (.sc yb)), (7, vB true), (8, .av (.sc xs)), (9, vC (numG u)), (10, vB v), (12, vB (matR t u).isSome)]) (AllIn.less ⟨rfl, rfl, rfl, rfl, rfl, rfl, rfl, trivial⟩) ?_
  clear hK K
  refine aw_region_seq C (pb := false) rfl fun K hK => ?_
  repeat' (first | refine wy0 (h := ?_) | fail)
  refine wc (And.intro Try.call15 (fnMat L ru rt _ yb ya hyb hya)) ?_
  rintro _ _ ⟨⟨z2, rfl, hz2⟩, rfl⟩
  repeat' (first | refine wy0 (h := ?_) | fail)
  refine awOps_nil (hK _ _ ?_)
  refine AW.less (sl' := [(0, .av (.sc ya)), (1, .av (.sc yb)), (7, vB true), (8, .av (.sc xs)), (9, vC (numG u)), (10, vB v), (12, vB (matR t u).isSome), (14, vB (matR u t).isSome)]) (AllIn.less ⟨rfl, rfl, rfl, rfl, rfl, rfl, rfl, rfl, trivial⟩) ?_
  clear hK K
  refine aw_seq ?_
  refine aw_cut_seq C (pb := false) [(0, .av (.sc ya)), (1, .av (.sc yb)), (7, vB true), (9, vC (numG u)), (10, vB v), (12, vB (matR t u).isSome), (14, vB (matR u t).isSome), (49, vB false)] rfl ?_ fun n8 hn8 => ?_
  · by_cases hsr : rightOk (t.map (mapC (· + k))) = true
    · have hsg : shiftG t k = t.map (mapC (· + k)) := by rw [shiftG, if_pos hsr]
      have hgt : decide (((shiftG t k).length : Int) > 0) = true := decide_eq_true (by rw [hsg, List.length_map]; omega)
      repeat' (first | refine wy2 (by simp only [go_sem, ↓reduceIte, Nat.reduceEqDiff, reduceCtorEq, Nat.reduceAdd, Nat.reduceMul, Nat.reduceLeDiff, aLoad, aStore, lenC hxs, hgt]; exact rfl) ?_ | refine awOps_no (by rfl) (by rfl) ?_ | fail)
      refine wc (And.intro Try.call18 (fnVar L (v := true) (by rw [hsg, numG_shift]; exact sameL_iff.2 rfl) _ ya xs hya hxs (by omega) (by rw [hsg, List.length_map]; omega))) ?_
      rintro _ _ ⟨rfl, rfl⟩
      repeat' (first | refine wy2 (by simp only [go_sem, ↓reduceIte, Nat.reduceEqDiff, reduceCtorEq, Nat.reduceAdd, Nat.reduceMul, Nat.reduceLeDiff, aLoad, aStore, lenC hxs, hgt]; exact rfl) ?_ | refine awOps_no (by rfl) (by rfl) ?_ | fail)
      exact awOps_nil ⟨⟨rfl, rfl, rfl, rfl, rfl, rfl, rfl, rfl, trivial⟩, rfl, (by first | omega | (dsimp only; omega) | (dsimp only at *; omega)), rfl⟩
    · have hsg : shiftG t k = [] := by rw [shiftG, if_neg hsr]
      have hgt : decide (((shiftG t k).length : Int) > 0) = false := decide_eq_false (by rw [hsg]; simp)
      repeat' (first | refine wy2 (by simp only [go_sem, ↓reduceIte, Nat.reduceEqDiff, reduceCtorEq, Nat.reduceAdd, Nat.reduceMul, Nat.reduceLeDiff, aLoad, aStore, lenC hxs, hgt]; exact rfl) ?_ | refine awOps_no (by rfl) (by rfl) ?_ | fail)
      exact awOps_nil ⟨⟨rfl, rfl, rfl, rfl, rfl, rfl, rfl, rfl, trivial⟩, rfl, (by first | omega | (dsimp only; omega) | (dsimp only at *; omega)), rfl⟩
  refine aw_cond (by rfl) ?_ ?_
  · intro hc0
    cases hc0
  · intro hc0
    refine aw_skip ?_
    simp only [thenA_normal, thenA_ret, thenA_exit, blockA_normal, blockA_ret, blockA_exit, ↓reduceIte, Nat.reduceEqDiff]
    have h2 : sameL (numG u) (numG (numG u)) = true := by rw [numG_idem]; exact sameL_iff.2 rfl
    have h3 : sameL (numG u) (numG t) = v := by rw [sameL_comm, hv]
    have h4 : sameL (numG t) (numG (numG u)) = v := by rw [numG_idem, hv]
    have h5 : v = ((matR t u).isSome && (matR u t).isSome) := by rw [hv, variant_match rt ru]
    have hul := numG_len u
    obtain ⟨p, hp⟩ : ∃ p, p = (matR t u).isSome := ⟨_, rfl⟩
    obtain ⟨q, hq⟩ : ∃ q, q = (matR u t).isSome := ⟨_, rfl⟩
    rw [← hp, ← hq] at h5 ⊢
    clear hp hq hv
    refine aw_cut_seq C (pb := false) [(6, vB true)] rfl ?_ fun n10 hn10 => ?_
    · subst h5; cases p <;> cases q
      all_goals (repeat' (first | refine wy0 (h := ?_) | fail))
      all_goals ((refine wc (And.intro Try.call18 (fnVar L (sameL_iff.2 rfl) _ ya ya hya hya (by omega) (by omega))) ?_; rintro _ _ ⟨rfl, rfl⟩))
      all_goals (repeat' (first | refine wy0 (h := ?_) | refine wn (h := ?_) | fail))
      all_goals (try (first | (refine wc (And.intro Try.call18 (fnVar L h2 _ yb _ hyb (gslC _) (by omega) (by omega))) ?_; rintro _ _ ⟨rfl, rfl⟩) | refine wn (h := ?_) | fail))
      all_goals (repeat' (first | refine wy0 (h := ?_) | refine wn (h := ?_) | fail))
      all_goals (try (first | (refine wc (And.intro Try.call18 (fnVar L h3 _ yb ya hyb hya (by omega) (by omega))) ?_; rintro _ _ ⟨rfl, rfl⟩) | refine wn (h := ?_) | fail))
      all_goals (repeat' (first | refine wy0 (h := ?_) | refine wn (h := ?_) | fail))
      all_goals (try (first | (refine wc (And.intro Try.call18 (fnVar L h4 _ ya _ hya (gslC _) (by omega) (by omega))) ?_; rintro _ _ ⟨rfl, rfl⟩) | refine wn (h := ?_) | fail))
      all_goals (repeat' (first | refine wy0 (h := ?_) | refine wn (h := ?_) | fail))
      all_goals (exact awOps_nil ⟨⟨by first | rfl | simp [get], trivial⟩, rfl, (by first | omega | (dsimp only; omega)), rfl⟩)
    refine aw_ret ?_
    simp only [go_sem, ↓reduceIte, Nat.reduceEqDiff, reduceCtorEq, Nat.reduceAdd, Nat.reduceMul, Nat.reduceLeDiff, aLoad, aStore, FnQ, resA]
    -- 0f.ret
    exact fun _ => ⟨by first | rfl | trivial, by first | exact fun _ _ => rfl | trivial, by first | rfl | trivial, by first | rfl | trivial⟩
end Go.Am.Seat
/-
  MADE BY PROGRAM (am.py): the walks of functions 10.
-/
namespace Go.Am.Seat
open Go.Proofs

theorem pur_one2 {ob : Nat → Obj} {k : Nat} {a b : Sc} (h : ob k = .cs [.sc a, .sc b] 0) : purV ob (.av (.own k 0 1 2)) = some (.av (.sc (.sl 1 [a, b])), upd ob k (.cs [.sc a, .sc b] 2)) := by
  simp [purV, pur, purD, h, purL]
theorem fnShift (L : Loops) {t : List Cell} (ht : RTm t) (k : Int) (hk : 0 ≤ k ∧ k ≤ 1000) (s : Me) (x : Sc) (hx : GSl encC x t) : FnL Try.prog L 29 [.av (.sc x), vI k] s fun r s' => (∃ y, r = .av (.sc y) ∧ GSl encC y (shiftG t k)) ∧ s' = s := by
  have := ht.len
  have := ht.pos
  exact fn29 L t k s x hx (by omega) (fun c hc => by have := name_size (ht.ok c hc); omega) (fun c hc h1 => by have := (ok_var (ht.ok c hc) h1).2; omega) (by omega)

theorem v9_tm : RTm [varCell 999] := v_tm (n := 999) (by decide)
theorem shiftG_len (t : List Cell) (k : Int) : (shiftG t k).length ≤ t.length := by
  unfold shiftG
  split
  · rw [List.length_map]; exact Nat.le_refl _
  · simp

-- many steps
theorem bod10 : Try.f10.body = some (Try.f10.body.getD .skip) := rfl
set_option maxHeartbeats 4000000 in
set_option maxRecDepth 20000 in
theorem fn10 (L : Loops) (a : List Cell) (ls : List (Sc × List Cell)) (s : Me) (sa sl : Sc) (ha : GSl encC sa a) (hsl : GSl encT sl (ls.map Prod.fst)) (hla : a.length ≤ 281474976710656) (hna : ∀ c ∈ a, c.name.size ≤ 1152921504606846976) (hls : ls.length ≤ 281474976710656 ∧ ∀ p ∈ ls, GSl encC p.1 p.2 ∧ p.2.length ≤ 281474976710656 ∧ ∀ c ∈ p.2, c.name.size ≤ 1152921504606846976) : FnL Try.prog L 10 [.av (.sc sa), .av (.sc sl)] s fun r s' => (r = vB true) ∧ s' = s := by
  refine FnL.pure (R := fun r => r = vB true) ?_
  refine fn_of_body (ts := [4]) Try.func10 bod10 rfl (by simp) (by simp [Try.ntmps10]) fun D0 => ?_
  unfold Try.f10
  simp only [Option.getD_some, initSl]
  refine aw_region_seq C (pb := false) rfl fun K hK => ?_
  repeat' (first | refine wy0 (h := ?_) | fail)
  refine awOps_nil (hK _ _ ?_)
  clear hK K
  refine aw_region_seq C (pb := false) rfl fun K hK => ?_
  (refine wc (And.intro Try.call11 (fn11 L _)) ?_; rintro _ _ ⟨rfl, rfl⟩)
  repeat' (first | refine wy0 (h := ?_) | fail)
  refine awOps_nil (hK _ _ ?_)
  clear hK K
  refine aw_region_seq C (pb := false) rfl fun K hK => ?_
  repeat' (first | refine wy0 (h := ?_) | fail)
  refine wc (And.intro Try.call12 (fnMade L a 30 _ sa ha hla hna (by decide))) ?_
  rintro _ _ ⟨⟨t, rfl, rt, hlt⟩, rfl⟩
  (refine wc (And.intro Try.call30 (fn30 L t _ _ (gslC t) ⟨rt.pos, by omega⟩)) ?_; rintro _ _ ⟨rfl, rfl⟩)
  repeat' (first | refine wy0 (h := ?_) | fail)
  refine awOps_nil (hK _ _ ?_)
  refine AW.less (sl' := [(0, vC (numG t)), (1, .av (.sc sl)), (5, vB true)]) (AllIn.less ⟨rfl, rfl, rfl, trivial⟩) ?_
  clear hK K
  obtain ⟨w, hw⟩ : ∃ w, w = numG t := ⟨_, rfl⟩
  obtain ⟨rw_, hwo⟩ : RTm w ∧ ∀ n, occ w n → 0 ≤ n ∧ n < t.length := by rw [hw]; exact num_tm rt
  have hwl : w.length = t.length := by rw [hw, numG, List.length_map]
  rw [← hw]
  refine aw_region_seq C (pb := false) rfl fun K hK => ?_
  repeat' (first | refine wy0 (h := ?_) | fail)
  refine awOps_nil (hK _ _ ?_)
  clear hK K
  refine aw_seq ?_
  refine aw_region_seq C (pb := false) rfl fun K hK => ?_
  repeat' (first | refine wy0 (h := ?_) | fail)
  refine awOps_nil (hK _ _ ?_)
  clear hK K
  refine aw_block ?_
  refine AW.less (sl' := [(0, vC w), (1, .av (.sc sl)), (5, vB true), (6, (_)), (7, vI (0))]) (AllIn.less ⟨rfl, rfl, rfl, rfl, rfl, trivial⟩) (aw_loop (fun k sl1 s1 => ∃ (i : Nat) (xo : Va) (out : List (Int × List Cell)), k = 7 - i ∧ sl1 = [(0, vC w), (1, .av (.sc sl)), (5, vB true), (6, (xo)), (7, vI (i))] ∧ (Kp s s1) ∧ (i ≤ 6 ∧ i ≤ ls.length ∧ out.length ≤ i) ∧ (Acc s.nx s1.nx s1.ob xo out.length 2 (((out.map bndI).flatMap encB).map .sc)) ∧ (∀ p ∈ out, RTm p.2 ∧ p.2.length ≤ 6)) (k := 7 - (0)) ⟨0, _, [], rfl, rfl, ⟨by first | omega | (dsimp only; omega), fun j hj => upd_ne _ _ (by omega), rfl⟩, ⟨Nat.zero_le _, Nat.zero_le _, Nat.le_refl _⟩, .inr ⟨_, 0, rfl, (by first | omega | (dsimp only; omega) | (dsimp only at *; omega)), (by first | omega | (dsimp only; omega) | (dsimp only at *; omega)), upd_same _ _ _, by simp, by simp⟩, fun p hp => by simp at hp⟩ ?_)
  rintro k1 _ s1 ⟨i, xo, out, hk1, rfl, hs1, hb1, hacc, hout⟩
  refine aw_seq ?_
  refine aw_cut_seq C (pb := false) [(0, vC w), (1, .av (.sc sl)), (5, vB true), (6, xo), (7, vI i), (31, vB (decide ((i : Int) < (ls.length : Int)) && decide ((i : Int) < 6)))] rfl ?_ fun n5 hn5 => ?_
  · cases hA0 : (decide ((i : Int) < (ls.length : Int)) : Bool)
    all_goals (repeat' (first | refine wy1 (a := by simp only [go_sem, ↓reduceIte, Nat.reduceEqDiff, reduceCtorEq, Nat.reduceAdd, Nat.reduceMul, Nat.reduceLeDiff, aLoad, aStore, lenT hsl, List.length_map, hA0]; exact rfl) (h := ?_) | refine wn (h := ?_) | fail))
    all_goals (exact awOps_nil ⟨⟨rfl, rfl, rfl, rfl, rfl, rfl, trivial⟩, rfl, (by first | omega | (dsimp only; omega)), rfl⟩)
  refine aw_cond (by rfl) ?_ ?_
  · intro hc0
    obtain ⟨hi1, hi6⟩ := Bool.and_eq_true_iff.1 (show (decide ((i : Int) < (ls.length : Int)) && decide ((i : Int) < 6)) = true from hc0)
    have hi2 : i < ls.length := by have := of_decide_eq_true hi1; omega
    have hi7 : i < 6 := by have := of_decide_eq_true hi6; omega
    have hpi := hls.2 ls[i] (List.getElem_mem hi2)
    have hix : aIndex T 40 (.av (.sc sl)) (vI i) = some (.av (.sc (.cptr (ls[i].1 :: ((ls.map Prod.fst).drop (i + 1)).flatMap encT)))) := by
      have := idxT hsl (i := i) (by rw [List.length_map]; exact hi2)
      rw [List.getElem_map] at this
      exact this
    refine aw_skip ?_
    simp only [thenA_normal, thenA_ret, thenA_exit, blockA_normal, blockA_ret, blockA_exit, ↓reduceIte, Nat.reduceEqDiff]
    refine aw_seq ?_
    refine aw_block ?_
    refine aw_region_seq C (pb := false) rfl fun K hK => ?_
    repeat' (first | refine wy1 (a := by simp only [go_sem, ↓reduceIte, Nat.reduceEqDiff, reduceCtorEq, Nat.reduceAdd, Nat.reduceMul, Nat.reduceLeDiff, aLoad, aStore, hix]; exact rfl) (h := ?_) | fail)
    refine wc (And.intro Try.call12 (fnMade L ls[i].2 6 _ ls[i].1 hpi.1 hpi.2.1 hpi.2.2 (by decide))) ?_
    rintro _ _ ⟨⟨q, rfl, rq, hlq⟩, rfl⟩
    refine wc (And.intro Try.call29 (fnShift L rq 100 (by decide) _ _ (gslC q))) ?_
    rintro _ _ ⟨⟨xs, rfl, hxs⟩, rfl⟩
    repeat' (first | refine wy1 (a := by simp only [go_sem, ↓reduceIte, Nat.reduceEqDiff, reduceCtorEq, Nat.reduceAdd, Nat.reduceMul, Nat.reduceLeDiff, aLoad, aStore, hix]; exact rfl) (h := ?_) | fail)
    refine awOps_nil (hK _ _ ?_)
    clear hK K
    refine aw_region_seq C (pb := false) rfl fun K hK => ?_
    repeat' (first | refine wy1 (a := by simp only [go_sem, ↓reduceIte, Nat.reduceEqDiff, reduceCtorEq, Nat.reduceAdd, Nat.reduceMul, Nat.reduceLeDiff, aLoad, aStore, lenC hxs]; exact rfl) (h := ?_) | fail)
    refine awOps_nil (hK _ _ ?_)
    clear hK K
    refine aw_cond (by rfl) ?_ ?_
    · intro hc1
      have hpos : 0 < (shiftG q 100).length := by have := of_decide_eq_true hc1; omega
      have hsq : RTm (shiftG q 100) ∧ (shiftG q 100).length ≤ 6 := by
        rcases shiftG_cases (k := 100) rq with h | ⟨h, _⟩
        · rw [h] at hpos; simp at hpos
        · exact ⟨h, by have h2 := shiftG_len q 100; omega⟩
      obtain rfl := gsl_cells hxs hpos
      refine aw_region C (pb := false) rfl ?_
      repeat' (first | refine wy0 (h := ?_) | fail)
      refine awOps_append (by rfl) (by rfl) (by rfl) (by rfl) (hacc.up (Nat.le_refl _) fun j h1 h2 => upd_ne _ _ (by omega)) T25 rfl T39 rfl (by simp) (by simp [y39]) (k := 1) (new := (encB (bndI ((i : Int), shiftG q 100))).map .sc) (by simp [aSrc, evA, get, upd, zerosA, encB, bndI, storeL, List.range, List.range.loop]; exact ⟨Nat.le_refl _, rfl⟩) (by simp [encB]) (by omega) (by omega) (by have := hs1.1; omega) fun x6 ob6 hacc6 hlow6 _ => ?_
      repeat' (first | refine wy0 (h := ?_) | fail)
      refine awOps_nil ?_
      try simp only [thenA_normal, thenA_ret, thenA_exit, blockA_normal, blockA_ret, blockA_exit]
      refine aw_region C (pb := false) rfl ?_
      repeat' (first | refine wy1 (a := by simp only [go_sem, ↓reduceIte, Nat.reduceEqDiff, reduceCtorEq, Nat.reduceAdd, Nat.reduceMul, Nat.reduceLeDiff, aLoad, aStore, wrap_small ((i : Int) + 1) (by omega) (by omega)]; exact rfl) (h := ?_) | fail)
      refine awOps_nil ?_
      try simp only [thenA_normal, thenA_ret, thenA_exit, blockA_normal, blockA_ret, blockA_exit]
      -- end of round 0 at 0t1t
      refine ⟨7 - (i + 1), [(0, vC w), (1, .av (.sc sl)), (5, vB true), (6, (x6)), (7, vI (i + 1))], by omega, AllIn.less ⟨rfl, rfl, rfl, rfl, rfl, trivial⟩, i + 1, x6, out ++ [((i : Int), shiftG q 100)], rfl, rfl, ?_, ?_, ?_, ?_⟩
      · exact ⟨by have := hs1.1; exact (by first | omega | (dsimp only; omega)), fun j hj => (hlow6 j hj).trans ((upd_ne _ _ (by have := hs1.1; omega)).trans (hs1.2.1 j hj)), hs1.2.2⟩
      · simp only [List.length_append, List.length_cons, List.length_nil]
        omega
      · simp only [List.length_append, List.length_cons, List.length_nil, List.map_append, List.flatMap_append, List.map_cons, List.map_nil, List.flatMap_cons, List.flatMap_nil, List.append_nil]
        exact hacc6.up (by first | omega | (dsimp only; omega)) fun _ _ _ => rfl
      · intro p hp
        rcases List.mem_append.1 hp with hp | hp
        · exact hout p hp
        · rw [List.mem_singleton] at hp
          rw [hp]
          exact hsq
    · intro hc1
      refine aw_skip ?_
      simp only [thenA_normal, thenA_ret, thenA_exit, blockA_normal, blockA_ret, blockA_exit, ↓reduceIte, Nat.reduceEqDiff]
      refine aw_region C (pb := false) rfl ?_
      repeat' (first | refine wy1 (a := by simp only [go_sem, ↓reduceIte, Nat.reduceEqDiff, reduceCtorEq, Nat.reduceAdd, Nat.reduceMul, Nat.reduceLeDiff, aLoad, aStore, wrap_small ((i : Int) + 1) (by omega) (by omega)]; exact rfl) (h := ?_) | fail)
      refine awOps_nil ?_
      try simp only [thenA_normal, thenA_ret, thenA_exit, blockA_normal, blockA_ret, blockA_exit]
      -- end of round 0 at 0t1f
      refine ⟨7 - (i + 1), [(0, vC w), (1, .av (.sc sl)), (5, vB true), (6, (xo)), (7, vI (i + 1))], by omega, AllIn.less ⟨rfl, rfl, rfl, rfl, rfl, trivial⟩, i + 1, xo, out, rfl, rfl, ?_, ?_, ?_, ?_⟩
      · exact hs1.up (by first | omega | (dsimp only; omega))
      · omega
      · exact hacc.up (by first | omega | (dsimp only; omega)) fun _ _ _ => rfl
      · exact hout
  · intro hc0
    refine aw_exit ?_
    simp only [thenA_normal, thenA_ret, thenA_exit, blockA_normal, blockA_ret, blockA_exit, ↓reduceIte, Nat.reduceEqDiff]
    have ht1 := rt.pos
    obtain ⟨ty, ob7, hpv7, hty, hacc7, hlow7, _⟩ := Acc.pure (enc := encB) (k := 2) (l := out.map bndI) (fun _ => rfl) (by rw [List.length_map]; exact hacc)
    refine aw_pur 6 hpv7 ?_
    refine aw_state (J := fun s8 => Kp s s8) ⟨by have := hs1.1; dsimp only; omega, fun j hj => (hlow7 j hj).trans (hs1.2.1 j hj), hs1.2.2⟩ fun s8 hJ => ?_
    obtain ⟨T, hT⟩ : ∃ T, T = bmap out := ⟨_, rfl⟩
    have hTt : Terms T := by rw [hT]; exact bmap_tm fun p hp => (hout p hp).1
    have hT6 : ∀ n, (T n).length ≤ 6 := fun n => by rw [hT]; exact bmap_len (by omega) (fun p hp => (hout p hp).2) n
    have hTo : ∀ n, occ w n → ∀ c ∈ T n, cellOk c = true := fun n hn c hc => by
      rw [hT, bmap] at hc
      cases hf : out.find? fun p => p.1 == n with
      | none =>
        rw [hf] at hc
        rw [List.mem_singleton.1 hc]
        obtain ⟨d, h1, h2, h3⟩ := hn
        have := ok_varCell (rw_.ok d h1) h2
        rw [h3] at this
        rw [← this]; exact rw_.ok d h1
      | some p =>
        rw [hf] at hc
        exact (hout p (List.mem_of_find?_eq_some hf)).1.ok c hc
    have hTv : ∀ n, occ w n → ∀ c ∈ T n, c.kind = 1 → 0 ≤ c.n := fun n hn c hc hk => (ok_var (hTo n hn c hc) hk).2.1
    obtain ⟨b1, hb1⟩ : ∃ v, v = appT (bmap out) w := ⟨_, rfl⟩
    have hbu : b1.length ≤ 6 * w.length := by rw [hb1, ← hT]; exact appT_bound (by omega) hT6 w
    have hbl : 1 ≤ b1.length := by rw [hb1, ← hT]; exact Nat.le_trans rw_.pos (appT_len hTt w)
    have rb1 : RTm b1 := ⟨by rw [hb1, ← hT]; exact appT_tk hTt rw_.tk, fun c hc => by
      rw [hb1, ← hT] at hc
      rcases appT_mem hc with ⟨h, _⟩ | ⟨n, h1, h2⟩
      · exact rw_.ok c h
      · exact hTo n h1 c h2, hbl, by omega⟩
    refine aw_region_seq C (pb := false) rfl fun K hK => ?_
    repeat' (first | refine wy0 (h := ?_) | fail)
    (refine wc (And.intro Try.call21 (fnApplyV L hb1.symm ⟨hbl, by omega⟩ _ ty _ hty (gslC w) (by omega) (fun p hp => by have := (hout p hp).2; omega) rw_)) ?_; rintro _ _ ⟨rfl, rfl⟩)
    repeat' (first | refine wy0 (h := ?_) | fail)
    refine awOps_nil (hK _ _ ?_)
    clear hK K
    refine aw_seq ?_
    refine aw_region_seq C (pb := false) rfl fun K hK => ?_
    repeat' (first | refine wy0 (h := ?_) | fail)
    refine awOps_nil (hK _ _ ?_)
    clear hK K
    refine aw_cond (by rfl) ?_ ?_
    · intro hc2
      cases hc2
    · intro hc2
      refine aw_skip ?_
      simp only [thenA_normal, thenA_ret, thenA_exit, blockA_normal, blockA_ret, blockA_exit, ↓reduceIte, Nat.reduceEqDiff]
      refine aw_region_seq C (pb := false) rfl fun K hK => ?_
      repeat' (first | refine wy0 (h := ?_) | fail)
      refine wc (And.intro Try.call29 (fnShift L rb1 200 (by decide) _ _ (gslC b1))) ?_
      rintro _ _ ⟨⟨xs, rfl, hxs⟩, rfl⟩
      repeat' (first | refine wy0 (h := ?_) | fail)
      refine awOps_nil (hK _ _ ?_)
      clear hK K
      refine aw_seq ?_
      refine aw_region_seq C (pb := false) rfl fun K hK => ?_
      repeat' (first | refine wy1 (a := by simp only [go_sem, ↓reduceIte, Nat.reduceEqDiff, reduceCtorEq, Nat.reduceAdd, Nat.reduceMul, Nat.reduceLeDiff, aLoad, aStore, lenC hxs]; exact rfl) (h := ?_) | fail)
      refine awOps_nil (hK _ _ ?_)
      clear hK K
      refine aw_cond (by rfl) ?_ ?_
      · intro hc3
        refine aw_region_seq C (pb := false) rfl fun K hK => ?_
        repeat' (first | refine wy0 (h := ?_) | fail)
        refine awOps_nil (hK _ _ ?_)
        clear hK K
        refine aw_ret ?_
        try simp only [thenA_normal, thenA_ret, thenA_exit, blockA_normal, blockA_ret, blockA_exit]
        simp only [go_sem, ↓reduceIte, Nat.reduceEqDiff, reduceCtorEq, Nat.reduceAdd, Nat.reduceMul, Nat.reduceLeDiff, aLoad, aStore, FnQ, resA]
        -- 0f.x02f3t.ret
        exact fun _ => ⟨by first | rfl | trivial, by first | exact hJ.2.1 | exact hJ9.2.1 | exact fun j hj => (upd_ne _ _ (by have := hJ9.1; omega)).trans ((upd_ne _ _ (by have := hJ9.1; omega)).trans (hJ9.2.1 j hj)), by first | exact hJ.2.2 | exact hJ9.2.2, by first | rfl | trivial⟩
      · intro hc3
        have hne : ¬ (shiftG b1 200).length = 0 := by intro h; rw [h] at hc3; cases hc3
        obtain ⟨rb2', hb2'⟩ : RTm (shiftG b1 200) ∧ shiftG b1 200 = appT (shK 200) b1 := by
          rcases shiftG_cases (k := 200) rb1 with h | h
          · rw [h] at hne; simp at hne
          · exact h
        obtain rfl := gsl_cells hxs rb2'.pos
        obtain ⟨b2, hb2⟩ : ∃ b, b = shiftG b1 200 := ⟨_, rfl⟩
        rw [← hb2] at rb2' hb2' ⊢
        have rb2 := rb2'
        obtain ⟨σ, hσ, hsm, hyl2, hye, hyt, hvr⟩ := apart_law rw_ (fun n h => by have := (hwo n h).2; omega) hTt hT6 hTv (hb2'.trans (by rw [hb1, ← hT])) rb2
        obtain ⟨y, hy⟩ : ∃ y, y = appT σ b2 := ⟨_, rfl⟩
        rw [← hy] at hyt hvr
        have hyl := hyt.pos
        have hyu := hyt.len
        have hmg := mgu_norm rw_ rb2 hσ
        rw [mguO_small hsm] at hmg
        have hbm := bmap_norm rw_ rb2 hσ
        have hbn := bnds_len hsm
        obtain ⟨bs, hbs⟩ : ∃ bs, bs = (bnds σ).map toI := ⟨_, rfl⟩
        have hz := scB_gsl bs
        rw [← hbs] at hbm hbn
        have hy1 : y = appT (bmap bs) w := by rw [hbm, hy, ← hye]
        have hy2 : appT (bmap bs) b2 = y := by rw [hbm, hy]
        refine aw_skip ?_
        simp only [thenA_normal, thenA_ret, thenA_exit, blockA_normal, blockA_ret, blockA_exit, ↓reduceIte, Nat.reduceEqDiff]
        refine aw_region_seq C (pb := false) rfl fun K hK => ?_
        repeat' (first | refine wy0 (h := ?_) | fail)
        (refine wc (And.intro Try.call13 (fnMguV L rw_ rb2 _)) ?_; rintro _ _ ⟨rfl, rfl⟩)
        repeat' (first | refine wy0 (h := ?_) | fail)
        refine awOps_nil (hK _ _ ?_)
        refine AW.less (sl' := [(0, vC w), (5, vB true), (9, vC b2), (11, .av (.sc (scB ((mgu w b2).1.map toI)))), (12, vI (mgu w b2).2)]) (AllIn.less ⟨rfl, rfl, rfl, rfl, rfl, trivial⟩) ?_
        clear hK K
        rw [hmg]
        dsimp only
        rw [← hbs]
        obtain ⟨z, hz'⟩ : ∃ z, z = scB bs := ⟨_, rfl⟩
        rw [← hz'] at hz ⊢
        refine aw_region_seq C (pb := false) rfl fun K hK => ?_
        repeat' (first | refine wy0 (h := ?_) | fail)
        (refine wc (And.intro Try.call21 (fnApplyV L hy1.symm ⟨hyl, by omega⟩ _ z _ hz (gslC w) (by omega) (fun p hp => by have := hbn.2 p hp; omega) rw_)) ?_; rintro _ _ ⟨rfl, rfl⟩)
        repeat' (first | refine wy0 (h := ?_) | fail)
        refine awOps_nil (hK _ _ ?_)
        clear hK K
        refine aw_region_seq C (pb := false) rfl fun K hK => ?_
        repeat' (first | refine wy0 (h := ?_) | fail)
        (refine wc (And.intro Try.call21 (fnApplyV L hy2 ⟨hyl, by omega⟩ _ z _ hz (gslC b2) (by omega) (fun p hp => by have := hbn.2 p hp; omega) rb2)) ?_; rintro _ _ ⟨rfl, rfl⟩)
        repeat' (first | refine wy0 (h := ?_) | fail)
        refine awOps_nil (hK _ _ ?_)
        clear hK K
        refine aw_region_seq C (pb := false) rfl fun K hK => ?_
        (refine wc (And.intro Try.call25 (fn25 L 999 _)) ?_; rintro _ _ ⟨rfl, rfl⟩)
        repeat' (first | refine wy0 (h := ?_) | fail)
        refine wc (And.intro Try.call13 (FnL.pur (PurArgs.pur (celC_pure (l := [varCell 999]) (upd_same _ _ _)) (PurArgs.keep PurArgs.nil)) (fnMguV L v9_tm rw_ _))) ?_
        rintro _ _ ⟨rfl, rfl⟩
        repeat' (first | refine wy0 (h := ?_) | fail)
        refine awOps_nil (hK _ _ ?_)
        refine AW.less (sl' := [(0, vC w), (5, vB true), (9, vC b2), (12, vI 0), (13, vC y), (14, vB true), (15, vC y), (16, vB true), (17, .av (.sc (scB ((mgu [varCell 999] w).1.map toI)))), (18, vI (mgu [varCell 999] w).2)]) (AllIn.less ⟨rfl, rfl, rfl, rfl, rfl, rfl, rfl, rfl, rfl, rfl, trivial⟩) ?_
        have hmv := apart_var rw_ (fun n h => by have := (hwo n h).2; omega) v9_tm
        rw [hmv, show List.map toI (([((999 : Nat), w)], (0 : Int)) : List (Nat × List Cell) × Int).1 = [((999 : Int), w)] from rfl]
        dsimp only
        have hz9 := scB_gsl [((999 : Int), w)]
        obtain ⟨z9, hz9'⟩ : ∃ z, z = scB [((999 : Int), w)] := ⟨_, rfl⟩
        rw [← hz9'] at hz9 ⊢
        refine aw_state (J := fun s9 => Kp s s9) ⟨by have := hJ.1; exact (by first | omega | (dsimp only; omega) | (dsimp only at *; omega)), fun j hj => (upd_ne _ _ (by have := hJ.1; omega)).trans ((upd_ne _ _ (by have := hJ.1; omega)).trans (hJ.2.1 j hj)), hJ.2.2⟩ fun s9 hJ9 => ?_
        clear hK K
        refine aw_seq ?_
        refine aw_region_seq C (pb := false) rfl fun K hK => ?_
        repeat' (first | refine wy0 (h := ?_) | refine wn (h := ?_) | fail)
        try (first | (refine wc (And.intro Try.call20 (fnSameC L (sameL_iff.2 rfl) _ _ _ (gslC y) (gslC y) (by omega))) ?_; rintro _ _ ⟨rfl, rfl⟩) | refine wn (h := ?_) | fail)
        repeat' (first | refine wy0 (h := ?_) | refine wn (h := ?_) | fail)
        try (first | (refine wc (And.intro Try.call18 (fnVar L hvr _ _ _ (gslC y) (gslC b2) ⟨hyl, hyu⟩ ⟨rb2.pos, rb2.len⟩)) ?_; rintro _ _ ⟨rfl, rfl⟩) | refine wn (h := ?_) | fail)
        repeat' (first | refine wy0 (h := ?_) | refine wn (h := ?_) | fail)
        refine awOps_nil (hK _ _ ?_)
        clear hK K
        refine aw_cond (by rfl) ?_ ?_
        · intro hc4
          cases hc4
        · intro hc4
          refine aw_skip ?_
          simp only [thenA_normal, thenA_ret, thenA_exit, blockA_normal, blockA_ret, blockA_exit, ↓reduceIte, Nat.reduceEqDiff]
          refine aw_seq ?_
          have hw0 : 0 < w.length := rw_.pos
          have hw2 : aIndex Go.Am.Seat.T 22 (vC w) (.av (.sc (.int .i64 0))) = _ := idxC (gslC w) hw0
          refine aw_region_seq C (pb := false) rfl fun K hK => ?_
          repeat' (first | refine wy1 (a := by simp only [go_sem, ↓reduceIte, Nat.reduceEqDiff, reduceCtorEq, Nat.reduceAdd, Nat.reduceMul, Nat.reduceLeDiff, aLoad, aStore, hw2]; exact rfl) (h := ?_) | fail)
          refine awOps_nil (hK _ _ ?_)
          clear hK K
          refine aw_cond (by rfl) ?_ ?_
          · intro hc5
            refine aw_region_seq C (pb := false) rfl fun K hK => ?_
            repeat' (first | refine wy0 (h := ?_) | fail)
            refine wc (And.intro Try.call17 (FnL.pur (PurArgs.keep (PurArgs.pur (pur_one2 (a := .int .i64 999) (b := slC w) (upd_same _ _ _)) PurArgs.nil)) (fnSameE L [((999 : Int), w)] _ z9 _ hz9 (.inr rfl) ⟨by simp, fun p hp => by rw [List.mem_singleton] at hp; rw [hp]; exact rw_.len⟩))) ?_
            rintro _ _ ⟨rfl, rfl⟩
            repeat' (first | refine wy0 (h := ?_) | refine wn (h := ?_) | fail)
            refine awOps_nil (hK _ _ ?_)
            clear hK K
            refine aw_ret ?_
            try simp only [thenA_normal, thenA_ret, thenA_exit, blockA_normal, blockA_ret, blockA_exit]
            simp only [go_sem, ↓reduceIte, Nat.reduceEqDiff, reduceCtorEq, Nat.reduceAdd, Nat.reduceMul, Nat.reduceLeDiff, aLoad, aStore, FnQ, resA]
            -- 0f.x02f3f4f5t.ret
            exact fun _ => ⟨by first | rfl | trivial, by first | exact hJ.2.1 | exact hJ9.2.1 | exact fun j hj => (upd_ne _ _ (by have := hJ9.1; omega)).trans ((upd_ne _ _ (by have := hJ9.1; omega)).trans (hJ9.2.1 j hj)), by first | exact hJ.2.2 | exact hJ9.2.2, by first | rfl | trivial⟩
          · intro hc5
            refine aw_skip ?_
            simp only [thenA_normal, thenA_ret, thenA_exit, blockA_normal, blockA_ret, blockA_exit, ↓reduceIte, Nat.reduceEqDiff]
            have hi9 : aIndex Go.Am.Seat.T 25 (.av (.sc z9)) (.av (.sc (.int .i64 0))) = _ := idxBI hz9 (i := 0) (by simp)
            have hl9 : (((([((999 : Int), w)] : List (Int × List Cell)).map bndI).length : Int) == 1) = true := rfl
            have e9 : ((999 : Int) == 999) = true := rfl
            simp only [List.getElem_cons_zero] at hi9
            refine aw_region_seq C (pb := false) rfl fun K hK => ?_
            repeat' (first | refine wy1 (a := by simp only [go_sem, ↓reduceIte, Nat.reduceEqDiff, reduceCtorEq, Nat.reduceAdd, Nat.reduceMul, Nat.reduceLeDiff, aLoad, aStore, lenB hz9, hl9, hi9, e9]; exact rfl) (h := ?_) | refine wn (h := ?_) | fail)
            try (first | (refine wc (And.intro Try.call20 (fnSameC L (sameL_iff.2 rfl) _ _ _ (gslC w) (gslC w) (by have := rw_.len; omega))) ?_; rintro _ _ ⟨rfl, rfl⟩) | refine wn (h := ?_) | fail)
            repeat' (first | refine wy1 (a := by simp only [go_sem, ↓reduceIte, Nat.reduceEqDiff, reduceCtorEq, Nat.reduceAdd, Nat.reduceMul, Nat.reduceLeDiff, aLoad, aStore, lenB hz9, hl9, hi9, e9]; exact rfl) (h := ?_) | refine wn (h := ?_) | fail)
            refine awOps_nil (hK _ _ ?_)
            clear hK K
            refine aw_ret ?_
            simp only [go_sem, ↓reduceIte, Nat.reduceEqDiff, reduceCtorEq, Nat.reduceAdd, Nat.reduceMul, Nat.reduceLeDiff, aLoad, aStore, FnQ, resA]
            -- 0f.x02f3f4f5f.ret
            exact fun _ => ⟨by first | rfl | trivial, by first | exact hJ.2.1 | exact hJ9.2.1 | exact fun j hj => (upd_ne _ _ (by have := hJ9.1; omega)).trans ((upd_ne _ _ (by have := hJ9.1; omega)).trans (hJ9.2.1 j hj)), by first | exact hJ.2.2 | exact hJ9.2.2, by first | rfl | trivial⟩
end Go.Am.Seat
/-
  UnifyApart: for every input the law returns true, and each argument reads as it read: the row, out of the walk's contract (fn10) and the plain law.
-/
namespace Go.Proofs.Yticnfndhinjbbaa.unifyApart
open Go.ChangeShapes Go.WideShapes Go.ChangeAt Go.RowKit Go.Am Go.Am.Seat
theorem own : ownKnob Try.prog.godebug = none := by kernel_rfl
theorem laidOut : laidOutB Try.prog = true := by kernel_rfl
set_option maxRecDepth 100000 in
theorem lifted (os : Os) (started : os.Started) (H : Type) (enc : TypeId × Value → H) :
    ReturnsInHanded {} Try.checked os 10 .any (Rows.unifyApartSpec.pre6 enc Try.prog Try.f10 Rows.unifyApartRow.domain false) (Rows.unifyApartSpec.post enc Try.prog Try.f10 false true false false) := by
  refine returnsInHanded_of_change_sized (C := Try.checked) own started (by kernel_rfl) Try.func10
    (ChangeSpec.witness6 (enc := enc) (C := Try.checked) false ⟨#[], #[.slice none 0 0, .slice none 0 0], []⟩ 8 (by kernel_rfl) (by kernel_rfl) (by kernel_rfl) (by kernel_rfl)) ?_
  intro W base args ds gs before hval0 hW hcnd hsz0 _
  have hsz : (DataW.weightsEach Try.prog (Try.f10.params.toList ++ Rows.unifyApartSpec.plain.varTypes Try.prog) (ds ++ gs)).all (· ≤ reachBytes) = true := hsz0
  have hval : ∀ (j : Nat) t v, Try.f10.params[j]? = some t → args[j]? = some v → Value.okWide Try.prog W .any base t v := hval0
  have hW' := hW
  obtain ⟨p, q, hA0, hV, rfl, hfz, hnd⟩ := hW
  have hA : DataW.TrodAll enc Try.prog W 0 (fun _ => true) true Try.f10.params.toList args.toList ds p := hA0
  rw [Try.params10] at hA hval hsz
  obtain ⟨v0, vs0, d0, ds0, p0, q0, hargs, rfl, rfl, h0, r0⟩ := trodAll_cons hA
  obtain ⟨v1, vs1, d1, ds1, p1, q1, rfl, rfl, rfl, h1, r1⟩ := trodAll_cons r0
  obtain ⟨rfl, rfl, rfl⟩ := trodAll_nil r1
  obtain rfl : args = #[v0, v1] := by cases args; simp_all
  obtain ⟨rfl, rfl⟩ := trodVars_none hV
  obtain ⟨a0, len0, cap0, rfl⟩ := okWide_slice Try.underlying22 (hval 0 22 v0 rfl rfl)
  have k0 := h0
  have lt0 : ∀ x ∈ p0, x.block < W.heap.size := by obtain ⟨m, hm⟩ := k0; exact DataW.trod_lt m _ _ _ hm
  obtain ⟨l0, ⟨⟨sc0, hsr0, hg0⟩, hl0, hn0⟩⟩ : ∃ l, ReadsC W (.slice a0 len0 cap0) l := by
    obtain ⟨fuel, hf⟩ := h0
    obtain ⟨v, l, hcs, hr⟩ := open_cells hf fun n hn => by
      have := List.all_eq_true.1 hsz n (DataW.weights_mem_each (j := 0) (t := 22) rfl rfl n hn)
      simpa using this
    simp only [Value.cells, List.cons.injEq, and_true] at hcs
    subst hcs
    exact ⟨l, hr⟩
  obtain ⟨a1, len1, cap1, rfl⟩ := okWide_slice Try.underlying40 (hval 1 40 v1 rfl rfl)
  have k1 := h1
  have lt1 : ∀ x ∈ p1, x.block < W.heap.size := by obtain ⟨m, hm⟩ := k1; exact DataW.trod_lt m _ _ _ hm
  obtain ⟨l1, ⟨⟨sc1, hsr1, hg1⟩, ho1⟩⟩ : ∃ l, ReadsT W (.slice a1 len1 cap1) l := by
    obtain ⟨fuel, hf⟩ := h1
    obtain ⟨v, l, hcs, hr⟩ := open_terms hf fun n hn => by
      have := List.all_eq_true.1 hsz n (DataW.weights_mem_each (j := 1) (t := 40) rfl rfl n hn)
      simpa using this
    simp only [Value.cells, List.cons.injEq, and_true] at hcs
    subst hcs
    exact ⟨l, hr⟩
  clear hA0 hval0 hsz0
  have hc := calls_of (s := ⟨fun _ => .dead, 0, fun _ => .ready⟩) rfl (fn10 noL l0 l1 _ sc0 sc1 hg0 hg1 hl0 hn0 ho1) (W := W) (vs := [.slice a0 len0 cap0, .slice a1 len1 cap1]) (VRs.cons (by simpa only [VR, AR, SR] using hsr0) (VRs.cons (by simpa only [VR, AR, SR] using hsr1) VRs.nil))
  refine hc.mono fun e W' ⟨⟨v, m', G', he, hvr⟩, bel⟩ => ?_
  simp only [VR, AR, SR] at hvr
  subst hvr
  subst he
  exact ⟨_, rfl, _, _, _, [], _, [], hW', trodAll_mk1 (shut_bool Try.underlying4 _), (trodAll_cons_mk (Below.trod laidOut (by kernel_rfl) (of_decide_eq_true (by kernel_rfl)) k0 bel lt0) (trodAll_cons_mk (Below.trod laidOut (by kernel_rfl) (of_decide_eq_true (by kernel_rfl)) k1 bel lt1) trodAll_mk0)), rfl, bel.frame _, fun h => by cases h⟩
theorem over : Rows.unifyApartRow.holds Try.pinned (OpenSpec.ofChange Rows.unifyApartSpec) :=
  OpenClaim.holds_of_wide 10 Try.f10 rfl rfl rfl rfl rfl rfl rfl ⟨rfl, rfl, rfl, rfl, rfl⟩ rfl rfl rfl rfl rfl (by kernel_rfl) Try.func10 (by kernel_rfl)
    (of_decide_eq_true (by kernel_rfl)) (by unfold Func.isWrapper; first | (rw [if_pos (by decide +kernel)]; kernel_rfl) | (rw [if_neg (by decide +kernel)]; exact ⟨rfl, rfl⟩))
    (fun os started H enc _ => lifted os started H enc)
theorem proved : Rows.UnifyApartSaid := over
#print axioms proved
end Go.Proofs.Yticnfndhinjbbaa.unifyApart
namespace Go.Proofs.Yticnfndhinjbbaa
/-- The row, under a short name, for the claim. -/
theorem unifyApart_holds : Rows.UnifyApartSaid := unifyApart.proved
end Go.Proofs.Yticnfndhinjbbaa
