/-
  UnifyOneWay and UnifyAlike: for every input each law returns true, and each argument reads as it read: the rows, out of the walks' contracts (fn8, fn4) and the plain law.
-/
import Derived.Below
import Derived.ChangeOld
import Derived.OpenShut
import Derived.ProofKit
import Derived.ShutString
import Derived.SizedLaws
import Derived.Test.YticnfndhinjbbaaRows
import Derived.WalkKit
import Derived.Test.YticnfndhinjbbaaMU5
set_option linter.unusedVariables false
set_option linter.unusedSimpArgs false
/-
  THE PLAIN LAW of Mgu: it ends; it tells the normal one, or that there is none, or that it is too big.
-/
namespace Go.Am.Seat
section
variable {t : List Cell} {p d : Nat → Nat} {D N : Nat → Int} {m : Nat}
def TfLaw (t : List Cell) (p d : Nat → Nat) (m : Nat) (D N : Nat → Int) (F : Nat) : Prop := ∀ (q : Nat → Nat) (a : Nat) (l : List Cell), UF t.length m q d → SameC t.length p q → a < t.length → Trm t p D N a l → l.length + m + 2 ≤ F →
  ∃ q', termF t D N F q a = some (l, q') ∧ UF t.length m q' d ∧ SameC t.length p q'
theorem termL_law {F : Nat} (ih : TfLaw t p d m D N F) : ∀ {qs : List Nat} {q : Nat → Nat} {l out : List Cell}, UF t.length m q d → SameC t.length p q → (∀ a ∈ qs, a < t.length) → TrmL t p D N qs l → l.length + m + 2 ≤ F →
    ∃ q', termL (termF t D N F) qs q out = some (out ++ l, q') ∧ UF t.length m q' d ∧ SameC t.length p q'
  | [], q, _, out, uf, cl, _, .nil, _ => ⟨q, by rw [List.append_nil]; rfl, uf, cl⟩
  | a :: qs, q, _, out, uf, cl, ha, .cons (a := la) (b := lb) h hk, hF => by
    rw [List.length_append] at hF
    obtain ⟨q1, e1, uf1, cl1⟩ := ih q a la uf cl (ha a (by simp)) h (by omega)
    obtain ⟨q2, e2, uf2, cl2⟩ := termL_law ih (out := out ++ la) uf1 cl1 (fun b hb => ha b (by simp [hb])) hk (by omega)
    exact ⟨q2, by rw [termL, e1]; dsimp only; rw [e2, List.append_assoc], uf2, cl2⟩
theorem termF_law (ht : TOK t) : ∀ F, TfLaw t p d m D N F
  | 0 => fun _ _ _ _ _ _ _ h => by omega
  | F + 1 => fun q a l uf cl ha h hF => by
    obtain ⟨x, q1, e1, r1, hx, uf1, s1⟩ := own1_law (F := F) uf ha (by have := uf.le a ha; have := h.pos; omega)
    have ra : Root p a x := (cl a ha x).2 r1
    have cl1 := cl.trans s1
    rw [termF, e1]
    dsimp only
    cases h with
    | var hr h0 =>
      have e := hr.uniq ra
      subst e
      rw [if_pos h0]
      exact ⟨q1, rfl, uf1, cl1⟩
    | @fn _ r j c ls hr h0 hj hl =>
      have e := hr.uniq ra
      subst e
      have hj2 : j < t.length := (List.getElem?_eq_some_iff.1 hj).1
      rw [if_neg (by omega), h0, Int.toNat_natCast, hj]
      dsimp only
      rw [List.length_cons] at hF
      obtain ⟨q2, e2, uf2, cl2⟩ := termL_law (termF_law ht F) (out := [c]) uf1 cl1 (fun b hb => (partsN_lt ht hj2 b hb).1) hl (by omega)
      exact ⟨q2, by rw [e2]; rfl, uf2, cl2⟩
theorem lastB_some {n : Int} {k : Nat} : ∀ {i : Nat}, lastB t i n = some k → ∃ h : k < t.length, t[k].kind = 1 ∧ t[k].n = n
  | 0, h => by cases h
  | i + 1, h => by
    rw [lastB] at h
    split at h
    · rename_i c hc
      split at h
      · rename_i h2
        cases h
        obtain ⟨h3, h4⟩ := List.getElem?_eq_some_iff.1 hc
        subst h4
        exact ⟨h3, h2⟩
      · exact lastB_some h
    · exact lastB_some h
theorem lastB_none {n : Int} : ∀ {i : Nat}, lastB t i n = none → ∀ k (h : k < t.length), k < i → ¬ (t[k].kind = 1 ∧ t[k].n = n)
  | 0, _, k, _, hk => by omega
  | i + 1, h, k, hkt, hk => by
    rw [lastB] at h
    by_cases e : k = i
    · subst e
      rw [List.getElem?_eq_getElem hkt] at h
      dsimp only at h
      intro h2
      rw [if_pos h2] at h
      cases h
    · split at h
      · split at h
        · cases h
        · exact lastB_none h k hkt (by omega)
      · exact lastB_none h k hkt (by omega)
theorem sol_none {n : Int} (h : ∀ k (h : k < t.length), ¬ (t[k].kind = 1 ∧ t[k].n = n)) : sol t p D N n = [varCell n] := by
  unfold sol
  rw [dif_neg]
  rintro ⟨l, i, hi, h1, h2, _⟩
  exact h i hi ⟨h1, h2⟩
/-- One variable's binding, where it has one. -/
def bnd (s : Int → List Cell) (n : Nat) : Option (Nat × List Cell) := if s n = [varCell n] then none else some (n, s n)
theorem capN_big {k : Nat} : 200 < capN k ↔ 200 < k := by unfold capN; split <;> omega
theorem bindL_law (ht : TOK t) (uf0 : UF t.length m p d) (js : JS t p D N) (hall : ∀ i, i < t.length → ∃ l, Trm t p D N i l) {sz : Nat → Nat} (hsz : ∀ x, x < t.length → p x = x → ∃ l, Trm t p D N x l ∧ sz x = capN l.length) {F : Nat} (hF : m + 300 ≤ F) :
    ∀ {ns : List Nat} {q : Nat → Nat} {out : List (Nat × List Cell)}, UF t.length m q d → SameC t.length p q →
    bindL t D N sz F ns q out = some (if ns.any (fun n => decide (200 < (sol t p D N (n : Nat)).length)) = true then ([], 2) else (out ++ ns.filterMap (bnd (sol t p D N)), 0))
  | [], q, out, _, _ => by simp [bindL]
  | n :: ns, q, out, uf, cl => by
    rw [bindL]
    cases hb : lastB t t.length n with
    | none =>
      have e : sol t p D N (n : Nat) = [varCell n] := sol_none fun k h => lastB_none hb k h h
      dsimp only
      rw [bindL_law ht uf0 js hall hsz hF uf cl, List.any_cons, List.filterMap_cons, bnd, if_pos e, e]
      simp
    | some a =>
      obtain ⟨ha, hk, hn⟩ := lastB_some hb
      dsimp only
      obtain ⟨x, q1, e1, r1, hx, uf1, s1⟩ := own1_law (F := F) uf ha (by have := uf.le a ha; omega)
      have ra : Root p a x := (cl a ha x).2 r1
      have px := ra.fix
      have cl1 := cl.trans s1
      obtain ⟨l, hl, hsx⟩ := hsz x hx px
      have hla : Trm t p D N a l := hl.cls ⟨hx, ha, x, .here px, ra⟩
      have es : sol t p D N (n : Nat) = l := by rw [← hn]; exact sol_var js ha hk hla
      rw [e1]
      dsimp only
      have hiff : (D x < 0 ∧ N x = (n : Int)) ↔ l = [varCell n] := by
        constructor
        · rintro ⟨h1, h2⟩
          cases hl with
          | var hr h => rw [hr.self px, h2]
          | fn hr h => rw [hr.self px] at h; omega
        · intro h
          cases hl with
          | var hr h0 =>
            have e := hr.self px
            subst e
            have := List.cons.inj h
            exact ⟨h0, congrArg Cell.n this.1⟩
          | @fn _ r j c ls hr h0 hj hl =>
            have e := hr.self px
            subst e
            obtain ⟨j', hj', e2, e3, e4⟩ := js.dpos r hx px (by omega)
            have : j' = j := by omega
            subst this
            rw [List.getElem?_eq_getElem hj'] at hj
            have := List.cons.inj h
            rw [← Option.some.inj hj] at this
            exact absurd (by rw [this.1]; rfl) e4
      by_cases hc : D x < 0 ∧ N x = (n : Int)
      · have e := hiff.1 hc
        rw [if_pos hc, bindL_law ht uf0 js hall hsz hF uf1 cl1, List.any_cons, List.filterMap_cons, bnd, es, if_pos e, e]
        simp
      · have e : ¬ l = [varCell n] := fun e => hc (hiff.2 e)
        rw [if_neg hc, hsx]
        by_cases hbig : 200 < l.length
        · rw [if_pos (capN_big.2 hbig), List.any_cons, es, decide_eq_true hbig]
          rfl
        · rw [if_neg fun h => hbig (capN_big.1 h)]
          obtain ⟨q2, e2, uf2, cl2⟩ := termF_law ht F q1 x l uf1 cl1 hx hl (by omega)
          rw [e2]
          dsimp only
          rw [if_neg (by omega), bindL_law ht uf0 js hall hsz hF uf2 cl2, List.any_cons, List.filterMap_cons, bnd, es, if_neg e, decide_eq_false hbig]
          simp
end
/-- The bindings told of a normal one. -/
def mguO (s : Int → List Cell) : List (Nat × List Cell) × Int := if (List.range 1000).any (fun n => decide (200 < (s (n : Nat)).length)) = true then ([], 2) else ((List.range 1000).filterMap (bnd s), 0)
/-- A variable stands in a row. -/
def occ (t : List Cell) (n : Int) : Prop := ∃ c ∈ t, c.kind = 1 ∧ c.n = n
theorem ok_varCell {c : Cell} (h : cellOk c = true) (hk : c.kind = 1) : c = varCell c.n := by
  obtain ⟨h1, _⟩ := ok_var h hk
  cases c
  simp only at hk h1
  subst hk h1
  rfl
section
variable {t : List Cell} {p d : Nat → Nat} {D N : Nat → Int} {m : Nat}
mutual
theorem Trm.ok (ht : TOK t) (uf : UF t.length m p d) (js : JS t p D N) (hok : ∀ c ∈ t, cellOk c = true) : ∀ {i : Nat} {l : List Cell}, i < t.length → Trm t p D N i l → takes l 1 = some l.length ∧ ∀ c ∈ l, cellOk c = true ∧ (c.kind = 1 → occ t c.n)
  | i, _, hi, .var (r := r) hr h => by
    have hrl := uf.root_lt hi hr
    have hv := js.dneg r hrl hr.fix h i hi hr
    have hn := js.nle r hrl hr.fix i hi hr hv
    have ho := (ok_var (hok _ (List.getElem_mem hi)) hv).2
    refine ⟨rfl, fun c hc => ?_⟩
    rw [List.mem_singleton] at hc
    subst hc
    rcases js.nin r hrl hr.fix with h1 | ⟨k, hk, h1, h2, h3⟩
    · omega
    · have := hok _ (List.getElem_mem hk)
      have e := ok_varCell this h2
      rw [h3] at e
      rw [← e]
      exact ⟨this, fun _ => ⟨_, List.getElem_mem hk, h2, rfl⟩⟩
  | i, _, hi, .fn (r := r) (j := j) (c := c) (l := l) hr h hj hl => by
    obtain ⟨hj2, ec⟩ := List.getElem?_eq_some_iff.1 hj
    have hp := partsN_length hj2
    obtain ⟨h1, h2⟩ := TrmL.ok ht uf js hok (fun q hq => (partsN_lt ht hj2 q hq).1) hl
    refine ⟨?_, fun e he => ?_⟩
    · have ha : arC c = (partsN t j).length := by rw [hp, ec]; rfl
      rw [takes, Nat.zero_add, ha, h1]
      rfl
    · rcases List.mem_cons.1 he with rfl | he
      · have := List.getElem_mem hj2
        rw [ec] at this
        exact ⟨hok _ this, fun hk => ⟨_, this, hk, rfl⟩⟩
      · exact h2 e he
theorem TrmL.ok (ht : TOK t) (uf : UF t.length m p d) (js : JS t p D N) (hok : ∀ c ∈ t, cellOk c = true) : ∀ {qs : List Nat} {l : List Cell}, (∀ q ∈ qs, q < t.length) → TrmL t p D N qs l → takes l qs.length = some l.length ∧ ∀ c ∈ l, cellOk c = true ∧ (c.kind = 1 → occ t c.n)
  | _, _, _, .nil => ⟨rfl, fun _ h => by simp at h⟩
  | _, _, hq, .cons h hk => by
    obtain ⟨h1, h2⟩ := Trm.ok ht uf js hok (hq _ (by simp)) h
    obtain ⟨h3, h4⟩ := TrmL.ok ht uf js hok (fun q h => hq q (by simp [h])) hk
    refine ⟨by rw [List.length_cons, Nat.add_comm]; exact takes_cat h1 h3, fun e he => ?_⟩
    rcases List.mem_append.1 he with he | he
    · exact h2 e he
    · exact h4 e he
end
end
end Go.Am.Seat
/-
  THE PLAIN LAW of Mgu, of two right terms.
-/
namespace Go.Am.Seat
theorem subT_a {a b : List Cell} (ha : takes a 1 = some a.length) : subT (a ++ b) 0 = a := by
  rw [subT_of (k := a.length) (by rw [List.drop_zero]; exact takes_app ha), List.drop_zero, List.take_left]
theorem subT_b {a b : List Cell} (hb : takes b 1 = some b.length) : subT (a ++ b) a.length = b := by
  rw [subT_of (k := b.length) (by rw [List.drop_left]; exact hb), List.drop_left, List.take_length]
theorem occ_get {t : List Cell} {n : Int} (h : occ t n) : ∃ (i : Nat) (hi : i < t.length), t[i].kind = 1 ∧ t[i].n = n := by
  obtain ⟨c, hc, h1, h2⟩ := h
  obtain ⟨i, hi, rfl⟩ := List.getElem_of_mem hc
  exact ⟨i, hi, h1, h2⟩
/-- The normal one of two terms, made of their cells. -/
structure NormO (a b : List Cell) (s : Int → List Cell) : Prop extends Norm a b s where
  ok : ∀ n, occ (a ++ b) n → ∀ c ∈ s n, cellOk c = true ∧ (c.kind = 1 → occ (a ++ b) c.n)
  out : ∀ n, ¬ occ (a ++ b) n → s n = [varCell n]
set_option maxRecDepth 10000 in
theorem mgu_law {a b : List Cell} (ha : RTm a) (hb : RTm b) : ∃ out e, mguR 1000000 (a ++ b) a.length = some (out, e) ∧
    ((out = [] ∧ e = 3 ∧ ∀ s, Terms s → appT s a ≠ appT s b) ∨ ∃ s, NormO a b s ∧ (out, e) = mguO s) := by
  obtain ⟨t, ht0⟩ : ∃ t, t = a ++ b := ⟨_, rfl⟩
  have ht : TOK t := ht0 ▸ tok_two ha hb
  have hlen : t.length = a.length + b.length := by rw [ht0, List.length_append]
  have hok : ∀ c ∈ t, cellOk c = true := fun c hc => by
    rw [ht0] at hc
    exact (List.mem_append.1 hc).elim (ha.ok c) (hb.ok c)
  have l1 := ha.len
  have l2 := hb.len
  have l3 := ha.pos
  have l4 := hb.pos
  have hv : ∀ s, valS t s 0 = appT s a ∧ valS t s a.length = appT s b := fun s => by
    rw [valS, valS, ht0, subT_a ha.tk, subT_b hb.tk]
    exact ⟨rfl, rfl⟩
  have hmul : t.length * (t.length + 1) ≤ 400 * 401 := Nat.mul_le_mul (by omega) (by omega)
  obtain ⟨ok, p, D, N, e1, j1, j2⟩ := join_law ht (k := a.length) (F := 1000000) (by omega) (by omega) (by omega)
  rw [← ht0]
  rw [mguR, e1]
  dsimp only
  cases hokb : ok with
  | false =>
    rw [if_pos rfl]
    refine ⟨[], 3, rfl, .inl ⟨rfl, rfl, fun s hs e => ?_⟩⟩
    have := (j2 s hs (by rw [(hv s).1, (hv s).2]; exact e)).1
    rw [hokb] at this
    cases this
  | true =>
    obtain ⟨m, d, uf, hm, js, co, hcl⟩ := j1 hokb
    rw [if_neg (by decide)]
    have inv0 : SInv t p d m D N (st0 p) := ⟨uf, fun _ _ _ => Iff.rfl, fun _ _ _ h => (by cases h), fun _ _ _ => Nat.zero_le _⟩
    obtain ⟨st, e2, i2, m2, k2, f2⟩ := ofAll_law ht uf js (F := 1000000) (by omega) (qs := List.range t.length) inv0 (fun q hq => List.mem_range.1 hq) (fun _ _ _ h => by cases h)
    rw [e2]
    dsimp only
    cases hf : st.fine with
    | false =>
      rw [if_pos rfl]
      refine ⟨[], 3, rfl, .inl ⟨rfl, rfl, fun s hs e => ?_⟩⟩
      exact m2.bad hf rfl s hs (j2 s hs (by rw [(hv s).1, (hv s).2]; exact e)).2
    | true =>
      rw [if_neg (by decide)]
      have hall : ∀ i, i < t.length → ∃ l, Trm t p D N i l := fun i hi => (f2 hf i (List.mem_range.2 hi)).1
      have hsz : ∀ x, x < t.length → p x = x → ∃ l, Trm t p D N x l ∧ st.sz x = capN l.length := fun x hx px => by
        have h0 := (f2 hf x (List.mem_range.2 hx)).2 x (.here px)
        have h1 : st.sn x ≠ 1 := fun e => by have := (m2.one x hx px).1 e; cases this
        have h2 := i2.val x hx px
        exact i2.two x hx px (by omega) hf
      rw [bindL_law ht uf js hall hsz (by omega) i2.uf i2.cls]
      refine ⟨(mguO (sol t p D N)).1, (mguO (sol t p D N)).2, ?_, .inr ⟨sol t p D N, ?_, Prod.ext rfl rfl⟩⟩
      · rw [mguO, List.nil_append]
      have hval : ∀ i (hi : i < t.length) l, Trm t p D N i l → valS t (sol t p D N) i = l := fun i hi l h => sol_val ht uf js co _ i (Nat.le_refl _) hi l h
      have hin : ∀ n, occ t n → ∃ i, ∃ hi : i < t.length, t[i].kind = 1 ∧ t[i].n = n ∧ Trm t p D N i (sol t p D N n) := fun n h => by
        obtain ⟨i, hi, h1, h2⟩ := occ_get h
        obtain ⟨l, hl⟩ := hall i hi
        refine ⟨i, hi, h1, h2, ?_⟩
        rw [← h2, sol_var js hi h1 hl]
        exact hl
      have hout : ∀ n, ¬ occ t n → sol t p D N n = [varCell n] := fun n h => sol_none fun k hk h1 => h ⟨_, List.getElem_mem hk, h1.1, h1.2⟩
      have h0 : 0 < t.length := by omega
      have hal : a.length < t.length := by omega
      have hoks : ∀ n, occ t n → takes (sol t p D N n) 1 = some (sol t p D N n).length ∧ ∀ c ∈ sol t p D N n, cellOk c = true ∧ (c.kind = 1 → occ t c.n) := fun n h => by
        obtain ⟨i, hi, _, _, h3⟩ := hin n h
        exact h3.ok ht uf js hok hi
      refine ⟨⟨?_, fun n => ?_, fun n c hc hk => ?_, fun u hu eu n => ?_, fun n k e => ?_⟩, fun n hn c hc => ?_, fun n hn => hout n (ht0 ▸ hn)⟩
      · obtain ⟨l, hl⟩ := hall 0 h0
        rw [← (hv _).1, ← (hv _).2, hval 0 h0 l hl, hval a.length hal l (hl.cls hcl)]
      · by_cases h : occ t n
        · exact (hoks n h).1
        · rw [hout n h]; rfl
      · by_cases h : occ t n
        · exact ok_varCell ((hoks n h).2 c hc).1 hk
        · rw [hout n h, List.mem_singleton] at hc
          rw [hc]; rfl
      · by_cases h : occ t n
        · obtain ⟨i, hi, h1, h2, h3⟩ := hin n h
          rw [h3.app ht uf js hok (j2 u hu (by rw [(hv u).1, (hv u).2]; exact eu)).2 hi, valS_var ht hi h1, h2]
        · rw [hout n h, appT_var]
      · by_cases h : occ t n
        · obtain ⟨i, hi, h1, h2, h3⟩ := hin n h
          rw [e] at h3
          obtain ⟨r, hr, hrD, hN⟩ : ∃ r, Root p i r ∧ D r < 0 ∧ N r = k := by
            cases h3 with
            | var hr h => exact ⟨_, hr, h, rfl⟩
            | @fn _ r j c ls hr h4 hj hl =>
              obtain ⟨j', hj', e2, e3, e4⟩ := js.dpos r (uf.root_lt hi hr) hr.fix (by omega)
              have : j' = j := by omega
              subst this
              rw [List.getElem?_eq_getElem hj'] at hj
              exact absurd (by rw [Option.some.inj hj]; rfl) e4
          have := js.nle r (uf.root_lt hi hr) hr.fix i hi hr h1
          omega
        · rw [hout n h] at e
          have := congrArg Cell.n (List.cons.inj e).1
          simp only [varCell] at this
          omega
      · rw [← ht0] at hn ⊢
        exact (hoks n hn).2 c hc
end Go.Am.Seat
/-
  MADE BY PROGRAM (am.py): the walks of functions 18.
-/
namespace Go.Am.Seat
open Go.Proofs
theorem bod18 : Try.f18.body = some (Try.f18.body.getD .skip) := rfl
theorem fn18 (L : Loops) (a b : List Cell) (s : Me) (x y : Sc) (hx : GSl encC x a) (hy : GSl encC y b) (ha : 0 < a.length ∧ a.length ≤ 1000000) (hb : 0 < b.length ∧ b.length ≤ 1000000) : FnL Try.prog L 18 [.av (.sc x), .av (.sc y)] s fun r s' => (r = vB (sameL (numG a) (numG b))) ∧ s' = s := by
  refine FnL.pure (R := fun r => r = vB (sameL (numG a) (numG b))) ?_
  obtain rfl := gsl_pos hx ha.1
  obtain rfl := gsl_pos hy hb.1
  refine fn_of_body (ts := [4]) Try.func18 bod18 rfl (by simp) (by simp [Try.ntmps18]) fun D0 => ?_
  unfold Try.f18
  simp only [Option.getD_some, initSl]
  refine aw_region_seq C (pb := false) rfl fun K hK => ?_
  repeat' (first | refine wy0 (h := ?_) | fail)
  refine awOps_nil (hK _ _ ?_)
  clear hK K
  refine aw_region_seq C (pb := false) rfl fun K hK => ?_
  repeat' (first | refine wy0 (h := ?_) | fail)
  (refine wc (And.intro Try.call56 (fn56 L a _ ha)) ?_; rintro _ _ ⟨rfl, rfl⟩)
  repeat' (first | refine wy0 (h := ?_) | fail)
  (refine wc (And.intro Try.call56 (fn56 L b _ hb)) ?_; rintro _ _ ⟨rfl, rfl⟩)
  (refine wc (And.intro Try.call48 (fn48 L (numG a) (numG b) _ _ _ (gslC _) (gslC _) (by rw [numG, List.length_map]; omega))) ?_; rintro _ _ ⟨rfl, rfl⟩)
  repeat' (first | refine wy0 (h := ?_) | fail)
  refine awOps_nil (hK _ _ ?_)
  clear hK K
  refine aw_ret ?_
  simp only [go_sem, ↓reduceIte, Nat.reduceEqDiff, reduceCtorEq, Nat.reduceAdd, Nat.reduceMul, Nat.reduceLeDiff, aLoad, aStore, FnQ, resA]
  -- .ret
  exact fun _ => ⟨by first | rfl | trivial, by first | exact fun _ _ => rfl | trivial, by first | rfl | trivial, by first | rfl | trivial⟩
end Go.Am.Seat
/-
  What the program's words tell at head's few terms.
-/
namespace Go.Am.Seat
def cB : Cell := ⟨3, ⟨#[98]⟩, 0⟩
def cC : Cell := ⟨3, ⟨#[99]⟩, 0⟩
def cV (n : Int) : Cell := ⟨1, .empty, n⟩
def cN (n : Int) : Cell := ⟨2, .empty, n⟩
def fT (l : List Cell) : List Cell := ⟨3, nmF, l.length⟩ :: l
theorem tl1 : mguR 100 (fT [cV 0, cB] ++ fT [cC, cV 1]) 3 = some ([(0, [cC]), (1, [cB])], 0) := by kernel_rfl
theorem tl2 : mguR 100 (fT [cV 1, cV 0] ++ fT [cV 0, cV 1]) 3 = some ([(1, [cV 0])], 0) := by kernel_rfl
theorem tl3 : mguR 100 ([cV 0] ++ fT [cV 0]) 1 = some ([], 3) := by kernel_rfl
theorem tl4 : mguR 100 (fT [cB] ++ fT [cC]) 2 = some ([], 3) := by kernel_rfl
theorem tl5 : mguR 100 (fT [cN 1] ++ fT [cN 2]) 2 = some ([], 3) := by kernel_rfl
theorem sortI_id {l : List Int} (h : l.Pairwise fun a b => a ≤ b) : sortI l = l := by
  apply List.mergeSort_of_pairwise
  exact h.imp fun h => by simpa using h
theorem tl6 : matR (fT [cV 0, cV 1]) (fT [cV 1, cV 0]) = some [(0, [cV 1]), (1, [cV 0])] := by
  unfold matR
  rw [show varsG (fT [cV 0, cV 1]) [] = [0, 1] by kernel_rfl, sortI_id (by simp)]
  kernel_rfl
theorem tl7 : matR (fT [cB]) (fT [cV 0]) = none := by kernel_rfl
theorem tl8 : matR (fT [cV 0, cV 0]) (fT [cV 0, cV 0]) = some [] := by
  unfold matR
  rw [show varsG (fT [cV 0, cV 0]) [] = [0] by kernel_rfl, sortI_id (by simp)]
  kernel_rfl
theorem tl9 : sameL (numG (fT [cV 7, cV 2])) (numG (fT [cV 0, cV 7])) = true := by kernel_rfl
theorem tl10 : sameL (numG (fT [cV 0, cV 0])) (numG (fT [cV 0, cV 1])) = false := by kernel_rfl
end Go.Am.Seat
/-
  MADE BY PROGRAM (am.py): the walks of functions 25.
-/
namespace Go.Am.Seat
open Go.Proofs
theorem bod25 : Try.f25.body = some (Try.f25.body.getD .skip) := rfl
theorem fn25 (L : Loops) (n : Int) (s : Me)  : FnL Try.prog L 25 [vI n] s fun r s' => (r = aggC ⟨1, .empty, n⟩) ∧ s' = s := by
  refine FnL.pure (R := fun r => r = aggC ⟨1, .empty, n⟩) ?_
  refine fn_of_bodyC (a := 2) (t := 42) tok Try.func25 bod25 rfl (by simp [Try.ntmps25]) fun D0 => ?_
  unfold Try.f25
  simp only [Option.getD_some, initSl]
  refine aw_region_seq C (pb := false) rfl fun K hK => ?_
  repeat' (first | refine wy0 (h := ?_) | fail)
  refine awOps_nil (hK _ _ ?_)
  clear hK K
  refine aw_region_seq C (pb := false) rfl fun K hK => ?_
  repeat' (first | refine wy0 (h := ?_) | refine wz0 (h := ?_) | fail)
  refine awOps_nil (hK _ _ ?_)
  clear hK K
  refine aw_ret ?_
  simp only [go_sem, ↓reduceIte, Nat.reduceEqDiff, reduceCtorEq, Nat.reduceAdd, Nat.reduceMul, Nat.reduceLeDiff, aLoad, aStore, FnQc]
  -- .ret
  refine ⟨_, _, aggC ⟨1, .empty, n⟩, rfl, ?_, fun _ => ⟨by first | rfl | trivial, fun i hi => (upd_ne _ _ (by omega)).trans (upd_ne _ _ (by omega)), by first | rfl | trivial, by first | rfl | trivial⟩⟩
  simp only [upd_same]
  rfl
end Go.Am.Seat
/-
  MADE BY PROGRAM (am.py): the walks of functions 11.
-/
namespace Go.Am.Seat
open Go.Proofs

def slB (out : List (Nat × List Cell)) (e : Int) : Sc := if e = 0 then .sl out.length ((out.map bndOf).flatMap encB) else .nilsl
theorem fnF (L : Loops) (l : List Cell) (id fz : Nat) (s : Me) (hid : s.ob id = .cs (celC l) fz) (hlt : id < s.nx) (hl : 0 < l.length ∧ l.length ≤ 1000000) : FnL Try.prog L 31 [.av (.own id 0 l.length 3)] s fun r s' => r = vC (fT l) ∧ s' = s := fn31 L l id fz s hid hlt hl
/-- Mgu at given terms. -/
theorem mguD (L : Loops) {a b : List Cell} {out : List (Nat × List Cell)} {e : Int} (s : Me) (h : mguR 100 (a ++ b) a.length = some (out, e)) (ha : rightOk a = true) (hb : rightOk b = true) (hne : e = 0 → out ≠ []) : FnL Try.prog L 13 [vC a, vC b] s fun r s' => r = .tup [.av (.sc (slB out e)), vI e] ∧ s' = s := by
  have ra := right_tm ha
  have rb := right_tm hb
  have a1 := ra.pos
  have a2 := ra.len
  have b1 := rb.pos
  have b2 := rb.len
  refine (fn13 L 100 a b out e s _ _ (gslC a) (gslC b) (by omega) (by omega) (tok_two ra rb) (by omega) h).mono fun r s' ⟨⟨y, h1, h2, h3⟩, h4⟩ => ⟨?_, h4⟩
  rw [h1]
  congr 3
  unfold slB
  split
  · rename_i h0
    rcases h2 with ⟨_, h2⟩ | h2
    · exact absurd (List.map_eq_nil_iff.1 h2) (hne h0)
    · rw [h2, List.length_map]
  · rename_i h0
    rw [h3 h0]
theorem matD (L : Loops) {a b : List Cell} {out : List (Int × List Cell)} (s : Me) (h : matR a b = some out) (ha : rightOk a = true) (hb : rightOk b = true) (hr : RightB out) : FnL Try.prog L 15 [vC a, vC b] s fun r s' => (∃ y, r = .tup [.av (.sc y), vB true] ∧ GSl encB y (out.map bndI)) ∧ s' = s := by
  have ra := right_tm ha
  have rb := right_tm hb
  have a2 := ra.len
  have b2 := rb.len
  refine (fn15 L a b _ s _ _ (gslC a) (gslC b) (by omega) rb.tok h fun o ho => by cases ho; exact hr).mono fun r s' ⟨⟨y, o, h1, h2, h3⟩, h4⟩ => ⟨⟨y, h1, ?_⟩, h4⟩
  rw [h3] at h2
  exact h2
theorem matN (L : Loops) {a b : List Cell} (s : Me) (h : matR a b = none) (ha : rightOk a = true) (hb : rightOk b = true) : FnL Try.prog L 15 [vC a, vC b] s fun r s' => (∃ y, r = .tup [.av (.sc y), vB false] ∧ GSl encB y []) ∧ s' = s := by
  have ra := right_tm ha
  have rb := right_tm hb
  have a2 := ra.len
  have b2 := rb.len
  refine (fn15 L a b _ s _ _ (gslC a) (gslC b) (by omega) rb.tok h fun o ho => by cases ho).mono fun r s' ⟨⟨y, o, h1, h2, h3⟩, h4⟩ => ⟨⟨y, h1, ?_⟩, h4⟩
  rw [h3] at h2
  exact h2
theorem pur2C {ob : Nat → Obj} {i : Nat} {a : List Cell} (hi : ob i = .cs (celC a) 0) : pur 3 ob (.own i 0 a.length 3) = some (.sl a.length (a.flatMap encC), upd ob i (.cs (celC a) (max 0 (0 + a.length * 3)))) := by
  have hl := celC_len (l := a)
  simp only [pur, hi]
  rw [if_pos (by omega), List.drop_zero, List.take_of_length_le (by omega), show purL (pur 2) _ (celC a) = _ from purL_plain (fun ob s => by simp [pur]) _ _]
  rfl
theorem pur2S {ob : Nat → Obj} {s : Sc} : pur 3 ob (.sc s) = some (s, ob) := by simp [pur]
theorem pur_bnd1 {ob : Nat → Obj} {k i : Nat} {a : List Cell} {n : Int} (hki : i ≠ k) (h : ob k = .cs [.sc (.int .i64 n), .own i 0 a.length 3] 0) (hi : ob i = .cs (celC a) 0) : purV ob (.av (.own k 0 1 2)) = some (.av (.sc (.sl 1 [.int .i64 n, .sl a.length (a.flatMap encC)])), upd (upd ob k (.cs [.sc (.int .i64 n), .own i 0 a.length 3] (max 0 (0 + 1 * 2)))) i (.cs (celC a) (max 0 (0 + a.length * 3)))) := by
  have e : purL (pur 3) (upd ob k (.cs [.sc (.int .i64 n), .own i 0 a.length 3] (max 0 (0 + 1 * 2)))) [.sc (.int .i64 n), .own i 0 a.length 3] = some ([.int .i64 n, .sl a.length (a.flatMap encC)], upd (upd ob k (.cs [.sc (.int .i64 n), .own i 0 a.length 3] (max 0 (0 + 1 * 2)))) i (.cs (celC a) (max 0 (0 + a.length * 3)))) := by
    simp only [purL, pur2S, Option.bind_some]
    rw [pur2C ((upd_ne _ _ hki).trans hi)]
    rfl
  simp only [purV, purD]
  rw [pur]
  simp only [h, List.length_cons, List.length_nil, List.drop_zero]
  rw [if_pos (by omega)]
  rw [show List.take (1 * 2) [Av.sc (.int .i64 n), Av.own i 0 a.length 3] = [Av.sc (.int .i64 n), Av.own i 0 a.length 3] from rfl, e]
  rfl
theorem pur_bnd2 {ob : Nat → Obj} {k i i2 : Nat} {a b : List Cell} {n m : Int} (hki : i ≠ k) (hki2 : i2 ≠ k) (hii : i2 ≠ i) (h : ob k = .cs [.sc (.int .i64 n), .own i 0 a.length 3, .sc (.int .i64 m), .own i2 0 b.length 3] 0) (hi : ob i = .cs (celC a) 0) (hi2 : ob i2 = .cs (celC b) 0) : purV ob (.av (.own k 0 2 2)) = some (.av (.sc (.sl 2 [.int .i64 n, .sl a.length (a.flatMap encC), .int .i64 m, .sl b.length (b.flatMap encC)])), upd (upd (upd ob k (.cs [.sc (.int .i64 n), .own i 0 a.length 3, .sc (.int .i64 m), .own i2 0 b.length 3] (max 0 (0 + 2 * 2)))) i (.cs (celC a) (max 0 (0 + a.length * 3)))) i2 (.cs (celC b) (max 0 (0 + b.length * 3)))) := by
  have e : purL (pur 3) (upd ob k (.cs [.sc (.int .i64 n), .own i 0 a.length 3, .sc (.int .i64 m), .own i2 0 b.length 3] (max 0 (0 + 2 * 2)))) [.sc (.int .i64 n), .own i 0 a.length 3, .sc (.int .i64 m), .own i2 0 b.length 3] = some ([.int .i64 n, .sl a.length (a.flatMap encC), .int .i64 m, .sl b.length (b.flatMap encC)], upd (upd (upd ob k (.cs [.sc (.int .i64 n), .own i 0 a.length 3, .sc (.int .i64 m), .own i2 0 b.length 3] (max 0 (0 + 2 * 2)))) i (.cs (celC a) (max 0 (0 + a.length * 3)))) i2 (.cs (celC b) (max 0 (0 + b.length * 3)))) := by
    simp only [purL, pur2S, Option.bind_some]
    rw [pur2C ((upd_ne _ _ hki).trans hi)]
    simp only [Option.bind_some]
    rw [pur2C ((upd_ne _ _ hii).trans ((upd_ne _ _ hki2).trans hi2))]
    rfl
  simp only [purV, purD]
  rw [pur]
  simp only [h, List.length_cons, List.length_nil, List.drop_zero]
  rw [if_pos (by omega)]
  rw [show List.take (2 * 2) [Av.sc (.int .i64 n), Av.own i 0 a.length 3, Av.sc (.int .i64 m), Av.own i2 0 b.length 3] = [Av.sc (.int .i64 n), Av.own i 0 a.length 3, Av.sc (.int .i64 m), Av.own i2 0 b.length 3] from rfl, e]
  rfl
theorem rb6 : RightB [(0, [cV 1]), (1, [cV 0])] := by
  refine ⟨fun b hb => ?_, by simp⟩
  simp only [List.mem_cons, List.not_mem_nil, or_false] at hb
  rcases hb with rfl | rfl <;> refine ⟨by decide, by decide, by decide, by decide, fun c hc => ?_, by decide, fun h hh => by have := hh.2.2; simp [cV] at this⟩ <;> (simp only [List.mem_cons, List.not_mem_nil, or_false] at hc; subst hc; kernel_rfl)
theorem rb8 : RightB [] := ⟨fun b hb => by simp at hb, by simp⟩
theorem ldB3 {ob : Nat → Obj} {id : Nat} {a b c : Sc} {fz : Nat} (h : ob id = .cs [.sc a, .sc b, .sc c] fz) : (aLoad T ob 42 (.av (.ptr id 0))).map (fun r => (r, ob)) = some (.agg [.sc a, .sc b, .sc c], ob) := by
  rw [ldA h]
  simp only [T42, Option.bind_some, y42]
  rw [if_pos (by simp)]
  rfl
theorem slB_g (out : List (Nat × List Cell)) : GSl encB (slB out 0) ((out.map toI).map bndI) := .inr (by simp only [slB, if_pos, List.length_map, ← map_bndOf])
theorem varT (L : Loops) (s : Me) : FnL Try.prog L 18 [vC (fT [cV 7, cV 2]), vC (fT [cV 0, cV 7])] s fun r s' => r = vB true ∧ s' = s :=
  (fn18 L (fT [cV 7, cV 2]) (fT [cV 0, cV 7]) s _ _ (gslC _) (gslC _) (by decide) (by decide)).mono fun r s' h => ⟨h.1.trans (congrArg vB tl9), h.2⟩
theorem varF (L : Loops) (s : Me) : FnL Try.prog L 18 [vC (fT [cV 0, cV 0]), vC (fT [cV 0, cV 1])] s fun r s' => r = vB false ∧ s' = s :=
  (fn18 L (fT [cV 0, cV 0]) (fT [cV 0, cV 1]) s _ _ (gslC _) (gslC _) (by decide) (by decide)).mono fun r s' h => ⟨h.1.trans (congrArg vB tl10), h.2⟩
structure HD (s s1 : Me) : Prop where
  kp : Kp s s1
  b : s1.ob (s.nx + 3) = .cs [.sc (.int .i64 3), .sc (.str ⟨#[98]⟩), .sc (.int .i64 0)] 0
  c : s1.ob (s.nx + 4) = .cs [.sc (.int .i64 3), .sc (.str ⟨#[99]⟩), .sc (.int .i64 0)] 0
  hi : s.nx + 4 < s1.nx
theorem HD.frame {s s1 : Me} (h : HD s s1) {ob' : Nat → Obj} {m : Nat} (hm : s1.nx ≤ m) (ho : ∀ j, j < s1.nx → ob' j = s1.ob j) : HD s ⟨ob', m, s1.ls⟩ :=
  ⟨⟨Nat.le_trans h.kp.1 hm, fun j hj => (ho j (Nat.lt_of_lt_of_le hj h.kp.1)).trans (h.kp.2.1 j hj), h.kp.2.2⟩, (ho _ (by have := h.hi; omega)).trans h.b, (ho _ h.hi).trans h.c, Nat.lt_of_lt_of_le h.hi hm⟩

-- many steps
theorem bod11 : Try.f11.body = some (Try.f11.body.getD .skip) := rfl
set_option maxHeartbeats 4000000 in
set_option maxRecDepth 20000 in
theorem fn11 (L : Loops)  (s : Me)  : FnL Try.prog L 11 [] s fun r s' => (r = vB true) ∧ s' = s := by
  refine FnL.pure (R := fun r => r = vB true) ?_
  refine fn_of_body (ts := [0]) Try.func11 bod11 rfl (by simp) (by simp [Try.ntmps11]) fun D0 => ?_
  unfold Try.f11
  simp only [Option.getD_some, initSl]
  refine aw_region_seq C (pb := false) rfl fun K hK => ?_
  repeat' (first | refine wy0 (h := ?_) | fail)
  refine awOps_nil (hK _ _ ?_)
  clear hK K
  refine aw_region_seq C (pb := false) rfl fun K hK => ?_
  repeat' (first | refine wy1 (a := by simp (disch := omega) only [go_sem, ↓reduceIte, Nat.reduceEqDiff, reduceCtorEq, Nat.reduceAdd, Nat.reduceMul, Nat.reduceLeDiff, aLoad, aStore, upd_ne, upd_same, storeL, zeroA]; exact rfl) (h := ?_) | refine wz1 (a := by simp (disch := omega) only [go_sem, ↓reduceIte, Nat.reduceEqDiff, reduceCtorEq, Nat.reduceAdd, Nat.reduceMul, Nat.reduceLeDiff, aLoad, aStore, upd_ne, upd_same, storeL, zeroA]; exact rfl) (h := ?_) | fail)
  refine awOps_nil (hK _ _ ?_)
  refine AW.less (sl' := [(1, .av (.ptr (s.nx + 3) 0)), (2, .av (.ptr (s.nx + 4) 0))]) (AllIn.less ⟨rfl, rfl, trivial⟩) ?_
  refine aw_state (J := fun s2 => HD s s2) ⟨⟨(by first | omega | (dsimp only; omega) | (dsimp only at *; omega)), fun j hj => (upd_ne _ _ (by omega)).trans ((upd_ne _ _ (by omega)).trans ((upd_ne _ _ (by omega)).trans (upd_ne _ _ (by omega)))), rfl⟩, (upd_ne _ _ (by omega)).trans (upd_same _ _ _), upd_same _ _ _, (by first | omega | (dsimp only; omega) | (dsimp only at *; omega))⟩ fun s2 h2 => ?_
  clear hK K
  obtain ⟨o2, ho2⟩ : ∃ o, o = upd (upd s2.ob (s2.nx + 2) (.cs (celC [cV 0, cB]) 0)) (s2.nx + 6) (.cs (celC [cC, cV 1]) 0) := ⟨_, rfl⟩
  have ha2 : o2 (s2.nx + 2) = .cs (celC [cV 0, cB]) 0 := by rw [ho2, upd_ne _ _ (by omega), upd_same]
  have hd2 : o2 (s2.nx + 6) = .cs (celC [cC, cV 1]) 0 := by rw [ho2, upd_same]
  have hf2 : ∀ j, j < s2.nx → o2 j = s2.ob j := fun j hj => by rw [ho2, upd_ne _ _ (by omega), upd_ne _ _ (by omega)]
  have hbo2 := (hf2 _ (by have := h2.hi; omega)).trans h2.b
  have hco2 := (hf2 _ h2.hi).trans h2.c
  refine aw_dra_seq C (pb := false) 14 [] [o2] rfl (by kernel_rfl) (by kernel_rfl) rfl (fun j hj => hf2 j hj) fun K hK => ?_
  refine dra_callsil [0] (by rfl) (by rfl) (by rfl) (by rfl) (by kernel_rfl) ⟨And.intro Try.call25 (fn25 L 0 _), trivial⟩ ?_
  (first | refine dra_yes [0] (by rfl) (by rfl) (by rfl) (by rfl) (by kernel_rfl) ⟨⟨_, by simp  only [go_sem, ↓reduceIte, Nat.reduceEqDiff, reduceCtorEq, Nat.reduceAdd, Nat.reduceMul, Nat.reduceLeDiff, aLoad, aStore, osL_0, osL_1, osL_2, osL_3, osL_4, osL_5, osL_6, hbo2, hco2]; (try exact rfl), fun _ => rfl⟩, trivial⟩ ?_ | refine dra_no (by rfl) (by rfl) (by rfl) ?_)
  refine dra_yes [0] (by rfl) (by rfl) (by rfl) (by rfl) (by kernel_rfl) ⟨⟨_, (by simp only [go_sem, ↓reduceIte, Nat.reduceEqDiff, reduceCtorEq, Nat.reduceAdd, Nat.reduceMul, Nat.reduceLeDiff, aLoad, aStore, osL_0, osL_1, osL_2, osL_3, osL_4, osL_5, osL_6, hbo2, hco2]; try exact rfl), fun j => upd_self ha2 j⟩, trivial⟩ ?_
  refine dra_callsil [0] (by rfl) (by rfl) (by rfl) (by rfl) (by kernel_rfl) ⟨And.intro Try.call31 (fnF L [cV 0, cB] _ 0 _ ha2 (by first | omega | (dsimp only; omega) | (dsimp only at *; omega)) (by decide)), trivial⟩ ?_
  (first | refine dra_yes [0] (by rfl) (by rfl) (by rfl) (by rfl) (by kernel_rfl) ⟨⟨_, by simp  only [go_sem, ↓reduceIte, Nat.reduceEqDiff, reduceCtorEq, Nat.reduceAdd, Nat.reduceMul, Nat.reduceLeDiff, aLoad, aStore, osL_0, osL_1, osL_2, osL_3, osL_4, osL_5, osL_6, hbo2, hco2]; (try exact rfl), fun _ => rfl⟩, trivial⟩ ?_ | refine dra_no (by rfl) (by rfl) (by rfl) ?_)
  refine dra_callsil [0] (by rfl) (by rfl) (by rfl) (by rfl) (by kernel_rfl) ⟨And.intro Try.call25 (fn25 L 1 _), trivial⟩ ?_
  refine dra_yes [0] (by rfl) (by rfl) (by rfl) (by rfl) (by kernel_rfl) ⟨⟨_, (by simp only [go_sem, ↓reduceIte, Nat.reduceEqDiff, reduceCtorEq, Nat.reduceAdd, Nat.reduceMul, Nat.reduceLeDiff, aLoad, aStore, osL_0, osL_1, osL_2, osL_3, osL_4, osL_5, osL_6, hbo2, hco2]; try exact rfl), fun j => upd_self hd2 j⟩, trivial⟩ ?_
  refine dra_callsil [0] (by rfl) (by rfl) (by rfl) (by rfl) (by kernel_rfl) ⟨And.intro Try.call31 (fnF L [cC, cV 1] _ 0 _ hd2 (by first | omega | (dsimp only; omega) | (dsimp only at *; omega)) (by decide)), trivial⟩ ?_
  refine dra_callsil [0] (by rfl) (by rfl) (by rfl) (by rfl) (by kernel_rfl) ⟨And.intro Try.call13 (mguD L (a := fT [cV 0, cB]) (b := fT [cC, cV 1]) _ tl1 (by kernel_rfl) (by kernel_rfl) (by decide)), trivial⟩ ?_
  iterate 5 (first | refine dra_yes [0] (by rfl) (by rfl) (by rfl) (by rfl) (by kernel_rfl) ⟨⟨_, by simp  only [go_sem, ↓reduceIte, Nat.reduceEqDiff, reduceCtorEq, Nat.reduceAdd, Nat.reduceMul, Nat.reduceLeDiff, aLoad, aStore, osL_0, osL_1, osL_2, osL_3, osL_4, osL_5, osL_6, hbo2, hco2]; (try exact rfl), fun _ => rfl⟩, trivial⟩ ?_ | refine dra_no (by rfl) (by rfl) (by rfl) ?_)
  refine dra_nil (hK _ ?_)
  simp only [osL_0, osL_1, osL_2, osL_3, osL_4, osL_5, osL_6, List.length_cons, List.length_nil, Nat.reduceAdd]
  refine AW.less (sl' := [(1, .av (.ptr (s.nx + 3) 0)), (2, .av (.ptr (s.nx + 4) 0)), (3, .av (.sc (slB [(0, [cC]), (1, [cB])] 0))), (4, vI 0)]) (AllIn.less ⟨rfl, rfl, rfl, rfl, trivial⟩) ?_
  refine aw_state (J := fun s' => HD s s') (h2.frame (by first | omega | (dsimp only; omega) | (dsimp only at *; omega)) fun j hj => hf2 j hj) fun s3 h3 => ?_
  clear hK K
  refine aw_region_seq C (pb := false) rfl fun K hK => ?_
  (refine wc (And.intro Try.call25 (fn25 L 1 _)) ?_; rintro _ _ ⟨rfl, rfl⟩)
  (refine wc (And.intro Try.call25 (fn25 L 0 _)) ?_; rintro _ _ ⟨rfl, rfl⟩)
  repeat' (first | refine wy1 (a := by simp only [go_sem, ↓reduceIte, Nat.reduceEqDiff, reduceCtorEq, Nat.reduceAdd, Nat.reduceMul, Nat.reduceLeDiff, aLoad, aStore, h3.b, h3.c]; exact rfl) (h := ?_) | fail)
  (refine wc (And.intro Try.call31 (fnF L [cV 1, cV 0] _ 0 _ (upd_same _ _ _) (by first | omega | (dsimp only; omega) | (dsimp only at *; omega)) (by decide))) ?_; rintro _ _ ⟨rfl, rfl⟩)
  (refine wc (And.intro Try.call25 (fn25 L 0 _)) ?_; rintro _ _ ⟨rfl, rfl⟩)
  (refine wc (And.intro Try.call25 (fn25 L 1 _)) ?_; rintro _ _ ⟨rfl, rfl⟩)
  repeat' (first | refine wy1 (a := by simp only [go_sem, ↓reduceIte, Nat.reduceEqDiff, reduceCtorEq, Nat.reduceAdd, Nat.reduceMul, Nat.reduceLeDiff, aLoad, aStore, h3.b, h3.c]; exact rfl) (h := ?_) | fail)
  (refine wc (And.intro Try.call31 (fnF L [cV 0, cV 1] _ 0 _ (upd_same _ _ _) (by first | omega | (dsimp only; omega) | (dsimp only at *; omega)) (by decide))) ?_; rintro _ _ ⟨rfl, rfl⟩)
  (refine wc (And.intro Try.call13 (mguD L (a := fT [cV 1, cV 0]) (b := fT [cV 0, cV 1]) _ tl2 (by kernel_rfl) (by kernel_rfl) (by decide))) ?_; rintro _ _ ⟨rfl, rfl⟩)
  repeat' (first | refine wy1 (a := by simp only [go_sem, ↓reduceIte, Nat.reduceEqDiff, reduceCtorEq, Nat.reduceAdd, Nat.reduceMul, Nat.reduceLeDiff, aLoad, aStore, h3.b, h3.c]; exact rfl) (h := ?_) | fail)
  refine awOps_nil (hK _ _ ?_)
  refine AW.less (sl' := [(1, .av (.ptr (s.nx + 3) 0)), (2, .av (.ptr (s.nx + 4) 0)), (3, .av (.sc (slB [(0, [cC]), (1, [cB])] 0))), (4, vI 0), (5, .av (.sc (slB [(1, [cV 0])] 0))), (6, vI 0)]) (AllIn.less ⟨rfl, rfl, rfl, rfl, rfl, rfl, trivial⟩) ?_
  refine aw_state (J := fun s' => HD s s') (h3.frame (by first | omega | (dsimp only; omega) | (dsimp only at *; omega)) fun j hj => ((upd_ne _ _ (by omega)).trans (upd_ne _ _ (by omega)))) fun s4 h4 => ?_
  clear hK K
  refine aw_region_seq C (pb := false) rfl fun K hK => ?_
  (refine wc (And.intro Try.call25 (fn25 L 0 _)) ?_; rintro _ _ ⟨rfl, rfl⟩)
  repeat' (first | refine wy1 (a := by simp only [go_sem, ↓reduceIte, Nat.reduceEqDiff, reduceCtorEq, Nat.reduceAdd, Nat.reduceMul, Nat.reduceLeDiff, aLoad, aStore, h4.b, h4.c]; exact rfl) (h := ?_) | fail)
  (refine wc (And.intro Try.call25 (fn25 L 0 _)) ?_; rintro _ _ ⟨rfl, rfl⟩)
  repeat' (first | refine wy1 (a := by simp only [go_sem, ↓reduceIte, Nat.reduceEqDiff, reduceCtorEq, Nat.reduceAdd, Nat.reduceMul, Nat.reduceLeDiff, aLoad, aStore, h4.b, h4.c]; exact rfl) (h := ?_) | fail)
  (refine wc (And.intro Try.call31 (fnF L [cV 0] _ 0 _ (upd_same _ _ _) (by first | omega | (dsimp only; omega) | (dsimp only at *; omega)) (by decide))) ?_; rintro _ _ ⟨rfl, rfl⟩)
  refine wc (And.intro Try.call13 (FnL.pur (PurArgs.pur (celC_pure (l := [cV 0]) ((upd_ne _ _ (by omega)).trans (upd_same _ _ _))) (PurArgs.keep PurArgs.nil)) (mguD L _ tl3 (by kernel_rfl) (by kernel_rfl) (by decide)))) ?_
  rintro _ _ ⟨rfl, rfl⟩
  repeat' (first | refine wy1 (a := by simp only [go_sem, ↓reduceIte, Nat.reduceEqDiff, reduceCtorEq, Nat.reduceAdd, Nat.reduceMul, Nat.reduceLeDiff, aLoad, aStore, h4.b, h4.c]; exact rfl) (h := ?_) | fail)
  refine awOps_nil (hK _ _ ?_)
  refine AW.less (sl' := [(1, .av (.ptr (s.nx + 3) 0)), (2, .av (.ptr (s.nx + 4) 0)), (3, .av (.sc (slB [(0, [cC]), (1, [cB])] 0))), (4, vI 0), (5, .av (.sc (slB [(1, [cV 0])] 0))), (6, vI 0), (8, vI 3)]) (AllIn.less ⟨rfl, rfl, rfl, rfl, rfl, rfl, rfl, trivial⟩) ?_
  refine aw_state (J := fun s' => HD s s') (h4.frame (by first | omega | (dsimp only; omega) | (dsimp only at *; omega)) fun j hj => ((upd_ne _ _ (by omega)).trans ((upd_ne _ _ (by omega)).trans (upd_ne _ _ (by omega))))) fun s5 h5 => ?_
  clear hK K
  obtain ⟨o5, ho5⟩ : ∃ o, o = upd (upd s5.ob (s5.nx + 1) (.cs (celC [cB]) 0)) (s5.nx + 4) (.cs (celC [cC]) 0) := ⟨_, rfl⟩
  have ha5 : o5 (s5.nx + 1) = .cs (celC [cB]) 0 := by rw [ho5, upd_ne _ _ (by omega), upd_same]
  have hd5 : o5 (s5.nx + 4) = .cs (celC [cC]) 0 := by rw [ho5, upd_same]
  have hf5 : ∀ j, j < s5.nx → o5 j = s5.ob j := fun j hj => by rw [ho5, upd_ne _ _ (by omega), upd_ne _ _ (by omega)]
  have hbo5 := (hf5 _ (by have := h5.hi; omega)).trans h5.b
  have hco5 := (hf5 _ h5.hi).trans h5.c
  refine aw_dra_seq C (pb := false) 12 [] [o5] rfl (by kernel_rfl) (by kernel_rfl) rfl (fun j hj => hf5 j hj) fun K hK => ?_
  (first | refine dra_yes [0] (by rfl) (by rfl) (by rfl) (by rfl) (by kernel_rfl) ⟨⟨_, by simp  only [go_sem, ↓reduceIte, Nat.reduceEqDiff, reduceCtorEq, Nat.reduceAdd, Nat.reduceMul, Nat.reduceLeDiff, aLoad, aStore, osL_0, osL_1, osL_2, osL_3, osL_4, osL_5, osL_6, hbo5, hco5]; (try exact rfl), fun _ => rfl⟩, trivial⟩ ?_ | refine dra_no (by rfl) (by rfl) (by rfl) ?_)
  refine dra_yes [0] (by rfl) (by rfl) (by rfl) (by rfl) (by kernel_rfl) ⟨⟨_, (by simp only [go_sem, ↓reduceIte, Nat.reduceEqDiff, reduceCtorEq, Nat.reduceAdd, Nat.reduceMul, Nat.reduceLeDiff, aLoad, aStore, osL_0, osL_1, osL_2, osL_3, osL_4, osL_5, osL_6, hbo5, hco5]; try exact rfl), fun j => upd_self ha5 j⟩, trivial⟩ ?_
  refine dra_callsil [0] (by rfl) (by rfl) (by rfl) (by rfl) (by kernel_rfl) ⟨And.intro Try.call31 (fnF L [cB] _ 0 _ ha5 (by first | omega | (dsimp only; omega) | (dsimp only at *; omega)) (by decide)), trivial⟩ ?_
  (first | refine dra_yes [0] (by rfl) (by rfl) (by rfl) (by rfl) (by kernel_rfl) ⟨⟨_, by simp  only [go_sem, ↓reduceIte, Nat.reduceEqDiff, reduceCtorEq, Nat.reduceAdd, Nat.reduceMul, Nat.reduceLeDiff, aLoad, aStore, osL_0, osL_1, osL_2, osL_3, osL_4, osL_5, osL_6, hbo5, hco5]; (try exact rfl), fun _ => rfl⟩, trivial⟩ ?_ | refine dra_no (by rfl) (by rfl) (by rfl) ?_)
  refine dra_yes [0] (by rfl) (by rfl) (by rfl) (by rfl) (by kernel_rfl) ⟨⟨_, (by simp only [go_sem, ↓reduceIte, Nat.reduceEqDiff, reduceCtorEq, Nat.reduceAdd, Nat.reduceMul, Nat.reduceLeDiff, aLoad, aStore, osL_0, osL_1, osL_2, osL_3, osL_4, osL_5, osL_6, hbo5, hco5]; try exact rfl), fun j => upd_self hd5 j⟩, trivial⟩ ?_
  refine dra_callsil [0] (by rfl) (by rfl) (by rfl) (by rfl) (by kernel_rfl) ⟨And.intro Try.call31 (fnF L [cC] _ 0 _ hd5 (by first | omega | (dsimp only; omega) | (dsimp only at *; omega)) (by decide)), trivial⟩ ?_
  refine dra_callsil [0] (by rfl) (by rfl) (by rfl) (by rfl) (by kernel_rfl) ⟨And.intro Try.call13 (mguD L (a := fT [cB]) (b := fT [cC]) _ tl4 (by kernel_rfl) (by kernel_rfl) (by decide)), trivial⟩ ?_
  iterate 5 (first | refine dra_yes [0] (by rfl) (by rfl) (by rfl) (by rfl) (by kernel_rfl) ⟨⟨_, by simp  only [go_sem, ↓reduceIte, Nat.reduceEqDiff, reduceCtorEq, Nat.reduceAdd, Nat.reduceMul, Nat.reduceLeDiff, aLoad, aStore, osL_0, osL_1, osL_2, osL_3, osL_4, osL_5, osL_6, hbo5, hco5]; (try exact rfl), fun _ => rfl⟩, trivial⟩ ?_ | refine dra_no (by rfl) (by rfl) (by rfl) ?_)
  refine dra_nil (hK _ ?_)
  simp only [osL_0, osL_1, osL_2, osL_3, osL_4, osL_5, osL_6, List.length_cons, List.length_nil, Nat.reduceAdd]
  refine AW.less (sl' := [(1, .av (.ptr (s.nx + 3) 0)), (2, .av (.ptr (s.nx + 4) 0)), (3, .av (.sc (slB [(0, [cC]), (1, [cB])] 0))), (4, vI 0), (5, .av (.sc (slB [(1, [cV 0])] 0))), (6, vI 0), (8, vI 3), (10, vI 3)]) (AllIn.less ⟨rfl, rfl, rfl, rfl, rfl, rfl, rfl, rfl, trivial⟩) ?_
  refine aw_state (J := fun s' => HD s s') (h5.frame (by first | omega | (dsimp only; omega) | (dsimp only at *; omega)) fun j hj => hf5 j hj) fun s6 h6 => ?_
  clear hK K
  refine aw_region_seq C (pb := false) rfl fun K hK => ?_
  repeat' (first | refine wy1 (a := by simp only [go_sem, ↓reduceIte, Nat.reduceEqDiff, reduceCtorEq, Nat.reduceAdd, Nat.reduceMul, Nat.reduceLeDiff, aLoad, aStore, h6.b, h6.c]; exact rfl) (h := ?_) | fail)
  (refine wc (And.intro Try.call31 (fnF L [cN 1] _ 0 _ (upd_same _ _ _) (by first | omega | (dsimp only; omega) | (dsimp only at *; omega)) (by decide))) ?_; rintro _ _ ⟨rfl, rfl⟩)
  repeat' (first | refine wy1 (a := by simp only [go_sem, ↓reduceIte, Nat.reduceEqDiff, reduceCtorEq, Nat.reduceAdd, Nat.reduceMul, Nat.reduceLeDiff, aLoad, aStore, h6.b, h6.c]; exact rfl) (h := ?_) | fail)
  (refine wc (And.intro Try.call31 (fnF L [cN 2] _ 0 _ (upd_same _ _ _) (by first | omega | (dsimp only; omega) | (dsimp only at *; omega)) (by decide))) ?_; rintro _ _ ⟨rfl, rfl⟩)
  (refine wc (And.intro Try.call13 (mguD L (a := fT [cN 1]) (b := fT [cN 2]) _ tl5 (by kernel_rfl) (by kernel_rfl) (by decide))) ?_; rintro _ _ ⟨rfl, rfl⟩)
  repeat' (first | refine wy1 (a := by simp only [go_sem, ↓reduceIte, Nat.reduceEqDiff, reduceCtorEq, Nat.reduceAdd, Nat.reduceMul, Nat.reduceLeDiff, aLoad, aStore, h6.b, h6.c]; exact rfl) (h := ?_) | fail)
  refine awOps_nil (hK _ _ ?_)
  refine AW.less (sl' := [(1, .av (.ptr (s.nx + 3) 0)), (2, .av (.ptr (s.nx + 4) 0)), (3, .av (.sc (slB [(0, [cC]), (1, [cB])] 0))), (4, vI 0), (5, .av (.sc (slB [(1, [cV 0])] 0))), (6, vI 0), (8, vI 3), (10, vI 3), (12, vI 3)]) (AllIn.less ⟨rfl, rfl, rfl, rfl, rfl, rfl, rfl, rfl, rfl, trivial⟩) ?_
  refine aw_state (J := fun s' => HD s s') (h6.frame (by first | omega | (dsimp only; omega) | (dsimp only at *; omega)) fun j hj => ((upd_ne _ _ (by omega)).trans (upd_ne _ _ (by omega)))) fun s7 h7 => ?_
  clear hK K
  refine aw_region_seq C (pb := false) rfl fun K hK => ?_
  (refine wc (And.intro Try.call25 (fn25 L 0 _)) ?_; rintro _ _ ⟨rfl, rfl⟩)
  (refine wc (And.intro Try.call25 (fn25 L 1 _)) ?_; rintro _ _ ⟨rfl, rfl⟩)
  repeat' (first | refine wy1 (a := by simp only [go_sem, ↓reduceIte, Nat.reduceEqDiff, reduceCtorEq, Nat.reduceAdd, Nat.reduceMul, Nat.reduceLeDiff, aLoad, aStore, h7.b, h7.c]; exact rfl) (h := ?_) | fail)
  (refine wc (And.intro Try.call31 (fnF L [cV 0, cV 1] _ 0 _ (upd_same _ _ _) (by first | omega | (dsimp only; omega) | (dsimp only at *; omega)) (by decide))) ?_; rintro _ _ ⟨rfl, rfl⟩)
  (refine wc (And.intro Try.call25 (fn25 L 1 _)) ?_; rintro _ _ ⟨rfl, rfl⟩)
  (refine wc (And.intro Try.call25 (fn25 L 0 _)) ?_; rintro _ _ ⟨rfl, rfl⟩)
  repeat' (first | refine wy1 (a := by simp only [go_sem, ↓reduceIte, Nat.reduceEqDiff, reduceCtorEq, Nat.reduceAdd, Nat.reduceMul, Nat.reduceLeDiff, aLoad, aStore, h7.b, h7.c]; exact rfl) (h := ?_) | fail)
  (refine wc (And.intro Try.call31 (fnF L [cV 1, cV 0] _ 0 _ (upd_same _ _ _) (by first | omega | (dsimp only; omega) | (dsimp only at *; omega)) (by decide))) ?_; rintro _ _ ⟨rfl, rfl⟩)
  refine wc (And.intro Try.call15 (matD L (a := fT [cV 0, cV 1]) (b := fT [cV 1, cV 0]) _ tl6 (by kernel_rfl) (by kernel_rfl) rb6)) ?_
  rintro _ _ ⟨⟨y7, rfl, hy7⟩, rfl⟩
  repeat' (first | refine wy1 (a := by simp only [go_sem, ↓reduceIte, Nat.reduceEqDiff, reduceCtorEq, Nat.reduceAdd, Nat.reduceMul, Nat.reduceLeDiff, aLoad, aStore, h7.b, h7.c]; exact rfl) (h := ?_) | fail)
  refine awOps_nil (hK _ _ ?_)
  refine AW.less (sl' := [(1, .av (.ptr (s.nx + 3) 0)), (2, .av (.ptr (s.nx + 4) 0)), (3, .av (.sc (slB [(0, [cC]), (1, [cB])] 0))), (4, vI 0), (5, .av (.sc (slB [(1, [cV 0])] 0))), (6, vI 0), (8, vI 3), (10, vI 3), (12, vI 3), (13, .av (.sc y7)), (14, vB true)]) (AllIn.less ⟨rfl, rfl, rfl, rfl, rfl, rfl, rfl, rfl, rfl, rfl, rfl, trivial⟩) ?_
  refine aw_state (J := fun s' => HD s s') (h7.frame (by first | omega | (dsimp only; omega) | (dsimp only at *; omega)) fun j hj => ((upd_ne _ _ (by omega)).trans (upd_ne _ _ (by omega)))) fun s8 h8 => ?_
  clear hK K
  refine aw_region_seq C (pb := false) rfl fun K hK => ?_
  repeat' (first | refine wy1 (a := by simp only [go_sem, ↓reduceIte, Nat.reduceEqDiff, reduceCtorEq, Nat.reduceAdd, Nat.reduceMul, Nat.reduceLeDiff, aLoad, aStore, h8.b, h8.c]; exact rfl) (h := ?_) | fail)
  (refine wc (And.intro Try.call31 (fnF L [cB] _ 0 _ (upd_same _ _ _) (by first | omega | (dsimp only; omega) | (dsimp only at *; omega)) (by decide))) ?_; rintro _ _ ⟨rfl, rfl⟩)
  (refine wc (And.intro Try.call25 (fn25 L 0 _)) ?_; rintro _ _ ⟨rfl, rfl⟩)
  repeat' (first | refine wy1 (a := by simp only [go_sem, ↓reduceIte, Nat.reduceEqDiff, reduceCtorEq, Nat.reduceAdd, Nat.reduceMul, Nat.reduceLeDiff, aLoad, aStore, h8.b, h8.c]; exact rfl) (h := ?_) | fail)
  (refine wc (And.intro Try.call31 (fnF L [cV 0] _ 0 _ (upd_same _ _ _) (by first | omega | (dsimp only; omega) | (dsimp only at *; omega)) (by decide))) ?_; rintro _ _ ⟨rfl, rfl⟩)
  refine wc (And.intro Try.call15 (matN L (a := fT [cB]) (b := fT [cV 0]) _ tl7 (by kernel_rfl) (by kernel_rfl))) ?_
  rintro _ _ ⟨⟨y8, rfl, hy8⟩, rfl⟩
  repeat' (first | refine wy1 (a := by simp only [go_sem, ↓reduceIte, Nat.reduceEqDiff, reduceCtorEq, Nat.reduceAdd, Nat.reduceMul, Nat.reduceLeDiff, aLoad, aStore, h8.b, h8.c]; exact rfl) (h := ?_) | fail)
  refine awOps_nil (hK _ _ ?_)
  refine AW.less (sl' := [(1, .av (.ptr (s.nx + 3) 0)), (2, .av (.ptr (s.nx + 4) 0)), (3, .av (.sc (slB [(0, [cC]), (1, [cB])] 0))), (4, vI 0), (5, .av (.sc (slB [(1, [cV 0])] 0))), (6, vI 0), (8, vI 3), (10, vI 3), (12, vI 3), (13, .av (.sc y7)), (14, vB true), (16, vB false)]) (AllIn.less ⟨rfl, rfl, rfl, rfl, rfl, rfl, rfl, rfl, rfl, rfl, rfl, rfl, trivial⟩) ?_
  refine aw_state (J := fun s' => HD s s') (h8.frame (by first | omega | (dsimp only; omega) | (dsimp only at *; omega)) fun j hj => ((upd_ne _ _ (by omega)).trans (upd_ne _ _ (by omega)))) fun s9 h9 => ?_
  clear hK K
  refine aw_region_seq C (pb := false) rfl fun K hK => ?_
  (refine wc (And.intro Try.call25 (fn25 L 0 _)) ?_; rintro _ _ ⟨rfl, rfl⟩)
  (refine wc (And.intro Try.call25 (fn25 L 0 _)) ?_; rintro _ _ ⟨rfl, rfl⟩)
  repeat' (first | refine wy1 (a := by simp only [go_sem, ↓reduceIte, Nat.reduceEqDiff, reduceCtorEq, Nat.reduceAdd, Nat.reduceMul, Nat.reduceLeDiff, aLoad, aStore, h9.b, h9.c]; exact rfl) (h := ?_) | fail)
  (refine wc (And.intro Try.call31 (fnF L [cV 0, cV 0] _ 0 _ (upd_same _ _ _) (by first | omega | (dsimp only; omega) | (dsimp only at *; omega)) (by decide))) ?_; rintro _ _ ⟨rfl, rfl⟩)
  (refine wc (And.intro Try.call25 (fn25 L 0 _)) ?_; rintro _ _ ⟨rfl, rfl⟩)
  (refine wc (And.intro Try.call25 (fn25 L 0 _)) ?_; rintro _ _ ⟨rfl, rfl⟩)
  repeat' (first | refine wy1 (a := by simp only [go_sem, ↓reduceIte, Nat.reduceEqDiff, reduceCtorEq, Nat.reduceAdd, Nat.reduceMul, Nat.reduceLeDiff, aLoad, aStore, h9.b, h9.c]; exact rfl) (h := ?_) | fail)
  (refine wc (And.intro Try.call31 (fnF L [cV 0, cV 0] _ 0 _ (upd_same _ _ _) (by first | omega | (dsimp only; omega) | (dsimp only at *; omega)) (by decide))) ?_; rintro _ _ ⟨rfl, rfl⟩)
  refine wc (And.intro Try.call15 (matD L (a := fT [cV 0, cV 0]) (b := fT [cV 0, cV 0]) _ tl8 (by kernel_rfl) (by kernel_rfl) rb8)) ?_
  rintro _ _ ⟨⟨y9, rfl, hy9⟩, rfl⟩
  repeat' (first | refine wy1 (a := by simp only [go_sem, ↓reduceIte, Nat.reduceEqDiff, reduceCtorEq, Nat.reduceAdd, Nat.reduceMul, Nat.reduceLeDiff, aLoad, aStore, h9.b, h9.c]; exact rfl) (h := ?_) | fail)
  refine awOps_nil (hK _ _ ?_)
  refine AW.less (sl' := [(1, .av (.ptr (s.nx + 3) 0)), (2, .av (.ptr (s.nx + 4) 0)), (3, .av (.sc (slB [(0, [cC]), (1, [cB])] 0))), (4, vI 0), (5, .av (.sc (slB [(1, [cV 0])] 0))), (6, vI 0), (8, vI 3), (10, vI 3), (12, vI 3), (13, .av (.sc y7)), (14, vB true), (16, vB false), (17, .av (.sc y9)), (18, vB true)]) (AllIn.less ⟨rfl, rfl, rfl, rfl, rfl, rfl, rfl, rfl, rfl, rfl, rfl, rfl, rfl, rfl, trivial⟩) ?_
  refine aw_state (J := fun s' => HD s s') (h9.frame (by first | omega | (dsimp only; omega) | (dsimp only at *; omega)) fun j hj => ((upd_ne _ _ (by omega)).trans (upd_ne _ _ (by omega)))) fun s10 h10 => ?_
  clear hK K
  refine aw_seq ?_
  have hi10 := h10.hi
  refine aw_region_seq C (pb := false) rfl fun K hK => ?_
  repeat' (first | refine wy1 (a := by simp only [go_sem, ↓reduceIte, Nat.reduceEqDiff, reduceCtorEq, Nat.reduceAdd, Nat.reduceMul, Nat.reduceLeDiff, aLoad, aStore, h10.b, h10.c]; exact rfl) (h := ?_) | fail)
  refine wy2 ((show aop C false _ _ _ _ = (aLoad T _ 42 (.av (.ptr (s.nx + 3) 0))).map _ from rfl).trans (ldB3 ((upd_ne _ _ (by omega)).trans h10.b))) ?_
  repeat' (first | refine wy1 (a := by simp only [go_sem, ↓reduceIte, Nat.reduceEqDiff, reduceCtorEq, Nat.reduceAdd, Nat.reduceMul, Nat.reduceLeDiff, aLoad, aStore, h10.b, h10.c]; exact rfl) (h := ?_) | fail)
  refine wc (And.intro Try.call17 (FnL.pur (PurArgs.keep (PurArgs.pur (pur_bnd2 (a := [cC]) (n := 0) (b := [cB]) (m := 1) (by omega) (by omega) (by omega) (upd_same _ _ _) ((upd_ne _ _ (by omega)).trans ((upd_ne _ _ (by omega)).trans (upd_same _ _ _))) ((upd_ne _ _ (by omega)).trans (upd_same _ _ _))) PurArgs.nil)) (fnSame L [(0, [cC]), (1, [cB])] [(0, [cC]), (1, [cB])] _ _ _ (slB_g [(0, [cC]), (1, [cB])]) (.inr rfl) (by decide) (by decide)))) ?_
  rintro _ _ ⟨rfl, rfl⟩
  repeat' (first | refine wy1 (a := by simp only [go_sem, ↓reduceIte, Nat.reduceEqDiff, reduceCtorEq, Nat.reduceAdd, Nat.reduceMul, Nat.reduceLeDiff, aLoad, aStore, h10.b, h10.c]; exact rfl) (h := ?_) | refine wn (h := ?_) | fail)
  try (first | (refine wc (And.intro Try.call25 (fn25 L 0 _)) ?_; rintro _ _ ⟨rfl, rfl⟩) | refine wn (h := ?_) | fail)
  repeat' (first | refine wy1 (a := by simp only [go_sem, ↓reduceIte, Nat.reduceEqDiff, reduceCtorEq, Nat.reduceAdd, Nat.reduceMul, Nat.reduceLeDiff, aLoad, aStore, h10.b, h10.c]; exact rfl) (h := ?_) | refine wn (h := ?_) | fail)
  refine wc (And.intro Try.call17 (FnL.pur (PurArgs.keep (PurArgs.pur (pur_bnd1 (a := [cV 0]) (n := 1) (by omega) (upd_same _ _ _) ((upd_ne _ _ (by omega)).trans (upd_same _ _ _))) PurArgs.nil)) (fnSame L [(1, [cV 0])] [(1, [cV 0])] _ _ _ (slB_g [(1, [cV 0])]) (.inr rfl) (by decide) (by decide)))) ?_
  rintro _ _ ⟨rfl, rfl⟩
  repeat' (first | refine wy1 (a := by simp only [go_sem, ↓reduceIte, Nat.reduceEqDiff, reduceCtorEq, Nat.reduceAdd, Nat.reduceMul, Nat.reduceLeDiff, aLoad, aStore, h10.b, h10.c]; exact rfl) (h := ?_) | refine wn (h := ?_) | fail)
  refine awOps_nil (hK _ _ ?_)
  refine AW.less (sl' := [(126, vB false), (4, vI 0), (6, vI 0), (8, vI 3), (10, vI 3), (12, vI 3), (13, .av (.sc y7)), (14, vB true), (16, vB false), (17, .av (.sc y9)), (18, vB true)]) (AllIn.less ⟨rfl, rfl, rfl, rfl, rfl, rfl, rfl, rfl, rfl, rfl, rfl, trivial⟩) ?_
  refine aw_state (J := fun s' => HD s s') (h10.frame (by first | omega | (dsimp only; omega) | (dsimp only at *; omega)) fun j hj => ((upd_ne _ _ (by omega)).trans ((upd_ne _ _ (by omega)).trans ((upd_ne _ _ (by omega)).trans ((upd_ne _ _ (by omega)).trans ((upd_ne _ _ (by omega)).trans ((upd_ne _ _ (by omega)).trans ((upd_ne _ _ (by omega)).trans ((upd_ne _ _ (by omega)).trans ((upd_ne _ _ (by omega)).trans (upd_ne _ _ (by omega)))))))))))) fun s11 h11 => ?_
  clear hK K
  refine aw_cond (by rfl) ?_ ?_
  · intro hc0
    cases hc0
  · intro hc0
    refine aw_skip ?_
    simp only [thenA_normal, thenA_ret, thenA_exit, blockA_normal, blockA_ret, blockA_exit, ↓reduceIte, Nat.reduceEqDiff]
    refine aw_region_seq C (pb := false) rfl fun K hK => ?_
    repeat' (first | refine wy1 (a := by simp only [go_sem, ↓reduceIte, Nat.reduceEqDiff, reduceCtorEq, Nat.reduceAdd, Nat.reduceMul, Nat.reduceLeDiff, aLoad, aStore, lenB hy9]; exact rfl) (h := ?_) | refine wn (h := ?_) | fail)
    try (first | (refine wc (And.intro Try.call25 (fn25 L 1 _)) ?_; rintro _ _ ⟨rfl, rfl⟩) | refine wn (h := ?_) | fail)
    repeat' (first | refine wy1 (a := by simp only [go_sem, ↓reduceIte, Nat.reduceEqDiff, reduceCtorEq, Nat.reduceAdd, Nat.reduceMul, Nat.reduceLeDiff, aLoad, aStore, lenB hy9]; exact rfl) (h := ?_) | refine wn (h := ?_) | fail)
    try (first | (refine wc (And.intro Try.call25 (fn25 L 0 _)) ?_; rintro _ _ ⟨rfl, rfl⟩) | refine wn (h := ?_) | fail)
    repeat' (first | refine wy1 (a := by simp only [go_sem, ↓reduceIte, Nat.reduceEqDiff, reduceCtorEq, Nat.reduceAdd, Nat.reduceMul, Nat.reduceLeDiff, aLoad, aStore, lenB hy9]; exact rfl) (h := ?_) | refine wn (h := ?_) | fail)
    refine wc (And.intro Try.call17 (FnL.pur (PurArgs.keep (PurArgs.pur (pur_bnd2 (a := [cV 1]) (n := 0) (b := [cV 0]) (m := 1) (by omega) (by omega) (by omega) (upd_same _ _ _) ((upd_ne _ _ (by omega)).trans ((upd_ne _ _ (by omega)).trans (upd_same _ _ _))) ((upd_ne _ _ (by omega)).trans (upd_same _ _ _))) PurArgs.nil)) (fnSame L [(0, [cV 1]), (1, [cV 0])] [(0, [cV 1]), (1, [cV 0])] _ _ _ hy7 (.inr rfl) (by decide) (by decide)))) ?_
    rintro _ _ ⟨rfl, rfl⟩
    repeat' (first | refine wy1 (a := by simp only [go_sem, ↓reduceIte, Nat.reduceEqDiff, reduceCtorEq, Nat.reduceAdd, Nat.reduceMul, Nat.reduceLeDiff, aLoad, aStore, lenB hy9]; exact rfl) (h := ?_) | refine wn (h := ?_) | fail)
    try (first | (refine wc (And.intro Try.call25 (fn25 L 7 _)) ?_; rintro _ _ ⟨rfl, rfl⟩) | refine wn (h := ?_) | fail)
    try (first | (refine wc (And.intro Try.call25 (fn25 L 2 _)) ?_; rintro _ _ ⟨rfl, rfl⟩) | refine wn (h := ?_) | fail)
    repeat' (first | refine wy1 (a := by simp only [go_sem, ↓reduceIte, Nat.reduceEqDiff, reduceCtorEq, Nat.reduceAdd, Nat.reduceMul, Nat.reduceLeDiff, aLoad, aStore, lenB hy9]; exact rfl) (h := ?_) | refine wn (h := ?_) | fail)
    try (first | (refine wc (And.intro Try.call31 (fnF L [cV 7, cV 2] _ 0 _ (upd_same _ _ _) (by first | omega | (dsimp only; omega) | (dsimp only at *; omega)) (by decide))) ?_; rintro _ _ ⟨rfl, rfl⟩) | refine wn (h := ?_) | fail)
    try (first | (refine wc (And.intro Try.call25 (fn25 L 0 _)) ?_; rintro _ _ ⟨rfl, rfl⟩) | refine wn (h := ?_) | fail)
    try (first | (refine wc (And.intro Try.call25 (fn25 L 7 _)) ?_; rintro _ _ ⟨rfl, rfl⟩) | refine wn (h := ?_) | fail)
    repeat' (first | refine wy1 (a := by simp only [go_sem, ↓reduceIte, Nat.reduceEqDiff, reduceCtorEq, Nat.reduceAdd, Nat.reduceMul, Nat.reduceLeDiff, aLoad, aStore, lenB hy9]; exact rfl) (h := ?_) | refine wn (h := ?_) | fail)
    try (first | (refine wc (And.intro Try.call31 (fnF L [cV 0, cV 7] _ 0 _ (upd_same _ _ _) (by first | omega | (dsimp only; omega) | (dsimp only at *; omega)) (by decide))) ?_; rintro _ _ ⟨rfl, rfl⟩) | refine wn (h := ?_) | fail)
    refine wc (And.intro Try.call18 (varT L _)) ?_
    rintro _ _ ⟨rfl, rfl⟩
    repeat' (first | refine wy1 (a := by simp only [go_sem, ↓reduceIte, Nat.reduceEqDiff, reduceCtorEq, Nat.reduceAdd, Nat.reduceMul, Nat.reduceLeDiff, aLoad, aStore, lenB hy9]; exact rfl) (h := ?_) | fail)
    try (first | (refine wc (And.intro Try.call25 (fn25 L 0 _)) ?_; rintro _ _ ⟨rfl, rfl⟩) | refine wn (h := ?_) | fail)
    try (first | (refine wc (And.intro Try.call25 (fn25 L 0 _)) ?_; rintro _ _ ⟨rfl, rfl⟩) | refine wn (h := ?_) | fail)
    repeat' (first | refine wy1 (a := by simp only [go_sem, ↓reduceIte, Nat.reduceEqDiff, reduceCtorEq, Nat.reduceAdd, Nat.reduceMul, Nat.reduceLeDiff, aLoad, aStore, lenB hy9]; exact rfl) (h := ?_) | refine wn (h := ?_) | fail)
    try (first | (refine wc (And.intro Try.call31 (fnF L [cV 0, cV 0] _ 0 _ (upd_same _ _ _) (by first | omega | (dsimp only; omega) | (dsimp only at *; omega)) (by decide))) ?_; rintro _ _ ⟨rfl, rfl⟩) | refine wn (h := ?_) | fail)
    try (first | (refine wc (And.intro Try.call25 (fn25 L 0 _)) ?_; rintro _ _ ⟨rfl, rfl⟩) | refine wn (h := ?_) | fail)
    try (first | (refine wc (And.intro Try.call25 (fn25 L 1 _)) ?_; rintro _ _ ⟨rfl, rfl⟩) | refine wn (h := ?_) | fail)
    repeat' (first | refine wy1 (a := by simp only [go_sem, ↓reduceIte, Nat.reduceEqDiff, reduceCtorEq, Nat.reduceAdd, Nat.reduceMul, Nat.reduceLeDiff, aLoad, aStore, lenB hy9]; exact rfl) (h := ?_) | refine wn (h := ?_) | fail)
    try (first | (refine wc (And.intro Try.call31 (fnF L [cV 0, cV 1] _ 0 _ (upd_same _ _ _) (by first | omega | (dsimp only; omega) | (dsimp only at *; omega)) (by decide))) ?_; rintro _ _ ⟨rfl, rfl⟩) | refine wn (h := ?_) | fail)
    refine wc (And.intro Try.call18 (varF L _)) ?_
    rintro _ _ ⟨rfl, rfl⟩
    repeat' (first | refine wy1 (a := by simp only [go_sem, ↓reduceIte, Nat.reduceEqDiff, reduceCtorEq, Nat.reduceAdd, Nat.reduceMul, Nat.reduceLeDiff, aLoad, aStore, lenB hy9]; exact rfl) (h := ?_) | refine wn (h := ?_) | fail)
    refine awOps_nil (hK _ _ ?_)
    refine AW.less (sl' := [(0, vB true)]) (AllIn.less ⟨rfl, trivial⟩) ?_
    clear hK K
    refine aw_ret ?_
    simp only [go_sem, ↓reduceIte, Nat.reduceEqDiff, reduceCtorEq, Nat.reduceAdd, Nat.reduceMul, Nat.reduceLeDiff, aLoad, aStore, FnQ, resA]
    -- 0f.ret
    have hk11 := h11.kp.1
    exact fun _ => ⟨by first | rfl | trivial, fun j hj => (((upd_ne _ _ (by omega)).trans ((upd_ne _ _ (by omega)).trans ((upd_ne _ _ (by omega)).trans ((upd_ne _ _ (by omega)).trans ((upd_ne _ _ (by omega)).trans ((upd_ne _ _ (by omega)).trans ((upd_ne _ _ (by omega)).trans ((upd_ne _ _ (by omega)).trans ((upd_ne _ _ (by omega)).trans (upd_ne _ _ (by omega)))))))))))).trans (h11.kp.2.1 j hj), h11.kp.2.2, by first | rfl | trivial⟩
end Go.Am.Seat
/-
  MGU at right terms: the contract, and the plain law's cases.
-/
namespace Go.Am.Seat
open Go.Proofs
/-- What Mgu tells. -/
def mgu (a b : List Cell) : List (Nat × List Cell) × Int := (mguR 1000000 (a ++ b) a.length).getD ([], 3)
theorem mgu_cases {a b : List Cell} (ha : RTm a) (hb : RTm b) : (mgu a b = ([], 3) ∧ ∀ s, Terms s → appT s a ≠ appT s b) ∨ ∃ s, NormO a b s ∧ mgu a b = mguO s := by
  obtain ⟨out, e, h1, h2⟩ := mgu_law ha hb
  have h3 : mgu a b = (out, e) := by rw [mgu, h1]; rfl
  rw [h3]
  rcases h2 with ⟨rfl, rfl, h⟩ | ⟨s, h, h'⟩
  · exact .inl ⟨rfl, h⟩
  · exact .inr ⟨s, h, h'⟩
theorem gsl_cells {x : Sc} {l : List Cell} (h : GSl encC x l) (hl : 1 ≤ l.length) : x = .sl l.length (l.flatMap encC) := by
  rcases h with ⟨_, h⟩ | h
  · rw [h] at hl; simp at hl
  · exact h
theorem fnMade (L : Loops) (l : List Cell) (most : Nat) (s : Me) (x : Sc) (hx : GSl encC x l) (hl : l.length ≤ 281474976710656) (hn : ∀ c ∈ l, c.name.size ≤ 1152921504606846976) (hm : 1 ≤ most ∧ most ≤ 200) : FnL Try.prog L 12 [.av (.sc x), vI most] s fun r s' => (∃ t, r = vC t ∧ RTm t ∧ t.length ≤ most) ∧ s' = s :=
  (fn12 L l most s x hx hl hn hm).mono fun r s' ⟨⟨y, t, h1, h2, h3, h4⟩, h5⟩ => ⟨⟨t, by rw [h1, gsl_cells h2 (right_tm h3).pos], right_tm h3, h4⟩, h5⟩
theorem fnMgu (L : Loops) {a b : List Cell} (ha : RTm a) (hb : RTm b) (s : Me) : FnL Try.prog L 13 [vC a, vC b] s fun r s' => (∃ z, r = .tup [.av (.sc z), vI (mgu a b).2] ∧ GSl encB z ((mgu a b).1.map bndOf)) ∧ s' = s := by
  obtain ⟨out, e, h1, h2⟩ := mgu_law ha hb
  have h3 : mgu a b = (out, e) := by rw [mgu, h1]; rfl
  have a1 := ha.pos
  have a2 := ha.len
  have b1 := hb.pos
  have b2 := hb.len
  refine (fn13 L 1000000 a b out e s _ _ (gslC a) (gslC b) (by omega) (by omega) (tok_two ha hb) (by omega) h1).mono fun r s' ⟨⟨y, h4, h5, _⟩, h6⟩ => ⟨⟨y, ?_, ?_⟩, h6⟩
  · rw [h3]; exact h4
  · rw [h3]; exact h5
set_option maxRecDepth 10000 in
/-- The bounds on what Mgu tells. -/
theorem mguO_len (s : Int → List Cell) : (mguO s).1.length ≤ 1000 ∧ ∀ c ∈ (mguO s).1, c.2.length ≤ 200 := by
  unfold mguO
  split
  · exact ⟨Nat.zero_le _, fun c hc => by simp at hc⟩
  · rename_i h
    refine ⟨Nat.le_trans (List.length_filterMap_le _ _) (by simp), fun c hc => ?_⟩
    obtain ⟨n, hn, h1⟩ := List.mem_filterMap.1 hc
    rw [bnd] at h1
    split at h1
    · cases h1
    · simp only [Option.some.injEq] at h1
      rw [← h1]
      rcases Nat.lt_or_ge 200 (s (n : Nat)).length with h2 | h2
      · exact absurd (List.any_eq_true.2 ⟨n, hn, decide_eq_true h2⟩) h
      · exact h2
theorem mgu_len {a b : List Cell} (ha : RTm a) (hb : RTm b) : (mgu a b).1.length ≤ 1000 ∧ ∀ c ∈ (mgu a b).1, c.2.length ≤ 200 := by
  rcases mgu_cases ha hb with ⟨h, _⟩ | ⟨s, _, h⟩
  · rw [h]; exact ⟨Nat.zero_le _, fun c hc => by simp at hc⟩
  · rw [h]; exact mguO_len s
/-- Two rows told by Mgu are held against each other. -/
theorem fnSameM (L : Loops) (a b : List (Nat × List Cell)) (s : Me) (x y : Sc) (hx : GSl encB x (a.map bndOf)) (hy : GSl encB y (b.map bndOf)) (hl : a.length ≤ 1000) (hc : ∀ c ∈ a, c.2.length ≤ 200) : FnL Try.prog L 17 [.av (.sc x), .av (.sc y)] s fun r s' => r = vB (decide (a = b)) ∧ s' = s := by
  rw [map_bndOf] at hx hy
  refine (fnSame L (a.map toI) (b.map toI) s x y hx hy (by rw [List.length_map]; omega) fun c h => ?_).mono fun r s' ⟨h1, h2⟩ => ⟨?_, h2⟩
  · obtain ⟨d, hd, rfl⟩ := List.mem_map.1 h
    have := hc d hd
    simp only [toI]; omega
  · rw [h1]
    congr 1
    rw [decide_eq_decide]
    refine ⟨fun e => ?_, fun e => by rw [e]⟩
    exact List.map_inj_right (f := toI) (fun p q h => by
      simp only [toI, Prod.mk.injEq] at h
      exact Prod.ext (by omega) h.2) |>.1 e
theorem fnSameV (L : Loops) {a b : List (Nat × List Cell)} {v : Bool} (hv : decide (a = b) = v) (s : Me) (x y : Sc) (hx : GSl encB x (a.map bndOf)) (hy : GSl encB y (b.map bndOf)) (hl : a.length ≤ 1000 ∧ ∀ c ∈ a, c.2.length ≤ 200) : FnL Try.prog L 17 [.av (.sc x), .av (.sc y)] s fun r s' => r = vB v ∧ s' = s :=
  (fnSameM L a b s x y hx hy hl.1 hl.2).mono fun r s' h => ⟨h.1.trans (congrArg vB hv), h.2⟩
/-! ### The other way round; of a term and itself; of one and a deeper one -/
theorem NormO.symm {a b : List Cell} {s : Int → List Cell} (h : NormO a b s) : NormO b a s := by
  have e : ∀ n, occ (b ++ a) n ↔ occ (a ++ b) n := fun n => by simp only [occ, List.mem_append, or_comm]
  exact ⟨⟨h.eq.symm, h.tm, h.vc, fun u hu e => h.abs u hu e.symm, h.least⟩, fun n hn c hc => by
    have := h.ok n ((e n).1 hn) c hc
    exact ⟨this.1, fun hk => (e _).2 (this.2 hk)⟩, fun n hn => h.out n fun k => hn ((e n).2 k)⟩
theorem mgu_symm {a b : List Cell} (ha : RTm a) (hb : RTm b) : mgu b a = mgu a b := by
  rcases mgu_cases ha hb with ⟨h1, h2⟩ | ⟨s, h1, h2⟩
  · rcases mgu_cases hb ha with ⟨h3, h4⟩ | ⟨u, h3, h4⟩
    · rw [h1, h3]
    · exact absurd h3.eq.symm (h2 u h3.tm)
  · rcases mgu_cases hb ha with ⟨h3, h4⟩ | ⟨u, h3, h4⟩
    · exact absurd h1.eq.symm (h4 s h1.tm)
    · rw [h2, h4, h1.toNorm.uniq h3.symm.toNorm]
/-- Nothing is put for any variable. -/
def idS (n : Int) : List Cell := [varCell n]
theorem idS_tm : Terms idS := fun n => rfl
theorem mguO_id : mguO idS = ([], 0) := by
  rw [mguO, if_neg]
  · rw [show (List.range 1000).filterMap (bnd idS) = [] from List.filterMap_eq_nil_iff.2 fun n _ => by simp [bnd, idS]]
  · simp [idS]
theorem appT_id {l : List Cell} (h : ∀ c ∈ l, cellOk c = true) : appT idS l = l := appT_same (s := idS) fun c hc hk => by rw [idS, ← ok_varCell (h c hc) hk]
theorem norm_id (a : List Cell) : Norm a a idS := by
  refine ⟨rfl, idS_tm, fun n c hc _ => ?_, fun u _ _ n => appT_var u n, fun n m h => ?_⟩
  · rw [idS, List.mem_singleton] at hc
    rw [hc]; rfl
  · have := congrArg Cell.n (List.cons.inj h).1
    simp only [varCell] at this
    omega
theorem mgu_self {a : List Cell} (ha : RTm a) : mgu a a = ([], 0) := by
  rcases mgu_cases ha ha with ⟨h1, h2⟩ | ⟨s, h1, h2⟩
  · exact absurd rfl (h2 idS idS_tm)
  · rw [h2, h1.toNorm.uniq (norm_id a), mguO_id]
theorem okF1 : cellOk ⟨3, nmF, 1⟩ = true := by decide
theorem deep_tm {a : List Cell} (ha : RTm a) (hl : a.length ≤ 100) : RTm (⟨3, nmF, 1⟩ :: a) := by
  refine ⟨?_, fun c hc => ?_, by simp, by simp; omega⟩
  · rw [takes, show 0 + arC ⟨3, nmF, 1⟩ = 1 from rfl, ha.tk]; rfl
  · rcases List.mem_cons.1 hc with rfl | hc
    · exact okF1
    · exact ha.ok c hc
theorem mgu_deep {a : List Cell} (ha : RTm a) (hl : a.length ≤ 100) : mgu a (⟨3, nmF, 1⟩ :: a) = ([], 3) := by
  rcases mgu_cases ha (deep_tm ha hl) with ⟨h1, h2⟩ | ⟨s, h1, h2⟩
  · exact h1
  · have := congrArg List.length h1.eq
    rw [appT_cons s (by decide : ¬ (Cell.mk 3 nmF 1).kind = 1), List.length_cons] at this
    omega
end Go.Am.Seat
/-
  MADE BY PROGRAM (am.py): the walks of functions 59.
-/
namespace Go.Am.Seat
open Go.Proofs

/-- A variable's place; -1: it is not there. -/
def placeB : List Bnd → Int → Nat → Int
  | [], _, _ => -1
  | a :: l, n, i => if (a.v == n) = true then (i : Int) else placeB l n (i + 1)

theorem bod59 : Try.f59.body = some (Try.f59.body.getD .skip) := rfl
theorem fn59 (L : Loops) (l : List Bnd) (n : Int) (s : Me) (x : Sc) (hx : GSl encB x l) (hl : l.length ≤ 2199023255552) : FnL Try.prog L 59 [.av (.sc x), vI n] s fun r s' => (r = vI (placeB l n 0)) ∧ s' = s := by
  refine FnL.pure (R := fun r => r = vI (placeB l n 0)) ?_
  refine fn_of_body (ts := [4]) Try.func59 bod59 rfl (by simp) (by simp [Try.ntmps59]) fun D0 => ?_
  unfold Try.f59
  simp only [Option.getD_some, initSl]
  refine aw_region_seq C (pb := false) rfl fun K hK => ?_
  repeat' (first | refine wy0 (h := ?_) | fail)
  refine awOps_nil (hK _ _ ?_)
  clear hK K
  refine aw_seq ?_
  refine aw_region_seq C (pb := false) rfl fun K hK => ?_
  repeat' (first | refine wy0 (h := ?_) | fail)
  refine awOps_nil (hK _ _ ?_)
  clear hK K
  refine aw_block ?_
  refine AW.less (sl' := [(0, .av (.sc x)), (1, vI n), (5, vI (0))]) (AllIn.less ⟨rfl, rfl, rfl, trivial⟩) (aw_loop (fun k sl1 s1 => ∃ (i : Nat), k = l.length - i ∧ sl1 = [(0, .av (.sc x)), (1, vI n), (5, vI (i))] ∧ (Kp s s1) ∧ (i ≤ l.length) ∧ (placeB (l.drop i) n i = placeB l n 0)) (k := l.length - (0)) ⟨0, rfl, rfl, (Kp.refl s).up (by omega), Nat.zero_le _, rfl⟩ ?_)
  rintro k1 _ s1 ⟨i, hk1, rfl, hs1, hb, h3⟩
  refine aw_seq ?_
  refine aw_region_seq C (pb := false) rfl fun K hK => ?_
  repeat' (first | refine wy1 (a := by simp only [go_sem, ↓reduceIte, Nat.reduceEqDiff, reduceCtorEq, Nat.reduceAdd, Nat.reduceMul, Nat.reduceLeDiff, aLoad, aStore, lenB hx]; exact rfl) (h := ?_) | fail)
  refine awOps_nil (hK _ _ ?_)
  clear hK K
  refine aw_cond (by rfl) ?_ ?_
  · intro hc0
    try simp only [decide_eq_true_eq, decide_eq_false_iff_not] at hc0
    have hi2 : i < l.length := by omega
    have hi3 : 1 ≤ l.length - i := by omega
    refine aw_skip ?_
    simp only [thenA_normal, thenA_ret, thenA_exit, blockA_normal, blockA_ret, blockA_exit, ↓reduceIte, Nat.reduceEqDiff]
    refine aw_seq ?_
    refine aw_block ?_
    refine aw_region_seq C (pb := false) rfl fun K hK => ?_
    repeat' (first | refine wy1 (a := by simp only [go_sem, ↓reduceIte, Nat.reduceEqDiff, reduceCtorEq, Nat.reduceAdd, Nat.reduceMul, Nat.reduceLeDiff, aLoad, aStore, idxB hx hi2]; exact rfl) (h := ?_) | fail)
    refine awOps_nil (hK _ _ ?_)
    clear hK K
    refine aw_cond (by rfl) ?_ ?_
    · intro hc1
      try simp only [decide_eq_true_eq, decide_eq_false_iff_not] at hc1
      refine aw_region_seq C (pb := false) rfl fun K hK => ?_
      repeat' (first | refine wy0 (h := ?_) | fail)
      refine awOps_nil (hK _ _ ?_)
      clear hK K
      refine aw_ret ?_
      try simp only [thenA_normal, thenA_ret, thenA_exit, blockA_normal, blockA_ret, blockA_exit]
      simp only [go_sem, ↓reduceIte, Nat.reduceEqDiff, reduceCtorEq, Nat.reduceAdd, Nat.reduceMul, Nat.reduceLeDiff, aLoad, aStore, FnQ, resA]
      -- 0t1t.ret
      refine fun _ => ⟨rfl, hs1.2.1, hs1.2.2, ?_⟩
      rw [← h3, List.drop_eq_getElem_cons hi2, placeB, if_pos hc1]
    · intro hc1
      try simp only [decide_eq_true_eq, decide_eq_false_iff_not] at hc1
      refine aw_skip ?_
      simp only [thenA_normal, thenA_ret, thenA_exit, blockA_normal, blockA_ret, blockA_exit, ↓reduceIte, Nat.reduceEqDiff]
      refine aw_region C (pb := false) rfl ?_
      repeat' (first | refine wy1 (a := by simp only [go_sem, ↓reduceIte, Nat.reduceEqDiff, reduceCtorEq, Nat.reduceAdd, Nat.reduceMul, Nat.reduceLeDiff, aLoad, aStore, wrap_small ((i : Int) + 1) (by omega) (by omega)]; exact rfl) (h := ?_) | fail)
      refine awOps_nil ?_
      try simp only [thenA_normal, thenA_ret, thenA_exit, blockA_normal, blockA_ret, blockA_exit]
      -- end of round 0 at 0t1f
      refine ⟨l.length - (i + 1), [(0, .av (.sc x)), (1, vI n), (5, vI (i + 1))], by omega, AllIn.less ⟨rfl, rfl, rfl, trivial⟩, i + 1, rfl, rfl, ?_, ?_, ?_⟩
      · exact hs1.up (by omega)
      · omega
      · rw [← h3, List.drop_eq_getElem_cons hi2, placeB, if_neg (by rw [hc1]; exact Bool.false_ne_true)]
  · intro hc0
    try simp only [decide_eq_true_eq, decide_eq_false_iff_not] at hc0
    refine aw_exit ?_
    simp only [thenA_normal, thenA_ret, thenA_exit, blockA_normal, blockA_ret, blockA_exit, ↓reduceIte, Nat.reduceEqDiff]
    refine aw_region_seq C (pb := false) rfl fun K hK => ?_
    repeat' (first | refine wy0 (h := ?_) | fail)
    refine awOps_nil (hK _ _ ?_)
    clear hK K
    refine aw_ret ?_
    simp only [go_sem, ↓reduceIte, Nat.reduceEqDiff, reduceCtorEq, Nat.reduceAdd, Nat.reduceMul, Nat.reduceLeDiff, aLoad, aStore, FnQ, resA]
    -- 0f.x0.ret
    refine fun _ => ⟨rfl, hs1.2.1, hs1.2.2, ?_⟩
    rw [← h3, List.drop_of_length_le (by omega), placeB]
end Go.Am.Seat
/-
  MADE BY PROGRAM (am.py): the walks of functions 57.
-/
namespace Go.Am.Seat
open Go.Proofs

/-- What is put in for a cell. -/
def pieceG (bs : List Bnd) (val : Bnd → List Cell) (c : Cell) : List Cell :=
  if (c.kind == 1) = true then (match bs.find? (fun b => b.v == c.n) with | some b => val b | none => [c]) else [c]
def putG (bs : List Bnd) (val : Bnd → List Cell) : List Cell → List Cell → List Cell
  | [], out => out
  | c :: l, out => putG bs val l (out ++ pieceG bs val c)
theorem placeB_spec : ∀ (l : List Bnd) (n : Int) (k : Nat), (placeB l n k = -1 ∧ l.find? (fun b => b.v == n) = none) ∨ ∃ i, ∃ h : i < l.length, placeB l n k = ((k + i : Nat) : Int) ∧ l.find? (fun b => b.v == n) = some l[i]
  | [], n, k => .inl ⟨rfl, rfl⟩
  | a :: l, n, k => by
    by_cases h : (a.v == n) = true
    · exact .inr ⟨0, by simp, by simp [placeB, h], by simp [List.find?, h]⟩
    · have h' : (a.v == n) = false := by simpa using h
      rcases placeB_spec l n (k + 1) with ⟨h1, h2⟩ | ⟨i, hi, h1, h2⟩
      · exact .inl ⟨by simp [placeB, h, h1], by simp [List.find?, h', h2]⟩
      · refine .inr ⟨i + 1, by simp; omega, ?_, by simp [List.find?, h', h2]⟩
        rw [placeB, if_neg h, h1]
        congr 1
        omega

theorem bod57 : Try.f57.body = some (Try.f57.body.getD .skip) := rfl
theorem fn57 (L : Loops) (bs : List Bnd) (val : Bnd → List Cell) (t : List Cell) (s : Me) (sx x : Sc) (hsx : GSl encB sx bs) (hx : GSl encC x t) (hv : ∀ b ∈ bs, GSl encC b.t (val b) ∧ (val b).length ≤ 1000) (hb1 : bs.length ≤ 1000000000) (hl : t.length ≤ 1000000) : FnL Try.prog L 57 [.av (.sc sx), .av (.sc x)] s fun r s' => (∃ y, r = .av (.sc y) ∧ GSl encC y (putG bs val t [])) ∧ s' = s := by
  refine FnL.pure (R := fun r => ∃ y, r = .av (.sc y) ∧ GSl encC y (putG bs val t [])) ?_
  refine fn_of_body (ts := [4]) Try.func57 bod57 rfl (by simp) (by simp [Try.ntmps57]) fun D0 => ?_
  unfold Try.f57
  simp only [Option.getD_some, initSl]
  refine aw_region_seq C (pb := false) rfl fun K hK => ?_
  repeat' (first | refine wy0 (h := ?_) | fail)
  refine awOps_nil (hK _ _ ?_)
  clear hK K
  refine aw_region_seq C (pb := false) rfl fun K hK => ?_
  repeat' (first | refine wy0 (h := ?_) | fail)
  refine awOps_nil (hK _ _ ?_)
  clear hK K
  refine aw_seq ?_
  refine aw_region_seq C (pb := false) rfl fun K hK => ?_
  repeat' (first | refine wy0 (h := ?_) | fail)
  refine awOps_nil (hK _ _ ?_)
  clear hK K
  refine aw_block ?_
  refine AW.less (sl' := [(0, .av (.sc sx)), (1, .av (.sc x)), (5, (_)), (6, vI (0))]) (AllIn.less ⟨rfl, rfl, rfl, rfl, trivial⟩) (aw_loop (fun k sl1 s1 => ∃ (i : Nat) (xo : Va) (out : List Cell), k = t.length - i ∧ sl1 = [(0, .av (.sc sx)), (1, .av (.sc x)), (5, (xo)), (6, vI (i))] ∧ (Kp s s1) ∧ (i ≤ t.length ∧ out.length ≤ 1000 * i) ∧ (Acc s.nx s1.nx s1.ob xo out.length 3 ((out.flatMap encC).map .sc)) ∧ (putG bs val (t.drop i) out = putG bs val t [])) (k := t.length - (0)) ⟨0, _, [], rfl, rfl, ⟨by first | omega | (dsimp only; omega), fun j hj => upd_ne _ _ (by omega), rfl⟩, by simp, .inr ⟨_, 0, rfl, by first | omega | (dsimp only; omega), by first | omega | (dsimp only; omega), upd_same _ _ _, by simp, by simp⟩, rfl⟩ ?_)
  rintro k1 _ s1 ⟨i, xo, out, hk1, rfl, hs1, hb, hacc, h3⟩
  refine aw_seq ?_
  refine aw_region_seq C (pb := false) rfl fun K hK => ?_
  repeat' (first | refine wy1 (a := by simp only [go_sem, ↓reduceIte, Nat.reduceEqDiff, reduceCtorEq, Nat.reduceAdd, Nat.reduceMul, Nat.reduceLeDiff, aLoad, aStore, lenC hx]; exact rfl) (h := ?_) | fail)
  refine awOps_nil (hK _ _ ?_)
  clear hK K
  refine aw_cond (by rfl) ?_ ?_
  · intro hc0
    try simp only [decide_eq_true_eq, decide_eq_false_iff_not] at hc0
    have hi2 : i < t.length := by omega
    have hdrop : t.drop i = t[i] :: t.drop (i + 1) := List.drop_eq_getElem_cons hi2
    refine aw_skip ?_
    simp only [thenA_normal, thenA_ret, thenA_exit, blockA_normal, blockA_ret, blockA_exit, ↓reduceIte, Nat.reduceEqDiff]
    refine aw_seq ?_
    refine aw_block ?_
    refine aw_region_seq C (pb := false) rfl fun K hK => ?_
    repeat' (first | refine wy0 (h := ?_) | fail)
    refine awOps_nil (hK _ _ ?_)
    clear hK K
    refine aw_seq ?_
    refine aw_region_seq C (pb := false) rfl fun K hK => ?_
    repeat' (first | refine wy1 (a := by simp only [go_sem, ↓reduceIte, Nat.reduceEqDiff, reduceCtorEq, Nat.reduceAdd, Nat.reduceMul, Nat.reduceLeDiff, aLoad, aStore, idxC hx hi2]; exact rfl) (h := ?_) | fail)
    refine awOps_nil (hK _ _ ?_)
    clear hK K
    refine aw_cond (by rfl) ?_ ?_
    · intro hc1
      try simp only [decide_eq_true_eq, decide_eq_false_iff_not] at hc1
      refine aw_region C (pb := false) rfl ?_
      repeat' (first | refine wy1 (a := by simp only [go_sem, ↓reduceIte, Nat.reduceEqDiff, reduceCtorEq, Nat.reduceAdd, Nat.reduceMul, Nat.reduceLeDiff, aLoad, aStore, idxC hx hi2]; exact rfl) (h := ?_) | fail)
      (refine wc (And.intro Try.call59 (fn59 L bs t[i].n _ sx hsx (by omega))) ?_; rintro _ _ ⟨rfl, rfl⟩)
      repeat' (first | refine wy1 (a := by simp only [go_sem, ↓reduceIte, Nat.reduceEqDiff, reduceCtorEq, Nat.reduceAdd, Nat.reduceMul, Nat.reduceLeDiff, aLoad, aStore, idxC hx hi2]; exact rfl) (h := ?_) | fail)
      refine awOps_nil ?_
      try simp only [thenA_normal, thenA_ret, thenA_exit, blockA_normal, blockA_ret, blockA_exit]
      refine aw_region_seq C (pb := false) rfl fun K hK => ?_
      repeat' (first | refine wy0 (h := ?_) | fail)
      refine awOps_nil (hK _ _ ?_)
      clear hK K
      refine aw_cond (by rfl) ?_ ?_
      · intro hc2
        try simp only [decide_eq_true_eq, decide_eq_false_iff_not] at hc2
        refine aw_region C (pb := false) rfl ?_
        repeat' (first | refine wy1 (a := by simp only [go_sem, ↓reduceIte, Nat.reduceEqDiff, reduceCtorEq, Nat.reduceAdd, Nat.reduceMul, Nat.reduceLeDiff, aLoad, aStore, idxC hx hi2]; exact rfl) (h := ?_) | fail)
        refine awOps_append (by rfl) (by rfl) (by rfl) (by rfl) (hacc.up (hi' := s1.nx) (Nat.le_refl _) fun j h1 h2 => upd_ne _ _ (by omega)) T22 rfl T42 rfl (by simp) (by simp [y42]) (k := 1) (new := (encC t[i]).map .sc) (by simp [aSrc, evA, get, upd, zerosA, encC, storeL, List.range, List.range.loop]) (by simp [encC]) (by omega) (by omega) (by have := hs1.1; omega) fun x6 ob6 hacc6 hlow6 _ => ?_
        repeat' (first | refine wy1 (a := by simp only [go_sem, ↓reduceIte, Nat.reduceEqDiff, reduceCtorEq, Nat.reduceAdd, Nat.reduceMul, Nat.reduceLeDiff, aLoad, aStore, idxC hx hi2]; exact rfl) (h := ?_) | fail)
        refine awOps_nil ?_
        try simp only [thenA_normal, thenA_ret, thenA_exit, blockA_normal, blockA_ret, blockA_exit]
        refine aw_region C (pb := false) rfl ?_
        repeat' (first | refine wy1 (a := by simp only [go_sem, ↓reduceIte, Nat.reduceEqDiff, reduceCtorEq, Nat.reduceAdd, Nat.reduceMul, Nat.reduceLeDiff, aLoad, aStore, wrap_small ((i : Int) + 1) (by omega) (by omega)]; exact rfl) (h := ?_) | fail)
        refine awOps_nil ?_
        try simp only [thenA_normal, thenA_ret, thenA_exit, blockA_normal, blockA_ret, blockA_exit]
        -- end of round 0 at 0t1t2t
        refine ⟨t.length - (i + 1), [(0, .av (.sc sx)), (1, .av (.sc x)), (5, (x6)), (6, vI (i + 1))], by omega, AllIn.less ⟨rfl, rfl, rfl, rfl, trivial⟩, i + 1, x6, out ++ [t[i]], rfl, rfl, ?_, ?_, ?_, ?_⟩
        · exact ⟨by have := hs1.1; first | omega | (dsimp only; omega), fun j hj => (hlow6 j hj).trans ((upd_ne _ _ (by have := hs1.1; omega)).trans (hs1.2.1 j hj)), hs1.2.2⟩
        · simp only [List.length_append, List.length_cons, List.length_nil]
          omega
        · simp only [List.length_append, List.length_cons, List.length_nil, List.flatMap_append, List.map_append, List.flatMap_cons, List.flatMap_nil, List.append_nil]
          exact hacc6.up (by first | omega | (dsimp only; omega)) fun _ _ _ => rfl
        · have hp : pieceG bs val t[i] = [t[i]] := by
            rcases placeB_spec bs t[i].n 0 with ⟨_, h⟩ | ⟨j, hj, h, _⟩
            · rw [pieceG, if_pos hc1, h]
            · rw [h] at hc2; omega
          rw [← h3, hdrop, putG, hp]
      · intro hc2
        try simp only [decide_eq_true_eq, decide_eq_false_iff_not] at hc2
        rcases placeB_spec bs t[i].n 0 with ⟨h, _⟩ | ⟨j, hj, hpl, hfi⟩
        · exact absurd hc2 (by rw [h]; decide)
        rw [Nat.zero_add] at hpl
        refine aw_region C (pb := false) rfl ?_
        repeat' (first | refine wy1 (a := by simp only [go_sem, ↓reduceIte, Nat.reduceEqDiff, reduceCtorEq, Nat.reduceAdd, Nat.reduceMul, Nat.reduceLeDiff, aLoad, aStore, hpl, idxB hsx hj]; exact rfl) (h := ?_) | fail)
        refine awOps_append (by rfl) (by rfl) (by rfl) (by rfl) hacc T22 rfl T42 rfl (by simp) (by simp [y42]) (aSrc_g (enc := encC) (k := 3) (fun _ => rfl) (hv bs[j] (List.getElem_mem hj)).1 _) (by simp [flat_len (enc := encC) (k := 3) (fun _ => rfl)]) (by have := (hv bs[j] (List.getElem_mem hj)).2; omega) (by omega) (by have := hs1.1; omega) fun x6 ob6 hacc6 hlow6 _ => ?_
        repeat' (first | refine wy1 (a := by simp only [go_sem, ↓reduceIte, Nat.reduceEqDiff, reduceCtorEq, Nat.reduceAdd, Nat.reduceMul, Nat.reduceLeDiff, aLoad, aStore, hpl, idxB hsx hj]; exact rfl) (h := ?_) | fail)
        refine awOps_nil ?_
        try simp only [thenA_normal, thenA_ret, thenA_exit, blockA_normal, blockA_ret, blockA_exit]
        refine aw_region C (pb := false) rfl ?_
        repeat' (first | refine wy1 (a := by simp only [go_sem, ↓reduceIte, Nat.reduceEqDiff, reduceCtorEq, Nat.reduceAdd, Nat.reduceMul, Nat.reduceLeDiff, aLoad, aStore, wrap_small ((i : Int) + 1) (by omega) (by omega)]; exact rfl) (h := ?_) | fail)
        refine awOps_nil ?_
        try simp only [thenA_normal, thenA_ret, thenA_exit, blockA_normal, blockA_ret, blockA_exit]
        -- end of round 0 at 0t1t2f
        refine ⟨t.length - (i + 1), [(0, .av (.sc sx)), (1, .av (.sc x)), (5, (x6)), (6, vI (i + 1))], by omega, AllIn.less ⟨rfl, rfl, rfl, rfl, trivial⟩, i + 1, x6, out ++ val bs[j], rfl, rfl, ?_, ?_, ?_, ?_⟩
        · exact ⟨by have := hs1.1; first | omega | (dsimp only; omega), fun j hj => (hlow6 j hj).trans (hs1.2.1 j hj), hs1.2.2⟩
        · have := (hv bs[j] (List.getElem_mem hj)).2
          simp only [List.length_append]
          omega
        · simp only [List.length_append, List.length_cons, List.length_nil, List.flatMap_append, List.map_append, List.flatMap_cons, List.flatMap_nil, List.append_nil]
          exact hacc6.up (by first | omega | (dsimp only; omega)) fun _ _ _ => rfl
        · have hp : pieceG bs val t[i] = val bs[j] := by
            rw [pieceG, if_pos hc1, hfi]
          rw [← h3, hdrop, putG, hp]
    · intro hc1
      try simp only [decide_eq_true_eq, decide_eq_false_iff_not] at hc1
      refine aw_skip ?_
      simp only [thenA_normal, thenA_ret, thenA_exit, blockA_normal, blockA_ret, blockA_exit, ↓reduceIte, Nat.reduceEqDiff]
      refine aw_region_seq C (pb := false) rfl fun K hK => ?_
      repeat' (first | refine wy0 (h := ?_) | fail)
      refine awOps_nil (hK _ _ ?_)
      clear hK K
      refine aw_cond (by rfl) ?_ ?_
      · intro hc3
        try simp only [decide_eq_true_eq, decide_eq_false_iff_not] at hc3
        refine aw_region C (pb := false) rfl ?_
        repeat' (first | refine wy1 (a := by simp only [go_sem, ↓reduceIte, Nat.reduceEqDiff, reduceCtorEq, Nat.reduceAdd, Nat.reduceMul, Nat.reduceLeDiff, aLoad, aStore, idxC hx hi2]; exact rfl) (h := ?_) | fail)
        refine awOps_append (by rfl) (by rfl) (by rfl) (by rfl) (hacc.up (hi' := s1.nx) (Nat.le_refl _) fun j h1 h2 => upd_ne _ _ (by omega)) T22 rfl T42 rfl (by simp) (by simp [y42]) (k := 1) (new := (encC t[i]).map .sc) (by simp [aSrc, evA, get, upd, zerosA, encC, storeL, List.range, List.range.loop]) (by simp [encC]) (by omega) (by omega) (by have := hs1.1; omega) fun x6 ob6 hacc6 hlow6 _ => ?_
        repeat' (first | refine wy1 (a := by simp only [go_sem, ↓reduceIte, Nat.reduceEqDiff, reduceCtorEq, Nat.reduceAdd, Nat.reduceMul, Nat.reduceLeDiff, aLoad, aStore, idxC hx hi2]; exact rfl) (h := ?_) | fail)
        refine awOps_nil ?_
        try simp only [thenA_normal, thenA_ret, thenA_exit, blockA_normal, blockA_ret, blockA_exit]
        refine aw_region C (pb := false) rfl ?_
        repeat' (first | refine wy1 (a := by simp only [go_sem, ↓reduceIte, Nat.reduceEqDiff, reduceCtorEq, Nat.reduceAdd, Nat.reduceMul, Nat.reduceLeDiff, aLoad, aStore, wrap_small ((i : Int) + 1) (by omega) (by omega)]; exact rfl) (h := ?_) | fail)
        refine awOps_nil ?_
        try simp only [thenA_normal, thenA_ret, thenA_exit, blockA_normal, blockA_ret, blockA_exit]
        -- end of round 0 at 0t1f3t
        refine ⟨t.length - (i + 1), [(0, .av (.sc sx)), (1, .av (.sc x)), (5, (x6)), (6, vI (i + 1))], by omega, AllIn.less ⟨rfl, rfl, rfl, rfl, trivial⟩, i + 1, x6, out ++ [t[i]], rfl, rfl, ?_, ?_, ?_, ?_⟩
        · exact ⟨by have := hs1.1; first | omega | (dsimp only; omega), fun j hj => (hlow6 j hj).trans ((upd_ne _ _ (by have := hs1.1; omega)).trans (hs1.2.1 j hj)), hs1.2.2⟩
        · simp only [List.length_append, List.length_cons, List.length_nil]
          omega
        · simp only [List.length_append, List.length_cons, List.length_nil, List.flatMap_append, List.map_append, List.flatMap_cons, List.flatMap_nil, List.append_nil]
          exact hacc6.up (by first | omega | (dsimp only; omega)) fun _ _ _ => rfl
        · have hp : pieceG bs val t[i] = [t[i]] := by
            rw [pieceG, if_neg (by rw [hc1]; exact Bool.false_ne_true)]
          rw [← h3, hdrop, putG, hp]
      · intro hc3
        try simp only [decide_eq_true_eq, decide_eq_false_iff_not] at hc3
        exact absurd hc3 (by decide)
  · intro hc0
    try simp only [decide_eq_true_eq, decide_eq_false_iff_not] at hc0
    refine aw_exit ?_
    simp only [thenA_normal, thenA_ret, thenA_exit, blockA_normal, blockA_ret, blockA_exit, ↓reduceIte, Nat.reduceEqDiff]
    obtain ⟨ty, ob7, hpv7, hty, hacc7, hlow7, _⟩ := Acc.pure (enc := encC) (k := 3) (fun _ => rfl) hacc
    refine aw_pur 5 hpv7 ?_
    refine aw_region_seq C (pb := false) rfl fun K hK => ?_
    repeat' (first | refine wy0 (h := ?_) | fail)
    refine awOps_nil (hK _ _ ?_)
    clear hK K
    refine aw_ret ?_
    simp only [go_sem, ↓reduceIte, Nat.reduceEqDiff, reduceCtorEq, Nat.reduceAdd, Nat.reduceMul, Nat.reduceLeDiff, aLoad, aStore, FnQ, resA]
    -- 0f.x0.ret
    exact fun _ => ⟨rfl, fun j hj => (hlow7 j hj).trans (hs1.2.1 j hj), hs1.2.2, ty, rfl, by rw [List.drop_of_length_le (by omega), putG] at h3; exact h3 ▸ hty⟩
end Go.Am.Seat
/-
  MADE BY PROGRAM (am.py): the walks of functions 21.
-/
namespace Go.Am.Seat
open Go.Proofs

/-- A list of cells, or none if it is too long. -/
def fitR (l : List Cell) (r : Va) : Prop :=
  (200 < l.length ∧ r = .tup [.av (.sc .nilsl), vB false]) ∨ (l.length ≤ 200 ∧ ∃ y, r = .tup [.av (.sc y), vB true] ∧ GSl encC y l)

theorem bod21 : Try.f21.body = some (Try.f21.body.getD .skip) := rfl
theorem fn21 (L : Loops) (bs : List Bnd) (val : Bnd → List Cell) (t : List Cell) (s : Me) (sx x : Sc) (hsx : GSl encB sx bs) (hx : GSl encC x t) (hv : ∀ b ∈ bs, GSl encC b.t (val b) ∧ (val b).length ≤ 1000) (hb1 : bs.length ≤ 1000000000) (hl : t.length ≤ 1000000) : FnL Try.prog L 21 [.av (.sc sx), .av (.sc x)] s fun r s' => (fitR (putG bs val t []) r) ∧ s' = s := by
  refine FnL.pure (R := fun r => fitR (putG bs val t []) r) ?_
  refine fn_of_body (ts := [4, 5]) Try.func21 bod21 rfl (by simp) (by simp [Try.ntmps21]) fun D0 => ?_
  unfold Try.f21
  simp only [Option.getD_some, initSl]
  refine aw_region_seq C (pb := false) rfl fun K hK => ?_
  repeat' (first | refine wy0 (h := ?_) | fail)
  refine awOps_nil (hK _ _ ?_)
  clear hK K
  refine aw_region_seq C (pb := false) rfl fun K hK => ?_
  repeat' (first | refine wy0 (h := ?_) | fail)
  refine wc (And.intro Try.call57 (fn57 L bs val t _ sx x hsx hx hv hb1 hl)) ?_
  rintro _ _ ⟨⟨y, rfl, hy⟩, rfl⟩
  repeat' (first | refine wy0 (h := ?_) | fail)
  refine awOps_nil (hK _ _ ?_)
  clear hK K
  refine aw_seq ?_
  refine aw_region_seq C (pb := false) rfl fun K hK => ?_
  repeat' (first | refine wy1 (a := by simp only [go_sem, ↓reduceIte, Nat.reduceEqDiff, reduceCtorEq, Nat.reduceAdd, Nat.reduceMul, Nat.reduceLeDiff, aLoad, aStore, lenC hy]; exact rfl) (h := ?_) | fail)
  refine awOps_nil (hK _ _ ?_)
  clear hK K
  refine aw_cond (by rfl) ?_ ?_
  · intro hc0
    try simp only [decide_eq_true_eq, decide_eq_false_iff_not] at hc0
    refine aw_region_seq C (pb := false) rfl fun K hK => ?_
    repeat' (first | refine wy0 (h := ?_) | fail)
    refine awOps_nil (hK _ _ ?_)
    clear hK K
    refine aw_ret ?_
    try simp only [thenA_normal, thenA_ret, thenA_exit, blockA_normal, blockA_ret, blockA_exit]
    simp only [go_sem, ↓reduceIte, Nat.reduceEqDiff, reduceCtorEq, Nat.reduceAdd, Nat.reduceMul, Nat.reduceLeDiff, aLoad, aStore, FnQ, resA]
    -- 0t.ret
    exact fun _ => ⟨by first | rfl | trivial, by first | exact fun _ _ => rfl | trivial, by first | rfl | trivial, .inl ⟨by omega, rfl⟩⟩
  · intro hc0
    try simp only [decide_eq_true_eq, decide_eq_false_iff_not] at hc0
    refine aw_skip ?_
    simp only [thenA_normal, thenA_ret, thenA_exit, blockA_normal, blockA_ret, blockA_exit, ↓reduceIte, Nat.reduceEqDiff]
    refine aw_region_seq C (pb := false) rfl fun K hK => ?_
    repeat' (first | refine wy0 (h := ?_) | fail)
    refine awOps_nil (hK _ _ ?_)
    clear hK K
    refine aw_ret ?_
    simp only [go_sem, ↓reduceIte, Nat.reduceEqDiff, reduceCtorEq, Nat.reduceAdd, Nat.reduceMul, Nat.reduceLeDiff, aLoad, aStore, FnQ, resA]
    -- 0f.ret
    exact fun _ => ⟨by first | rfl | trivial, by first | exact fun _ _ => rfl | trivial, by first | rfl | trivial, .inr ⟨by omega, y, rfl, hy⟩⟩
end Go.Am.Seat
/-
  Am: that a drawn region's operations are ordered, shown by a row of masks (one number for each operation: what must be done ahead of it).
-/
namespace Go.Am
open Go.Proofs
def edgeMask (masks : List Nat) : List Edge → Nat
  | [] => 0
  | e :: l => if Region.binds .any e = true then ((1 <<< e.on) ||| masks.getD e.on 0) ||| edgeMask masks l else edgeMask masks l
def certGo (masks : List Nat) : List Oper → Nat → Bool
  | [], _ => true
  | o :: l, j => Nat.beq (masks.getD j 0) (edgeMask masks o.after.toList) && (o.after.toList.all fun e => !Region.binds .any e || Nat.ble (e.on + 1) j) && certGo masks l (j + 1)
def bitAt (masks : List Nat) (j i : Nat) : Bool := (masks.getD j 0).testBit i
def looksM (ops : Array Oper) (masks : List Nat) (j : Nat) : List Tmp → List (Option Tmp) → Nat → Option Tmp → Bool
  | _, [], _, _ => true
  | lk, none :: l, i, dj => looksM ops masks j lk l (i + 1) dj
  | lk, some d :: l, i, dj => (Nat.beq i j || ((!(lk.contains d) || (bif Nat.ble (i + 1) j then bitAt masks j i else bitAt masks i j)) && ((bif (dj == some d) then (bif Nat.ble (i + 1) j then bitAt masks j i else bitAt masks i j) else true)))) && looksM ops masks j lk l (i + 1) dj
def regGo (ops : Array Oper) (masks : List Nat) (ds : List (Option Tmp)) : List Oper → Nat → Bool
  | [], _ => true
  | o :: l, j => looksM ops masks j (o.looksAt ops) ds 0 o.dst && regGo ops masks ds l (j + 1)
def regM (ops : Array Oper) (masks : List Nat) : Bool := certGo masks ops.toList 0 && regGo ops masks (ops.toList.map (·.dst)) ops.toList 0
theorem edgeMask_bit {masks : List Nat} {i : Nat} : ∀ {l : List Edge}, (edgeMask masks l).testBit i = true → ∃ e ∈ l, Region.binds .any e = true ∧ (e.on = i ∨ (masks.getD e.on 0).testBit i = true)
  | [], h => by simp [edgeMask] at h
  | e :: l, h => by
    rw [edgeMask] at h
    split at h
    · rename_i hb
      rw [Nat.testBit_or, Nat.testBit_or, Bool.or_eq_true, Bool.or_eq_true] at h
      rcases h with (h | h) | h
      · rw [Nat.one_shiftLeft, Nat.testBit_two_pow, decide_eq_true_eq] at h
        exact ⟨e, by simp, hb, .inl h⟩
      · exact ⟨e, by simp, hb, .inr h⟩
      · obtain ⟨e', h1, h2⟩ := edgeMask_bit h
        exact ⟨e', by simp [h1], h2⟩
    · obtain ⟨e', h1, h2⟩ := edgeMask_bit h
      exact ⟨e', by simp [h1], h2⟩
theorem certGo_at {masks : List Nat} : ∀ {l : List Oper} {j k : Nat} {o : Oper}, certGo masks l j = true → l[k]? = some o → masks.getD (j + k) 0 = edgeMask masks o.after.toList ∧ ∀ e ∈ o.after.toList, Region.binds .any e = true → e.on < j + k
  | [], j, k, o, _, h => by simp at h
  | p :: l, j, 0, o, h, h1 => by
    simp only [List.getElem?_cons_zero, Option.some.injEq] at h1
    subst h1
    simp only [certGo, Bool.and_eq_true] at h
    refine ⟨Nat.eq_of_beq_eq_true h.1.1, fun e he hb => ?_⟩
    have := List.all_eq_true.1 h.1.2 e he
    rw [hb, Bool.not_true, Bool.false_or] at this
    have := Nat.le_of_ble_eq_true this
    omega
  | p :: l, j, k + 1, o, h, h1 => by
    simp only [List.getElem?_cons_succ] at h1
    simp only [certGo, Bool.and_eq_true] at h
    have := certGo_at h.2 h1
    rw [show j + 1 + k = j + (k + 1) by omega] at this
    exact this
theorem pre_bit {ops : Array Oper} {masks : List Nat} (h : certGo masks ops.toList 0 = true) : ∀ (f j i : Nat), j < f → j < ops.size → bitAt masks j i = true → pre ops f j i = true
  | 0, j, i, hj, _, _ => by omega
  | f + 1, j, i, hj, hs, hb => by
    have ho : ops.toList[j]? = some ops[j] := by rw [Array.getElem?_toList]; exact Array.getElem?_eq_getElem hs
    obtain ⟨h1, h2⟩ := certGo_at h ho
    rw [Nat.zero_add] at h1 h2
    rw [bitAt, h1] at hb
    obtain ⟨e, he, hbd, hc⟩ := edgeMask_bit hb
    have hlt := h2 e he hbd
    rw [pre, Array.getElem?_eq_getElem hs]
    dsimp only
    rw [Array.any_eq_true']
    refine ⟨e, by simpa using he, ?_⟩
    rw [hbd, Bool.true_and, Bool.or_eq_true, beq_iff_eq]
    rcases hc with hc | hc
    · exact .inl hc
    · exact .inr (pre_bit h f e.on i (by omega) (by omega) hc)
theorem looksM_at {ops : Array Oper} {masks : List Nat} {j : Nat} {lk : List Tmp} {dj : Option Tmp} : ∀ {l : List (Option Tmp)} {i k : Nat} {d : Tmp}, looksM ops masks j lk l i dj = true → l[k]? = some (some d) → (Nat.beq (i + k) j || ((!(lk.contains d) || (bif Nat.ble (i + k + 1) j then bitAt masks j (i + k) else bitAt masks (i + k) j)) && ((bif (dj == some d) then (bif Nat.ble (i + k + 1) j then bitAt masks j (i + k) else bitAt masks (i + k) j) else true)))) = true
  | [], i, k, d, _, h => by simp at h
  | none :: l, i, 0, d, _, h => by simp at h
  | some d' :: l, i, 0, d, h, h1 => by
    simp only [List.getElem?_cons_zero, Option.some.injEq] at h1
    subst h1
    rw [looksM, Bool.and_eq_true] at h
    exact h.1
  | none :: l, i, k + 1, d, h, h1 => by
    rw [looksM] at h
    have := looksM_at h (by simpa using h1)
    rwa [show i + 1 + k = i + (k + 1) by omega] at this
  | some d' :: l, i, k + 1, d, h, h1 => by
    rw [looksM, Bool.and_eq_true] at h
    have := looksM_at h.2 (by simpa using h1)
    rwa [show i + 1 + k = i + (k + 1) by omega] at this
theorem regGo_at {ops : Array Oper} {masks : List Nat} {ds : List (Option Tmp)} : ∀ {l : List Oper} {j k : Nat} {o : Oper}, regGo ops masks ds l j = true → l[k]? = some o → looksM ops masks (j + k) (o.looksAt ops) ds 0 o.dst = true
  | [], j, k, o, _, h => by simp at h
  | p :: l, j, 0, o, h, h1 => by
    simp only [List.getElem?_cons_zero, Option.some.injEq] at h1
    subst h1
    rw [regGo, Bool.and_eq_true] at h
    exact h.1
  | p :: l, j, k + 1, o, h, h1 => by
    rw [regGo, Bool.and_eq_true] at h
    have := regGo_at h.2 (by simpa using h1)
    rwa [show j + 1 + k = j + (k + 1) by omega] at this
theorem regOk_of {ops : Array Oper} {f : Nat} (masks : List Nat) (h : regM ops masks = true) (hf : ops.size = f) : regOk ops f = true := by
  rw [regM, Bool.and_eq_true] at h
  obtain ⟨hc, hr⟩ := h
  rw [regOk, List.all_eq_true]
  intro j hj
  have hj := List.mem_range.1 hj
  have ho : ops.toList[j]? = some ops[j] := by rw [Array.getElem?_toList]; exact Array.getElem?_eq_getElem hj
  have ho2 : ops[j]? = some ops[j] := Array.getElem?_eq_getElem hj
  have hlk := regGo_at hr ho
  rw [Nat.zero_add] at hlk
  rw [Bool.and_eq_true]
  constructor
  · rw [ho2]
    dsimp only
    rw [Array.all_eq_true']
    intro e he
    cases hb : Region.binds .any e
    · rfl
    · have := (certGo_at hc ho).2 e (by simpa using he) hb
      simp only [Bool.not_true, Bool.false_or, decide_eq_true_eq]
      omega
  · rw [List.all_eq_true]
    intro i hi
    have hi := List.mem_range.1 hi
    cases hd : dstOf ops i with
    | none => rfl
    | some d =>
      dsimp only
      have hdi : (ops.toList.map (·.dst))[i]? = some (some d) := by
        rw [List.getElem?_map, Array.getElem?_toList, Array.getElem?_eq_getElem hi]
        rw [dstOf, Array.getElem?_eq_getElem hi] at hd
        exact congrArg some hd
      have := looksM_at hlk hdi
      rw [Nat.zero_add] at this
      by_cases hij : i = j
      · simp [hij]
      · have hne : Nat.beq i j = false := by
          cases h : Nat.beq i j
          · rfl
          · exact absurd (Nat.eq_of_beq_eq_true h) hij
        have hne2 : (i == j) = false := by simpa using hij
        rw [hne, Bool.false_or, Bool.and_eq_true] at this
        rw [hne2, Bool.false_or, Bool.and_eq_true]
        have hl : looksOf ops j = ops[j].looksAt ops := by rw [looksOf, ho2]; rfl
        have hdj : dstOf ops j = ops[j].dst := by rw [dstOf, ho2]; rfl
        have key : (bif Nat.ble (i + 1) j then bitAt masks j i else bitAt masks i j) = true → (if i < j then pre ops f j i else pre ops f i j) = true := by
          intro h
          by_cases hlt : i < j
          · rw [if_pos hlt]
            rw [show Nat.ble (i + 1) j = true from Nat.ble_eq_true_of_le (by omega)] at h
            exact pre_bit hc f j i (by omega) hj h
          · rw [if_neg hlt]
            have : Nat.ble (i + 1) j = false := by
              cases h' : Nat.ble (i + 1) j
              · rfl
              · exact absurd (Nat.le_of_ble_eq_true h') (by omega)
            rw [this] at h
            exact pre_bit hc f i j (by omega) hi h
        rw [hl, hdj]
        constructor
        · rw [Bool.or_eq_true] at this ⊢
          exact this.1.imp id key
        · by_cases hdd : ops[j].dst = some d
          · rw [show (ops[j].dst == some d) = true from by rw [hdd]; exact beq_self_eq_true _] at this
            rw [Bool.or_eq_true]
            exact .inr (key this.2)
          · rw [Bool.or_eq_true]
            exact .inl (decide_eq_true hdd)
end Go.Am
/-
  MADE BY PROGRAM (am.py): the walks of functions 58.
-/
namespace Go.Am.Seat
open Go.Proofs

def ownB (v : Int) (t : List Cell) : Bool := match t with
  | [c] => (c.kind == 1) && (c.n == v)
  | _ => false
theorem one_lt (c : Cell) : 0 < [c].length := by simp

theorem bod58 : Try.f58.body = some (Try.f58.body.getD .skip) := rfl
theorem fn58a (L : Loops) (v : Int) (c : Cell) (s : Me) (x : Sc) (hx : GSl encC x [c]) : FnL Try.prog L 58 [vI v, .av (.sc x)] s fun r s' => (r = vB ((c.kind == 1) && (c.n == v))) ∧ s' = s := by
  refine FnL.pure (R := fun r => r = vB ((c.kind == 1) && (c.n == v))) ?_
  refine fn_of_body (ts := [4]) Try.func58 bod58 rfl (by simp) (by simp [Try.ntmps58]) fun D0 => ?_
  unfold Try.f58
  simp only [Option.getD_some, initSl]
  refine aw_region_seq C (pb := false) rfl fun K hK => ?_
  repeat' (first | refine wy0 (h := ?_) | fail)
  refine awOps_nil (hK _ _ ?_)
  clear hK K
  have e0 : aIndex T 22 (.av (.sc x)) (.av (.sc (.int .i64 0))) = some (.av (.sc (.cptr (.int .i64 c.kind :: .str c.name :: .int .i64 c.n :: ([c].drop (0 + 1)).flatMap encC)))) := idxC hx (i := 0) (one_lt c)
  refine aw_cut_seq C (pb := false) [(4, vB ((c.kind == 1) && (c.n == v)))] rfl ?_ fun n1 hn1 => ?_
  · cases hA0 : (c.kind == 1 : Bool) <;> cases hA1 : (c.n == v : Bool)
    all_goals (repeat' (first | refine wy1 (a := by simp only [go_sem, ↓reduceIte, Nat.reduceEqDiff, reduceCtorEq, Nat.reduceAdd, Nat.reduceMul, Nat.reduceLeDiff, aLoad, aStore, lenC hx, e0, List.getElem_cons_zero, List.length_cons, List.length_nil, Nat.zero_add, Int.natCast_one, beq_self_eq_true, hA0, hA1]; exact rfl) (h := ?_) | refine wn (h := ?_) | fail))
    all_goals (exact awOps_nil ⟨⟨rfl, trivial⟩, rfl, (by first | omega | (dsimp only; omega)), rfl⟩)
  refine aw_ret ?_
  simp only [go_sem, ↓reduceIte, Nat.reduceEqDiff, reduceCtorEq, Nat.reduceAdd, Nat.reduceMul, Nat.reduceLeDiff, aLoad, aStore, FnQ, resA]
  -- .ret
  exact fun _ => ⟨by first | rfl | trivial, by first | exact fun _ _ => rfl | trivial, by first | rfl | trivial, by first | rfl | trivial⟩
theorem fn58b (L : Loops) (v : Int) (t : List Cell) (s : Me) (x : Sc) (hx : GSl encC x t) (hne : ((t.length : Int) == 1) = false) : FnL Try.prog L 58 [vI v, .av (.sc x)] s fun r s' => (r = vB false) ∧ s' = s := by
  refine FnL.pure (R := fun r => r = vB false) ?_
  refine fn_of_body (ts := [4]) Try.func58 bod58 rfl (by simp) (by simp [Try.ntmps58]) fun D0 => ?_
  unfold Try.f58
  simp only [Option.getD_some, initSl]
  refine aw_region_seq C (pb := false) rfl fun K hK => ?_
  repeat' (first | refine wy0 (h := ?_) | fail)
  refine awOps_nil (hK _ _ ?_)
  clear hK K
  refine aw_cut_seq C (pb := false) [(4, vB false)] rfl ?_ fun n1 hn1 => ?_
  · skip
    all_goals (repeat' (first | refine wy1 (a := by simp only [go_sem, ↓reduceIte, Nat.reduceEqDiff, reduceCtorEq, Nat.reduceAdd, Nat.reduceMul, Nat.reduceLeDiff, aLoad, aStore, lenC hx, hne]; exact rfl) (h := ?_) | refine wn (h := ?_) | fail))
    all_goals (exact awOps_nil ⟨⟨rfl, trivial⟩, rfl, (by first | omega | (dsimp only; omega)), rfl⟩)
  refine aw_ret ?_
  simp only [go_sem, ↓reduceIte, Nat.reduceEqDiff, reduceCtorEq, Nat.reduceAdd, Nat.reduceMul, Nat.reduceLeDiff, aLoad, aStore, FnQ, resA]
  -- .ret
  exact fun _ => ⟨by first | rfl | trivial, by first | exact fun _ _ => rfl | trivial, by first | rfl | trivial, by first | rfl | trivial⟩
theorem fn58 (L : Loops) (v : Int) (t : List Cell) (s : Me) (x : Sc) (hx : GSl encC x t) : FnL Try.prog L 58 [vI v, .av (.sc x)] s fun r s' => (r = vB (ownB v t)) ∧ s' = s := by
  match t, hx with
  | [], hx => exact fn58b L v [] s x hx (by rfl)
  | [c], hx => exact fn58a L v c s x hx
  | a :: b :: l, hx => exact fn58b L v _ s x hx (by simp; omega)

end Go.Am.Seat
/-
  MADE BY PROGRAM (am.py): the walks of functions 22.
-/
namespace Go.Am.Seat
open Go.Proofs

theorem own_no {v : Int} {l : List Cell} (h : ∀ h : 0 < l.length, ¬ (l.length = 1 ∧ l[0].kind = 1 ∧ l[0].n = v)) : ¬ ownB v l = true := by
  intro ho
  unfold ownB at ho
  split at ho
  · rename_i c
    simp only [Bool.and_eq_true, beq_iff_eq] at ho
    exact h (by simp) ⟨rfl, ho.1, ho.2⟩
  · cases ho

theorem bod22 : Try.f22.body = some (Try.f22.body.getD .skip) := rfl
theorem fn22 (L : Loops) (bs : List (Int × List Cell)) (s : Me) (x : Sc) (hx : GSl encB x (bs.map bndI)) (hl : bs.length ≤ 1000000) (hr : RightB bs) : FnL Try.prog L 22 [.av (.sc x)] s fun r s' => (r = vB true) ∧ s' = s := by
  refine FnL.pure (R := fun r => r = vB true) ?_
  refine fn_of_body (ts := [2]) Try.func22 bod22 rfl (by simp) (by simp [Try.ntmps22]) fun D0 => ?_
  unfold Try.f22
  simp only [Option.getD_some, initSl]
  refine aw_region_seq C (pb := false) rfl fun K hK => ?_
  repeat' (first | refine wy0 (h := ?_) | fail)
  refine awOps_nil (hK _ _ ?_)
  clear hK K
  refine aw_seq ?_
  refine aw_region_seq C (pb := false) rfl fun K hK => ?_
  repeat' (first | refine wy0 (h := ?_) | fail)
  refine awOps_nil (hK _ _ ?_)
  clear hK K
  refine aw_block ?_
  refine AW.less (sl' := [(0, .av (.sc x)), (3, vI (0))]) (AllIn.less ⟨rfl, rfl, trivial⟩) (aw_loop (fun k sl1 s1 => ∃ (i : Nat), k = bs.length - i ∧ sl1 = [(0, .av (.sc x)), (3, vI (i))] ∧ (Kp s s1) ∧ (i ≤ bs.length)) (k := bs.length - (0)) ⟨0, rfl, rfl, (Kp.refl s).up (by omega), Nat.zero_le _⟩ ?_)
  rintro k1 _ s1 ⟨i, hk1, rfl, hs1, hb⟩
  refine aw_seq ?_
  refine aw_region_seq C (pb := false) rfl fun K hK => ?_
  repeat' (first | refine wy1 (a := by simp only [go_sem, ↓reduceIte, Nat.reduceEqDiff, reduceCtorEq, Nat.reduceAdd, Nat.reduceMul, Nat.reduceLeDiff, aLoad, aStore, lenB hx, List.length_map]; exact rfl) (h := ?_) | fail)
  refine awOps_nil (hK _ _ ?_)
  clear hK K
  refine aw_cond (by rfl) ?_ ?_
  · intro hc0
    try simp only [decide_eq_true_eq, decide_eq_false_iff_not] at hc0
    have hi2 : i < bs.length := by omega
    have hi3 : i < (bs.map bndI).length := by rw [List.length_map]; exact hi2
    obtain ⟨q1, q2, q3, q4, q5, q6, q7⟩ := hr.1 bs[i] (List.getElem_mem hi2)
    have hix : ∀ (j : Nat) (h : j < bs.length), aIndex T 25 (.av (.sc x)) (vI j) = some (.av (.sc (.cptr (.int .i64 bs[j].1 :: .sl bs[j].2.length (bs[j].2.flatMap encC) :: ((bs.map bndI).drop (j + 1)).flatMap encB)))) := fun j h => by
      have := idxB hx (i := j) (by rw [List.length_map]; exact h)
      rw [List.getElem_map] at this
      exact this
    have w1 : decide (bs[i].1 < 0) = false := decide_eq_false (by omega)
    have w2 : decide (bs[i].1 > 999) = false := decide_eq_false (by omega)
    have hrt : rightOk bs[i].2 = true := tm_right ⟨q6, q5, q3, q4⟩
    have h32 : ∀ s' : Me, FnL Try.prog L 32 [vC bs[i].2] s' fun r s'' => r = vB true ∧ s'' = s' := fun s' => (fn32 L bs[i].2 s' _ (gslC _) (by omega) fun c hc => by have := name_size (q5 c hc); omega).mono fun r s'' h => ⟨h.1.trans (congrArg vB hrt), h.2⟩
    have hown : ownB bs[i].1 bs[i].2 = false := by
      cases ho : ownB bs[i].1 bs[i].2
      · rfl
      · exact absurd ho (own_no q7)
    have h58 : ∀ s' : Me, FnL Try.prog L 58 [vI bs[i].1, vC bs[i].2] s' fun r s'' => r = vB false ∧ s'' = s' := fun s' => (fn58 L bs[i].1 bs[i].2 s' _ (gslC _)).mono fun r s'' h => ⟨h.1.trans (congrArg vB hown), h.2⟩
    refine aw_skip ?_
    simp only [thenA_normal, thenA_ret, thenA_exit, blockA_normal, blockA_ret, blockA_exit, ↓reduceIte, Nat.reduceEqDiff]
    refine aw_seq ?_
    refine aw_block ?_
    refine aw_silcut_seq C (pb := false) 54 _ [(0, .av (.sc x)), (3, vI i), (63, vB false)] rfl (regOk_of [0, 0, 3, 7, 15, 31, 63, 127, 127, 511, 1023, 2047, 4095, 8191, 16383, 32767, 65535, 131071, 262143, 262143, 786431, 2097151, 4194303, 8388607, 262143, 262143, 50593791, 117702655, 251920383, 536870911, 1073741823, 2147483647, 4294967295, 8589934591, 8589934591, 34359738367, 68719476735, 137438953471, 274877906943, 549755813887, 1099511627775, 2199023255551, 4398046511103, 4398046511103, 17592186044415, 35184372088831, 70368744177663, 4398046511103, 4398046511103, 426610511577087, 989560464998399, 2115460371841023, 4503599627370495, 9007199254740991] (by kernel_rfl) rfl) rfl (fun _ _ => rfl) ?_ ?_
    · rcases Nat.eq_zero_or_pos i with h0 | h0
      · have w3 : decide ((i : Int) > 0) = false := decide_eq_false (by omega)
        repeat' (first | refine ws1 (a := by simp only [go_sem, ↓reduceIte, Nat.reduceEqDiff, reduceCtorEq, Nat.reduceAdd, Nat.reduceMul, Nat.reduceLeDiff, aLoad, aStore, hix i hi2, w1, w2, w3]; exact rfl) (h := ?_) | refine wsn (h := ?_) | fail)
        try (first | refine wsc (And.intro Try.call32 (h32 _)) ?_ | refine wsn (h := ?_) | fail)
        repeat' (first | refine ws1 (a := by simp only [go_sem, ↓reduceIte, Nat.reduceEqDiff, reduceCtorEq, Nat.reduceAdd, Nat.reduceMul, Nat.reduceLeDiff, aLoad, aStore, hix i hi2, w1, w2, w3]; exact rfl) (h := ?_) | refine wsn (h := ?_) | fail)
        try (first | refine wsc (And.intro Try.call58 (h58 _)) ?_ | refine wsn (h := ?_) | fail)
        repeat' (first | refine ws1 (a := by simp only [go_sem, ↓reduceIte, Nat.reduceEqDiff, reduceCtorEq, Nat.reduceAdd, Nat.reduceMul, Nat.reduceLeDiff, aLoad, aStore, hix i hi2, w1, w2, w3]; exact rfl) (h := ?_) | fail)
        exact sil_nil ⟨rfl, rfl, rfl, trivial⟩
      · have w3 : decide ((i : Int) > 0) = true := decide_eq_true (by omega)
        have w4 : IntKind.i64.wrap ((i : Int) - 1) = (i : Int) - 1 := wrap_small _ (by omega) (by omega)
        have hlt : bs[i - 1].1 < bs[i].1 := List.pairwise_iff_getElem.1 hr.2 (i - 1) i (by omega) hi2 (by omega)
        have w5 : decide (bs[i - 1].1 ≥ bs[i].1) = false := decide_eq_false (by omega)
        have w6 := hix (i - 1) (by omega)
        rw [show ((i - 1 : Nat) : Int) = (i : Int) - 1 by omega, vI] at w6
        repeat' (first | refine ws1 (a := by simp only [go_sem, ↓reduceIte, Nat.reduceEqDiff, reduceCtorEq, Nat.reduceAdd, Nat.reduceMul, Nat.reduceLeDiff, aLoad, aStore, hix i hi2, w1, w2, w3, w4, w5, w6]; exact rfl) (h := ?_) | refine wsn (h := ?_) | fail)
        try (first | refine wsc (And.intro Try.call32 (h32 _)) ?_ | refine wsn (h := ?_) | fail)
        repeat' (first | refine ws1 (a := by simp only [go_sem, ↓reduceIte, Nat.reduceEqDiff, reduceCtorEq, Nat.reduceAdd, Nat.reduceMul, Nat.reduceLeDiff, aLoad, aStore, hix i hi2, w1, w2, w3, w4, w5, w6]; exact rfl) (h := ?_) | refine wsn (h := ?_) | fail)
        try (first | refine wsc (And.intro Try.call58 (h58 _)) ?_ | refine wsn (h := ?_) | fail)
        repeat' (first | refine ws1 (a := by simp only [go_sem, ↓reduceIte, Nat.reduceEqDiff, reduceCtorEq, Nat.reduceAdd, Nat.reduceMul, Nat.reduceLeDiff, aLoad, aStore, hix i hi2, w1, w2, w3, w4, w5, w6]; exact rfl) (h := ?_) | fail)
        exact sil_nil ⟨rfl, rfl, rfl, trivial⟩
    refine aw_cond (by rfl) ?_ ?_
    · intro hc1
      cases hc1
    · intro hc1
      refine aw_skip ?_
      simp only [thenA_normal, thenA_ret, thenA_exit, blockA_normal, blockA_ret, blockA_exit, ↓reduceIte, Nat.reduceEqDiff]
      refine aw_region C (pb := false) rfl ?_
      repeat' (first | refine wy1 (a := by simp only [go_sem, ↓reduceIte, Nat.reduceEqDiff, reduceCtorEq, Nat.reduceAdd, Nat.reduceMul, Nat.reduceLeDiff, aLoad, aStore, wrap_small ((i : Int) + 1) (by omega) (by omega)]; exact rfl) (h := ?_) | fail)
      refine awOps_nil ?_
      try simp only [thenA_normal, thenA_ret, thenA_exit, blockA_normal, blockA_ret, blockA_exit]
      -- end of round 0 at 0t1f
      refine ⟨bs.length - (i + 1), [(0, .av (.sc x)), (3, vI (i + 1))], by omega, AllIn.less ⟨rfl, rfl, trivial⟩, i + 1, rfl, rfl, ?_, ?_⟩
      · exact hs1.up (by omega)
      · omega
  · intro hc0
    try simp only [decide_eq_true_eq, decide_eq_false_iff_not] at hc0
    refine aw_exit ?_
    simp only [thenA_normal, thenA_ret, thenA_exit, blockA_normal, blockA_ret, blockA_exit, ↓reduceIte, Nat.reduceEqDiff]
    refine aw_region_seq C (pb := false) rfl fun K hK => ?_
    repeat' (first | refine wy0 (h := ?_) | fail)
    refine awOps_nil (hK _ _ ?_)
    clear hK K
    refine aw_ret ?_
    simp only [go_sem, ↓reduceIte, Nat.reduceEqDiff, reduceCtorEq, Nat.reduceAdd, Nat.reduceMul, Nat.reduceLeDiff, aLoad, aStore, FnQ, resA]
    -- 0f.x0.ret
    exact fun _ => ⟨by first | rfl | trivial, hs1.2.1, hs1.2.2, by first | rfl | trivial⟩
end Go.Am.Seat
/-
  MADE BY PROGRAM (am.py): the walks of functions 23.
-/
namespace Go.Am.Seat
open Go.Proofs

theorem fn59v (L : Loops) {l : List Bnd} {n v : Int} (hv : placeB l n 0 = v) (s : Me) (x : Sc) (hx : GSl encB x l) (hl : l.length ≤ 2199023255552) : FnL Try.prog L 59 [.av (.sc x), vI n] s fun r s' => r = vI v ∧ s' = s :=
  (fn59 L l n s x hx hl).mono fun r s' h => ⟨h.1.trans (congrArg vI hv), h.2⟩

theorem bod23 : Try.f23.body = some (Try.f23.body.getD .skip) := rfl
theorem fn23 (L : Loops) (bs : List (Int × List Cell)) (s : Me) (x : Sc) (hx : GSl encB x (bs.map bndI)) (hl : bs.length ≤ 1000000) (hlc : ∀ b ∈ bs, b.2.length ≤ 1000000) (hid : ∀ b ∈ bs, ∀ c ∈ b.2, c.kind = 1 → placeB (bs.map bndI) c.n 0 = -1) : FnL Try.prog L 23 [.av (.sc x)] s fun r s' => (r = vB true) ∧ s' = s := by
  refine FnL.pure (R := fun r => r = vB true) ?_
  refine fn_of_body (ts := [2]) Try.func23 bod23 rfl (by simp) (by simp [Try.ntmps23]) fun D0 => ?_
  unfold Try.f23
  simp only [Option.getD_some, initSl]
  refine aw_region_seq C (pb := false) rfl fun K hK => ?_
  repeat' (first | refine wy0 (h := ?_) | fail)
  refine awOps_nil (hK _ _ ?_)
  clear hK K
  refine aw_seq ?_
  refine aw_region_seq C (pb := false) rfl fun K hK => ?_
  repeat' (first | refine wy0 (h := ?_) | fail)
  refine awOps_nil (hK _ _ ?_)
  clear hK K
  refine aw_block ?_
  refine AW.less (sl' := [(0, .av (.sc x)), (3, vI (0))]) (AllIn.less ⟨rfl, rfl, trivial⟩) (aw_loop (fun k sl1 s1 => ∃ (i : Nat), k = bs.length - i ∧ sl1 = [(0, .av (.sc x)), (3, vI (i))] ∧ (Kp s s1) ∧ (i ≤ bs.length)) (k := bs.length - (0)) ⟨0, rfl, rfl, (Kp.refl s).up (by omega), Nat.zero_le _⟩ ?_)
  rintro k1 _ s1 ⟨i, hk1, rfl, hs1, hb⟩
  refine aw_seq ?_
  refine aw_region_seq C (pb := false) rfl fun K hK => ?_
  repeat' (first | refine wy1 (a := by simp only [go_sem, ↓reduceIte, Nat.reduceEqDiff, reduceCtorEq, Nat.reduceAdd, Nat.reduceMul, Nat.reduceLeDiff, aLoad, aStore, lenB hx, List.length_map]; exact rfl) (h := ?_) | fail)
  refine awOps_nil (hK _ _ ?_)
  clear hK K
  refine aw_cond (by rfl) ?_ ?_
  · intro hc0
    try simp only [decide_eq_true_eq, decide_eq_false_iff_not] at hc0
    have hi2 : i < bs.length := by omega
    have hix : aIndex T 25 (.av (.sc x)) (vI i) = some (.av (.sc (.cptr (.int .i64 bs[i].1 :: .sl bs[i].2.length (bs[i].2.flatMap encC) :: ((bs.map bndI).drop (i + 1)).flatMap encB)))) := by
      have := idxB hx (i := i) (by rw [List.length_map]; exact hi2)
      rw [List.getElem_map] at this
      exact this
    have hlb := hlc bs[i] (List.getElem_mem hi2)
    refine aw_skip ?_
    simp only [thenA_normal, thenA_ret, thenA_exit, blockA_normal, blockA_ret, blockA_exit, ↓reduceIte, Nat.reduceEqDiff]
    refine aw_seq ?_
    refine aw_block ?_
    refine aw_region_seq C (pb := false) rfl fun K hK => ?_
    repeat' (first | refine wy0 (h := ?_) | fail)
    refine awOps_nil (hK _ _ ?_)
    clear hK K
    refine aw_block ?_
    refine AW.less (sl' := [(0, .av (.sc x)), (3, vI i), (4, vI (0))]) (AllIn.less ⟨rfl, rfl, rfl, trivial⟩) (aw_loop (fun k sl1 s1 => ∃ (m : Nat), k = bs[i].2.length - m ∧ sl1 = [(0, .av (.sc x)), (3, vI i), (4, vI (m))] ∧ (Kp s s1) ∧ (m ≤ bs[i].2.length)) (k := bs[i].2.length - (0)) ⟨0, rfl, rfl, hs1.up (by omega), Nat.zero_le _⟩ ?_)
    rintro k2 _ s2 ⟨m, hk2, rfl, hs2, hb2⟩
    refine aw_seq ?_
    refine aw_region_seq C (pb := false) rfl fun K hK => ?_
    repeat' (first | refine wy1 (a := by simp only [go_sem, ↓reduceIte, Nat.reduceEqDiff, reduceCtorEq, Nat.reduceAdd, Nat.reduceMul, Nat.reduceLeDiff, aLoad, aStore, hix, lenC (gslC bs[i].2)]; exact rfl) (h := ?_) | fail)
    refine awOps_nil (hK _ _ ?_)
    clear hK K
    refine aw_cond (by rfl) ?_ ?_
    · intro hc1
      try simp only [decide_eq_true_eq, decide_eq_false_iff_not] at hc1
      have hm2 : m < bs[i].2.length := by omega
      have hck := hid bs[i] (List.getElem_mem hi2) bs[i].2[m] (List.getElem_mem hm2)
      refine aw_skip ?_
      simp only [thenA_normal, thenA_ret, thenA_exit, blockA_normal, blockA_ret, blockA_exit, ↓reduceIte, Nat.reduceEqDiff]
      refine aw_seq ?_
      refine aw_block ?_
      refine aw_region_seq C (pb := false) rfl fun K hK => ?_
      repeat' (first | refine wy1 (a := by simp only [go_sem, ↓reduceIte, Nat.reduceEqDiff, reduceCtorEq, Nat.reduceAdd, Nat.reduceMul, Nat.reduceLeDiff, aLoad, aStore, hix, idxC (gslC bs[i].2) hm2]; exact rfl) (h := ?_) | refine wz1 (a := by simp only [go_sem, ↓reduceIte, Nat.reduceEqDiff, reduceCtorEq, Nat.reduceAdd, Nat.reduceMul, Nat.reduceLeDiff, aLoad, aStore, hix, idxC (gslC bs[i].2) hm2]; exact rfl) (h := ?_) | fail)
      refine awOps_nil (hK _ _ ?_)
      refine AW.less (sl' := [(0, .av (.sc x)), (3, vI i), (4, vI m), (5, .av (.ptr (s2.nx + 16) 0))]) (AllIn.less ⟨rfl, rfl, rfl, rfl, trivial⟩) ?_
      refine aw_state (J := fun s7 => Kp s s7 ∧ s7.ob (s2.nx + 16) = .cs [.sc (.int .i64 bs[i].2[m].kind), .sc (.str bs[i].2[m].name), .sc (.int .i64 bs[i].2[m].n)] 0) ⟨⟨by have := hs2.1; exact (by first | omega | (dsimp only; omega) | (dsimp only at *; omega)), fun j hj => (upd_ne _ _ (by have := hs2.1; omega)).trans ((upd_ne _ _ (by have := hs2.1; omega)).trans (hs2.2.1 j hj)), hs2.2.2⟩, upd_same _ _ _⟩ fun s7 hJ7 => ?_
      obtain ⟨hK7, hc8⟩ := hJ7
      clear hK K
      refine aw_cut_seq C (pb := false) [(0, .av (.sc x)), (3, vI i), (4, vI m), (39, vB false)] rfl ?_ fun n8 hn8 => ?_
      · by_cases hkd : bs[i].2[m].kind = 1
        · have w1 : (bs[i].2[m].kind == 1) = true := beq_iff_eq.2 hkd
          have w2 := hck hkd
          have w3 : decide ((-1 : Int) ≥ 0) = false := rfl
          repeat' (first | refine wy1 (a := by simp only [go_sem, ↓reduceIte, Nat.reduceEqDiff, reduceCtorEq, Nat.reduceAdd, Nat.reduceMul, Nat.reduceLeDiff, aLoad, aStore, hc8, w1, w2, w3]; exact rfl) (h := ?_) | refine wn (h := ?_) | fail)
          try (first | (refine wc (And.intro Try.call59 (fn59v L (hck hkd) _ x hx (by rw [List.length_map]; omega))) ?_; rintro _ _ ⟨rfl, rfl⟩) | refine wn (h := ?_) | fail)
          repeat' (first | refine wy1 (a := by simp only [go_sem, ↓reduceIte, Nat.reduceEqDiff, reduceCtorEq, Nat.reduceAdd, Nat.reduceMul, Nat.reduceLeDiff, aLoad, aStore, hc8, w1, w2, w3]; exact rfl) (h := ?_) | refine wn (h := ?_) | fail)
          exact awOps_nil ⟨⟨rfl, rfl, rfl, rfl, trivial⟩, rfl, (by first | omega | (dsimp only; omega)), rfl⟩
        · have w1 : (bs[i].2[m].kind == 1) = false := beq_eq_false_iff_ne.2 hkd
          repeat' (first | refine wy1 (a := by simp only [go_sem, ↓reduceIte, Nat.reduceEqDiff, reduceCtorEq, Nat.reduceAdd, Nat.reduceMul, Nat.reduceLeDiff, aLoad, aStore, hc8, w1]; exact rfl) (h := ?_) | refine wn (h := ?_) | fail)
          try (first | (refine wc (And.intro Try.call59 (fn59v L (hck hkd) _ x hx (by rw [List.length_map]; omega))) ?_; rintro _ _ ⟨rfl, rfl⟩) | refine wn (h := ?_) | fail)
          repeat' (first | refine wy1 (a := by simp only [go_sem, ↓reduceIte, Nat.reduceEqDiff, reduceCtorEq, Nat.reduceAdd, Nat.reduceMul, Nat.reduceLeDiff, aLoad, aStore, hc8, w1]; exact rfl) (h := ?_) | refine wn (h := ?_) | fail)
          exact awOps_nil ⟨⟨rfl, rfl, rfl, rfl, trivial⟩, rfl, (by first | omega | (dsimp only; omega)), rfl⟩
      refine aw_cond (by rfl) ?_ ?_
      · intro hc2
        cases hc2
      · intro hc2
        refine aw_skip ?_
        simp only [thenA_normal, thenA_ret, thenA_exit, blockA_normal, blockA_ret, blockA_exit, ↓reduceIte, Nat.reduceEqDiff]
        refine aw_region C (pb := false) rfl ?_
        repeat' (first | refine wy1 (a := by simp only [go_sem, ↓reduceIte, Nat.reduceEqDiff, reduceCtorEq, Nat.reduceAdd, Nat.reduceMul, Nat.reduceLeDiff, aLoad, aStore, wrap_small ((m : Int) + 1) (by omega) (by omega)]; exact rfl) (h := ?_) | fail)
        refine awOps_nil ?_
        try simp only [thenA_normal, thenA_ret, thenA_exit, blockA_normal, blockA_ret, blockA_exit]
        -- end of round 1 at 0t1t2f
        refine ⟨bs[i].2.length - (m + 1), [(0, .av (.sc x)), (3, vI i), (4, vI (m + 1))], by omega, AllIn.less ⟨rfl, rfl, rfl, trivial⟩, m + 1, rfl, rfl, ?_, ?_⟩
        · exact hK7.up (by omega)
        · omega
    · intro hc1
      try simp only [decide_eq_true_eq, decide_eq_false_iff_not] at hc1
      refine aw_exit ?_
      simp only [thenA_normal, thenA_ret, thenA_exit, blockA_normal, blockA_ret, blockA_exit, ↓reduceIte, Nat.reduceEqDiff]
      refine aw_region C (pb := false) rfl ?_
      repeat' (first | refine wy1 (a := by simp only [go_sem, ↓reduceIte, Nat.reduceEqDiff, reduceCtorEq, Nat.reduceAdd, Nat.reduceMul, Nat.reduceLeDiff, aLoad, aStore, wrap_small ((i : Int) + 1) (by omega) (by omega)]; exact rfl) (h := ?_) | fail)
      refine awOps_nil ?_
      try simp only [thenA_normal, thenA_ret, thenA_exit, blockA_normal, blockA_ret, blockA_exit]
      -- end of round 0 at 0t1f.x2
      refine ⟨bs.length - (i + 1), [(0, .av (.sc x)), (3, vI (i + 1))], by omega, AllIn.less ⟨rfl, rfl, trivial⟩, i + 1, rfl, rfl, ?_, ?_⟩
      · exact hs2.up (by omega)
      · omega
  · intro hc0
    try simp only [decide_eq_true_eq, decide_eq_false_iff_not] at hc0
    refine aw_exit ?_
    simp only [thenA_normal, thenA_ret, thenA_exit, blockA_normal, blockA_ret, blockA_exit, ↓reduceIte, Nat.reduceEqDiff]
    refine aw_region_seq C (pb := false) rfl fun K hK => ?_
    repeat' (first | refine wy0 (h := ?_) | fail)
    refine awOps_nil (hK _ _ ?_)
    clear hK K
    refine aw_ret ?_
    simp only [go_sem, ↓reduceIte, Nat.reduceEqDiff, reduceCtorEq, Nat.reduceAdd, Nat.reduceMul, Nat.reduceLeDiff, aLoad, aStore, FnQ, resA]
    -- 0f.x0.ret
    exact fun _ => ⟨by first | rfl | trivial, hs1.2.1, hs1.2.2, by first | rfl | trivial⟩
end Go.Am.Seat
/-
  BINDINGS put in: R2.Apply, R2.Right and R2.Idem at what Mgu tells; matching is complete; one way.
-/
namespace Go.Am.Seat
open Go.Proofs
/-- What bindings put for a variable. -/
def bmap (bs : List (Int × List Cell)) (n : Int) : List Cell := match bs.find? (fun b => b.1 == n) with
  | some b => b.2
  | none => [varCell n]
theorem appT_congr {s u : Int → List Cell} : ∀ {l : List Cell}, (∀ c ∈ l, c.kind = 1 → s c.n = u c.n) → appT s l = appT u l
  | [], _ => rfl
  | c :: l, h => by
    have e0 : ∀ s : Int → List Cell, appT s (c :: l) = (if c.kind = 1 then s c.n else [c]) ++ appT s l := fun s => by simp [appT]
    rw [e0, e0, appT_congr fun d hd => h d (by simp [hd])]
    split
    · rename_i hk; rw [h c (by simp) hk]
    · rfl
theorem pieceG_eq {bs : List (Int × List Cell)} {c : Cell} (hc : cellOk c = true) : pieceG (bs.map bndI) (fun b => valT b.t) c = if c.kind = 1 then bmap bs c.n else [c] := by
  unfold pieceG bmap
  by_cases hk : c.kind = 1
  · rw [if_pos (beq_iff_eq.2 hk), if_pos hk, List.find?_map]
    have : ((fun b : Bnd => b.v == c.n) ∘ bndI) = fun b : Int × List Cell => b.1 == c.n := rfl
    rw [this]
    cases bs.find? fun b => b.1 == c.n with
    | none => dsimp only [Option.map_none]; rw [← ok_varCell hc hk]
    | some b => dsimp only [Option.map_some]; exact valT_eq (bndI_t b)
  · rw [if_neg (by rw [beq_iff_eq]; exact hk), if_neg hk]
theorem putG_eq {bs : List (Int × List Cell)} : ∀ {l out : List Cell}, (∀ c ∈ l, cellOk c = true) → putG (bs.map bndI) (fun b => valT b.t) l out = out ++ appT (bmap bs) l
  | [], out, _ => by simp [putG, appT]
  | c :: l, out, h => by
    have e0 : appT (bmap bs) (c :: l) = (if c.kind = 1 then bmap bs c.n else [c]) ++ appT (bmap bs) l := by simp [appT]
    rw [putG, putG_eq fun d hd => h d (by simp [hd]), pieceG_eq (h c (by simp)), e0, List.append_assoc]
theorem fnApply (L : Loops) (bs : List (Int × List Cell)) (t : List Cell) (s : Me) (sx x : Sc) (hsx : GSl encB sx (bs.map bndI)) (hx : GSl encC x t) (hb : bs.length ≤ 1000000) (hc : ∀ b ∈ bs, b.2.length ≤ 1000) (ht : ∀ c ∈ t, cellOk c = true) (hl : t.length ≤ 1000000) : FnL Try.prog L 21 [.av (.sc sx), .av (.sc x)] s fun r s' => fitR (appT (bmap bs) t) r ∧ s' = s := by
  refine (fn21 L (bs.map bndI) (fun b => valT b.t) t s sx x hsx hx (fun b h => ?_) (by rw [List.length_map]; omega) hl).mono fun r s' ⟨h1, h2⟩ => ⟨?_, h2⟩
  · obtain ⟨d, hd, rfl⟩ := List.mem_map.1 h
    have := bndI_t d
    rw [valT_eq this]
    exact ⟨this, hc d hd⟩
  · rw [putG_eq ht, List.nil_append] at h1
    exact h1
theorem fnApplyV (L : Loops) {bs : List (Int × List Cell)} {t v : List Cell} (hv : appT (bmap bs) t = v) (hl : 1 ≤ v.length ∧ v.length ≤ 200) (s : Me) (sx x : Sc) (hsx : GSl encB sx (bs.map bndI)) (hx : GSl encC x t) (hb : bs.length ≤ 1000000) (hc : ∀ b ∈ bs, b.2.length ≤ 1000) (ht : RTm t) : FnL Try.prog L 21 [.av (.sc sx), .av (.sc x)] s fun r s' => r = .tup [vC v, vB true] ∧ s' = s := by
  have := ht.len
  refine (fnApply L bs t s sx x hsx hx hb hc ht.ok (by omega)).mono fun r s' ⟨h1, h2⟩ => ⟨?_, h2⟩
  rw [hv] at h1
  rcases h1 with ⟨h, _⟩ | ⟨_, y, h, hy⟩
  · omega
  · rw [h, gsl_cells hy hl.1]
theorem fnApplyN (L : Loops) {bs : List (Int × List Cell)} {t v : List Cell} (hv : appT (bmap bs) t = v) (hl : 200 < v.length) (s : Me) (sx x : Sc) (hsx : GSl encB sx (bs.map bndI)) (hx : GSl encC x t) (hb : bs.length ≤ 1000000) (hc : ∀ b ∈ bs, b.2.length ≤ 1000) (ht : RTm t) : FnL Try.prog L 21 [.av (.sc sx), .av (.sc x)] s fun r s' => r = .tup [.av (.sc .nilsl), vB false] ∧ s' = s := by
  have := ht.len
  refine (fnApply L bs t s sx x hsx hx hb hc ht.ok (by omega)).mono fun r s' ⟨h1, h2⟩ => ⟨?_, h2⟩
  rw [hv] at h1
  rcases h1 with ⟨_, h⟩ | ⟨h, _⟩
  · exact h
  · omega
theorem fnSameC (L : Loops) {a b : List Cell} {v : Bool} (hv : sameL a b = v) (s : Me) (x y : Sc) (hx : GSl encC x a) (hy : GSl encC y b) (hl : a.length ≤ 1000000) : FnL Try.prog L 20 [.av (.sc x), .av (.sc y)] s fun r s' => r = vB v ∧ s' = s :=
  (fn20 L a b s x y hx hy (by omega)).mono fun r s' h => ⟨h.1.trans (congrArg vB hv), h.2⟩
/-! ### What Mgu tells, as bindings -/
theorem bmap_bnds (s : Int → List Cell) (n : Int) : ∀ ns : List Nat, bmap ((ns.filterMap (bnd s)).map toI) n = if ∃ m ∈ ns, (m : Int) = n then s n else [varCell n]
  | [] => by simp [bmap]
  | m :: ns => by
    have ih := bmap_bnds s n ns
    rw [List.filterMap_cons, bnd]
    by_cases e : s m = [varCell m]
    · rw [if_pos e]
      dsimp only
      rw [ih]
      by_cases hm : (m : Int) = n
      · rw [if_pos (⟨m, by simp, hm⟩ : ∃ k ∈ m :: ns, (k : Int) = n)]
        split
        · rfl
        · rw [← hm, e]
      · by_cases h : ∃ k ∈ ns, (k : Int) = n
        · obtain ⟨k, h1, h2⟩ := h
          rw [if_pos ⟨k, h1, h2⟩, if_pos ⟨k, by simp [h1], h2⟩]
        · rw [if_neg h, if_neg]
          rintro ⟨k, h1, h2⟩
          rcases List.mem_cons.1 h1 with rfl | h1
          · exact hm h2
          · exact h ⟨k, h1, h2⟩
    · rw [if_neg e]
      dsimp only
      by_cases hm : (m : Int) = n
      · rw [if_pos (⟨m, by simp, hm⟩ : ∃ k ∈ m :: ns, (k : Int) = n), ← hm]
        simp [bmap, toI]
      · have hb : bmap (List.map toI ((m, s m) :: List.filterMap (bnd s) ns)) n = bmap ((ns.filterMap (bnd s)).map toI) n := by
          rw [List.map_cons, bmap, bmap, List.find?_cons_of_neg (by simp only [toI, beq_iff_eq]; exact hm)]
        rw [hb, ih]
        by_cases h : ∃ k ∈ ns, (k : Int) = n
        · obtain ⟨k, h1, h2⟩ := h
          rw [if_pos ⟨k, h1, h2⟩, if_pos ⟨k, by simp [h1], h2⟩]
        · rw [if_neg h, if_neg]
          rintro ⟨k, h1, h2⟩
          rcases List.mem_cons.1 h1 with rfl | h1
          · exact hm h2
          · exact h ⟨k, h1, h2⟩
theorem occ_range {t : List Cell} (hok : ∀ c ∈ t, cellOk c = true) {n : Int} (h : occ t n) : 0 ≤ n ∧ n ≤ 999 := by
  obtain ⟨c, hc, h1, h2⟩ := h
  have := (ok_var (hok c hc) h1).2
  omega
theorem ok_two {a b : List Cell} (ha : RTm a) (hb : RTm b) : ∀ c ∈ a ++ b, cellOk c = true := fun c hc => (List.mem_append.1 hc).elim (ha.ok c) (hb.ok c)
/-- What is told is small. -/
def small (s : Int → List Cell) : Prop := ∀ n : Nat, n < 1000 → (s n).length ≤ 200
theorem small_iff (s : Int → List Cell) : (List.range 1000).any (fun n => decide (200 < (s (n : Nat)).length)) = true ↔ ¬ small s := by
  rw [List.any_eq_true]
  constructor
  · rintro ⟨n, h1, h2⟩ h
    have := h n (List.mem_range.1 h1)
    have := of_decide_eq_true h2
    omega
  · intro h
    refine Classical.byContradiction fun k => h fun n hn => ?_
    rcases Nat.lt_or_ge 200 (s (n : Nat)).length with h1 | h1
    · exact absurd ⟨n, List.mem_range.2 hn, decide_eq_true h1⟩ k
    · exact h1
/-- The bindings of a normal one. -/
def bnds (s : Int → List Cell) : List (Nat × List Cell) := (List.range 1000).filterMap (bnd s)
theorem mguO_small {s : Int → List Cell} (h : small s) : mguO s = (bnds s, 0) := by
  rw [mguO, if_neg]
  · rfl
  · rw [small_iff]; exact fun k => k h
theorem mguO_big {s : Int → List Cell} (h : ¬ small s) : mguO s = ([], 2) := by
  rw [mguO, if_pos]
  rw [small_iff]; exact h
theorem mgu_norm {a b : List Cell} (ha : RTm a) (hb : RTm b) {s : Int → List Cell} (h : NormO a b s) : mgu a b = mguO s := by
  rcases mgu_cases ha hb with ⟨h1, h2⟩ | ⟨u, h1, h2⟩
  · exact absurd h.eq (h2 s h.tm)
  · rw [h2, h1.toNorm.uniq h.toNorm]
theorem bmap_norm {a b : List Cell} (ha : RTm a) (hb : RTm b) {s : Int → List Cell} (h : NormO a b s) : bmap ((bnds s).map toI) = s := by
  funext n
  rw [bnds, bmap_bnds]
  split
  · rfl
  · rename_i h1
    refine (h.out n fun k => h1 ?_).symm
    have := occ_range (ok_two ha hb) k
    exact ⟨n.toNat, List.mem_range.2 (by omega), by omega⟩
theorem bnds_mem {s : Int → List Cell} {p : Int × List Cell} : p ∈ (bnds s).map toI ↔ ∃ n : Nat, n < 1000 ∧ p = ((n : Int), s n) ∧ s n ≠ [varCell n] := by
  rw [List.mem_map]
  constructor
  · rintro ⟨q, h1, rfl⟩
    obtain ⟨n, h2, h3⟩ := List.mem_filterMap.1 h1
    rw [bnd] at h3
    split at h3
    · cases h3
    · rename_i h4
      simp only [Option.some.injEq] at h3
      subst h3
      exact ⟨n, List.mem_range.1 h2, rfl, h4⟩
  · rintro ⟨n, h1, rfl, h2⟩
    exact ⟨(n, s n), List.mem_filterMap.2 ⟨n, List.mem_range.2 h1, by rw [bnd, if_neg h2]⟩, rfl⟩
theorem bnds_lt (s : Int → List Cell) : ((bnds s).map toI).Pairwise fun a b => a.1 < b.1 := by
  rw [List.pairwise_map, bnds, List.pairwise_filterMap]
  refine List.pairwise_lt_range.imp fun {n m} h p hp q hq => ?_
  have key : ∀ {n : Nat} {p : Nat × List Cell}, bnd s n = some p → p.1 = n := by
    intro n p hp
    rw [bnd] at hp
    split at hp
    · cases hp
    · simp only [Option.some.injEq] at hp
      rw [← hp]
  have h1 := key hp
  have h2 := key hq
  simp only [toI]
  omega
theorem bnds_right {a b : List Cell} (ha : RTm a) (hb : RTm b) {s : Int → List Cell} (h : NormO a b s) (hs : small s) : RightB ((bnds s).map toI) := by
  refine ⟨fun p hp => ?_, bnds_lt s⟩
  obtain ⟨n, hn, rfl, hne⟩ := bnds_mem.1 hp
  have ho : occ (a ++ b) n := Classical.byContradiction fun k => hne (h.out n k)
  refine ⟨by dsimp only; omega, by dsimp only; omega, h.tm.pos n, hs n hn, fun c hc => (h.ok n ho c hc).1, h.tm n, fun h0 ⟨h1, h2, h3⟩ => hne ?_⟩
  dsimp only at h0 h1 h2 h3
  obtain ⟨x, hx⟩ := List.length_eq_one_iff.1 h1
  have hc := h.vc n x (by rw [hx]; simp)
  simp only [hx, List.getElem_cons_zero] at h2 h3
  rw [hx, hc h2, h3]
theorem bnds_idem {a b : List Cell} (ha : RTm a) (hb : RTm b) {s : Int → List Cell} (h : NormO a b s) : ∀ p ∈ (bnds s).map toI, ∀ c ∈ p.2, c.kind = 1 → placeB (((bnds s).map toI).map bndI) c.n 0 = -1 := by
  intro p hp c hc hk
  obtain ⟨n, hn, rfl, hne⟩ := bnds_mem.1 hp
  dsimp only at hc
  have h1 := appT_fix h.tm (h.toNorm.idem n) c hc hk
  have hcv := h.vc n c hc hk
  rcases placeB_spec (((bnds s).map toI).map bndI) c.n 0 with ⟨h2, _⟩ | ⟨i, hi, _, h2⟩
  · exact h2
  · have hm := List.mem_of_find?_eq_some h2
    have hv := List.find?_some h2
    obtain ⟨q, hq, hqe⟩ := List.mem_map.1 hm
    obtain ⟨m, hm2, rfl, hne2⟩ := bnds_mem.1 hq
    rw [← hqe] at hv
    simp only [bndI, beq_iff_eq] at hv
    refine absurd ?_ hne2
    rw [hv, h1, ← hcv]
theorem bnds_len {s : Int → List Cell} (hs : small s) : ((bnds s).map toI).length ≤ 1000 ∧ ∀ p ∈ (bnds s).map toI, p.2.length ≤ 200 := by
  refine ⟨by rw [List.length_map]; exact Nat.le_trans (List.length_filterMap_le _ _) (by simp), fun p hp => ?_⟩
  obtain ⟨n, hn, rfl, _⟩ := bnds_mem.1 hp
  exact hs n hn
/-! ### Matching -/
theorem appT_inj {s u : Int → List Cell} (hs : Terms s) (hu : Terms u) : ∀ {l : List Cell} {r r' : List Cell}, appT s l ++ r = appT u l ++ r' → ∀ c ∈ l, c.kind = 1 → s c.n = u c.n
  | [], _, _, _, c, hc, _ => by simp at hc
  | d :: l, r, r', h, c, hc, hk => by
    have e0 : ∀ s : Int → List Cell, appT s (d :: l) = (if d.kind = 1 then s d.n else [d]) ++ appT s l := fun s => by simp [appT]
    rw [e0, e0, List.append_assoc, List.append_assoc] at h
    by_cases hd : d.kind = 1
    · rw [if_pos hd, if_pos hd] at h
      have h1 := takes_app (r := appT s l ++ r) (hs d.n)
      rw [h, takes_app (r := appT u l ++ r') (hu d.n)] at h1
      obtain ⟨e1, e2⟩ := List.append_inj h (Option.some.inj h1).symm
      rcases List.mem_cons.1 hc with rfl | hc
      · exact e1
      · exact appT_inj hs hu e2 c hc hk
    · rw [if_neg hd, if_neg hd] at h
      rcases List.mem_cons.1 hc with rfl | hc
      · exact absurd hk hd
      · exact appT_inj hs hu (List.cons.inj h).2 c hc hk
theorem matG_complete {b : List Cell} {u : Int → List Cell} (hu : Terms u) : ∀ {l : List Cell} {k : Nat} {r : List Cell} {M : Int → Option (List Cell)}, b.drop k = appT u l ++ r → (∀ n t, M n = some t → t = u n) → ∃ M', matG b l k M = some M'
  | [], k, r, M, _, _ => ⟨M, rfl⟩
  | c :: l, k, r, M, h, hM => by
    have e0 : appT u (c :: l) = (if c.kind = 1 then u c.n else [c]) ++ appT u l := by simp [appT]
    rw [e0, List.append_assoc] at h
    have hp : 1 ≤ (if c.kind = 1 then u c.n else [c]).length := by
      split
      · exact hu.pos _
      · simp
    have hk : k < b.length := by
      have := congrArg List.length h
      rw [List.length_append, List.length_drop] at this
      omega
    rw [matG, List.getElem?_eq_getElem hk]
    dsimp only
    by_cases hc : c.kind = 1
    · rw [if_pos hc] at h ⊢
      have ht : takes (b.drop k) 1 = some (u c.n).length := by rw [h]; exact takes_app (hu c.n)
      rw [ht]
      dsimp only
      have hsl : (b.take (k + (u c.n).length)).drop k = u c.n := by rw [slice_take, h, List.take_left]
      rw [hsl]
      have hd : b.drop (k + (u c.n).length) = appT u l ++ r := by rw [← List.drop_drop, h, List.drop_left]
      have hM' : ∀ n t, updI M c.n (u c.n) n = some t → t = u n := by
        intro n t ht
        unfold updI at ht
        split at ht
        · rename_i e
          rw [e]
          exact (Option.some.inj ht).symm
        · exact hM n t ht
      cases hm : M c.n with
      | none => exact matG_complete hu hd hM'
      | some v =>
        dsimp only
        rw [hM _ _ hm, if_pos (sameL_iff.2 rfl)]
        exact matG_complete hu hd hM'
    · rw [if_neg hc] at h ⊢
      have h2 := List.drop_eq_getElem_cons hk
      rw [h2] at h
      obtain ⟨e1, e2⟩ := List.cons.inj h
      rw [if_pos (cellEq_iff.2 e1.symm)]
      exact matG_complete hu (by simpa using e2) hM
theorem matR_complete {a b : List Cell} {u : Int → List Cell} (hu : Terms u) (h : appT u a = b) : (matR a b).isSome = true := by
  obtain ⟨M, hM⟩ := matG_complete (b := b) (l := a) (k := 0) (r := []) (M := fun _ => none) hu (by rw [List.drop_zero, List.append_nil, h]) fun n t h => by cases h
  rw [matR, hM]; rfl
end Go.Am.Seat
/-
  ONE WAY: where the second term has no variables, Match and Mgu tell the same.
-/
namespace Go.Am.Seat
open Go.Proofs
theorem sorted_ext {α : Type} : ∀ {a b : List (Int × α)}, (a.Pairwise fun x y => x.1 < y.1) → (b.Pairwise fun x y => x.1 < y.1) → (∀ p, p ∈ a ↔ p ∈ b) → a = b
  | [], [], _, _, _ => rfl
  | [], y :: b, _, _, h => by have := (h y).2 (by simp); simp at this
  | x :: a, [], _, _, h => by have := (h x).1 (by simp); simp at this
  | x :: a, y :: b, ha, hb, h => by
    obtain ⟨a1, a2⟩ := List.pairwise_cons.1 ha
    obtain ⟨b1, b2⟩ := List.pairwise_cons.1 hb
    have e : x = y := by
      have h1 := (h x).1 (by simp)
      have h2 := (h y).2 (by simp)
      rcases List.mem_cons.1 h1 with h1 | h1
      · exact h1
      · rcases List.mem_cons.1 h2 with h2 | h2
        · exact h2.symm
        · have := b1 x h1
          have := a1 y h2
          omega
    subst e
    rw [sorted_ext a2 b2 fun p => ?_]
    constructor
    · intro hp
      have := (h p).1 (by simp [hp])
      rcases List.mem_cons.1 this with e | h'
      · subst e
        have := a1 p hp
        omega
      · exact h'
    · intro hp
      have := (h p).2 (by simp [hp])
      rcases List.mem_cons.1 this with e | h'
      · subst e
        have := b1 p hp
        omega
      · exact h'
theorem outG_of {M : Int → Option (List Cell)} {n : Int} {t : List Cell} (hM : M n = some t) (hv : headV t n = false) : ∀ {l : List Int}, n ∈ l → (n, t) ∈ outG M l
  | [], h => by simp at h
  | m :: l, h => by
    rw [outG]
    rcases List.mem_cons.1 h with rfl | h
    · rw [hM]
      dsimp only
      rw [if_neg (by rw [hv]; decide)]
      simp
    · split
      · split
        · exact outG_of hM hv h
        · exact List.mem_cons_of_mem _ (outG_of hM hv h)
      · exact outG_of hM hv h
theorem varsG_occ {l : List Cell} {n : Int} : n ∈ varsG l [] ↔ occ l n := by
  constructor
  · intro h
    rcases varsG_kind h with h | h
    · simp at h
    · exact h
  · rintro ⟨c, h1, h2, h3⟩
    rw [← h3]
    exact varsG_mem (.inl ⟨h1, h2⟩)
/-- No variables stand in a row. -/
theorem ground_of {l : List Cell} (h : varsG l [] = []) : ∀ c ∈ l, ¬ c.kind = 1 := fun c hc hk => by
  have := varsG_occ.2 ⟨c, hc, hk, rfl⟩
  rw [h] at this
  simp at this
theorem appT_ground {s : Int → List Cell} {l : List Cell} (h : ∀ c ∈ l, ¬ c.kind = 1) : appT s l = l := appT_same (s := s) fun c hc hk => absurd hk (h c hc)
/-- What is laid, for each variable. -/
def MS (M : Int → Option (List Cell)) (n : Int) : List Cell := (M n).getD [varCell n]
theorem appL_MS {M : Int → Option (List Cell)} : ∀ {l : List Cell}, (∀ c ∈ l, cellOk c = true) → appL M l = appT (MS M) l
  | [], _ => rfl
  | c :: l, h => by
    have e0 : appT (MS M) (c :: l) = (if c.kind = 1 then MS M c.n else [c]) ++ appT (MS M) l := by simp [appT]
    rw [appL_cons, appL_MS fun d hd => h d (by simp [hd]), e0]
    split
    · rename_i hk
      rw [MS, ← ok_varCell (h c (by simp)) hk]
    · rfl
/-- What was matched, put in, makes the first one the second one. -/
theorem matR_put {a b : List Cell} (ha : RTm a) (hb : RTm b) {out : List (Int × List Cell)} (h : matR a b = some out) : appT (bmap out) a = b := by
  obtain ⟨M, h1, h2⟩ := matR_some h
  have h3 := matR_app ha hb h1
  obtain ⟨_, m2, m3, _⟩ := matG_sound h1 fun n t h => by cases h
  rw [← h3, appL_MS ha.ok]
  refine appT_congr fun c hc hk => ?_
  · obtain ⟨t, ht⟩ := Option.isSome_iff_exists.1 (m3 c hc hk)
    have hin : c.n ∈ sortI (varsG a []) := (sortI_perm _).mem_iff.2 (varsG_occ.2 ⟨c, hc, hk, rfl⟩)
    rw [MS, ht, Option.getD_some]
    unfold bmap
    cases hv : headV t c.n with
    | false =>
      have hm := outG_of ht hv hin
      rw [← h2] at hm
      cases hf : out.find? fun b => b.1 == c.n with
      | none =>
        have := List.find?_eq_none.1 hf _ hm
        simp at this
      | some q =>
        dsimp only
        have hq := List.mem_of_find?_eq_some hf
        have hq1 := List.find?_some hf
        rw [h2] at hq
        have := (outG_mem hq).2.1
        rw [beq_iff_eq] at hq1
        rw [hq1, ht] at this
        exact (Option.some.inj this).symm
    | true =>
      have ht2 := m2 _ _ ht
      cases t with
      | nil => have := ht2.pos; simp at this
      | cons d t =>
        simp only [headV, Bool.and_eq_true, beq_iff_eq] at hv
        have htk := ht2.tk
        have hmem := ht2.mem d (by simp)
        have hd := ok_varCell (hb.ok d hmem) hv.1
        rw [takes, show 0 + arC d = 0 by rw [arC, if_neg (by rw [hv.1]; decide)]] at htk
        have h0 : takes t 0 = some 0 := by cases t <;> rfl
        rw [h0] at htk
        have hl : t = [] := List.eq_nil_of_length_eq_zero (by simpa using (Option.some.inj htk).symm)
        subst hl
        cases hf : out.find? fun b => b.1 == c.n with
        | none => dsimp only; rw [hd, hv.2]
        | some q =>
          have hq := List.mem_of_find?_eq_some hf
          have hq1 := List.find?_some hf
          rw [h2] at hq
          obtain ⟨_, q2, q3⟩ := outG_mem hq
          rw [beq_iff_eq] at hq1
          rw [hq1, ht] at q2
          rw [← Option.some.inj q2, hq1] at q3
          simp [headV, hv.1, hv.2] at q3
theorem matR_bound {a b : List Cell} (ha : RTm a) (hb : RTm b) {out : List (Int × List Cell)} (h : matR a b = some out) : out.length ≤ 1000 ∧ ∀ p ∈ out, p.2.length ≤ 200 := by
  have hr := matR_right ha hb h
  refine ⟨?_, fun p hp => (hr.1 p hp).2.2.2.1⟩
  obtain ⟨M, h1, h2⟩ := matR_some h
  have := outG_len (M := M) (l := sortI (varsG a []))
  rw [← h2, (sortI_perm _).length_eq] at this
  have h3 := varsG_len a []
  have := ha.len
  simp only [List.length_nil] at h3
  omega
set_option maxRecDepth 10000 in
/-- Where the second term has no variables. -/
theorem oneway_some {a b : List Cell} (ha : RTm a) (hb : RTm b) (hg : varsG b [] = []) {out : List (Int × List Cell)} (h : matR a b = some out) : (mgu a b).2 = 0 ∧ (mgu a b).1.map toI = out := by
  have hg' := ground_of hg
  obtain ⟨M, h1, h2⟩ := matR_some h
  have h3 := matR_app ha hb h1
  rw [appL_MS ha.ok] at h3
  obtain ⟨_, m2, m3, _⟩ := matG_sound h1 fun n t h => by cases h
  obtain ⟨s, hs⟩ : ∃ s : Int → List Cell, ∀ n, (occ a n → s n = MS M n) ∧ (¬ occ a n → s n = [varCell n]) := by
    refine ⟨fun n => by classical exact if occ a n then MS M n else [varCell n], fun n => ⟨fun h => if_pos h, fun h => if_neg h⟩⟩
  have hin : ∀ n, occ a n → M n = some (s n) ∧ TermOf b (s n) := fun n hn => by
    obtain ⟨c, hc, hk, e⟩ := hn
    obtain ⟨t, ht⟩ := Option.isSome_iff_exists.1 (m3 c hc hk)
    rw [e] at ht
    have : s n = t := by rw [(hs n).1 ⟨c, hc, hk, e⟩, MS, ht]; rfl
    rw [this]
    exact ⟨ht, m2 _ _ ht⟩
  have hgs : ∀ n, occ a n → ∀ c ∈ s n, ¬ c.kind = 1 := fun n hn c hc => hg' c ((hin n hn).2.mem c hc)
  have hsa : appT s a = b := by
    rw [← h3]
    exact appT_congr fun c hc hk => (hs c.n).1 ⟨c, hc, hk, rfl⟩
  have htm : Terms s := fun n => by
    by_cases hn : occ a n
    · exact (hin n hn).2.tk
    · rw [(hs n).2 hn]; rfl
  have hab : ∀ n, occ (a ++ b) n → occ a n := fun n ⟨c, hc, hk, e⟩ => by
    rcases List.mem_append.1 hc with hc | hc
    · exact ⟨c, hc, hk, e⟩
    · exact absurd hk (hg' c hc)
  have hno : NormO a b s := by
    refine ⟨⟨by rw [hsa, appT_ground hg'], htm, fun n c hc hk => ?_, fun u hu e n => ?_, fun n m e => ?_⟩, fun n hn c hc => ?_, fun n hn => ?_⟩
    · by_cases hn : occ a n
      · exact absurd hk (hgs n hn c hc)
      · rw [(hs n).2 hn, List.mem_singleton] at hc
        rw [hc]; rfl
    · by_cases hn : occ a n
      · rw [appT_ground (hgs n hn)]
        obtain ⟨c, hc, hk, e2⟩ := hn
        rw [appT_ground hg', ← hsa] at e
        have := appT_inj hu htm (r := []) (r' := []) (by rw [e]) c hc hk
        rw [← e2, this]
      · rw [(hs n).2 hn, appT_var]
    · by_cases hn : occ a n
      · exact absurd rfl (hgs n hn (varCell m) (by rw [e]; simp))
      · rw [(hs n).2 hn] at e
        have := congrArg Cell.n (List.cons.inj e).1
        simp only [varCell] at this
        omega
    · have := hgs n (hab n hn) c hc
      exact ⟨hb.ok c ((hin n (hab n hn)).2.mem c hc), fun hk => absurd hk this⟩
    · exact (hs n).2 fun ⟨c, hc, hk, e⟩ => hn ⟨c, List.mem_append_left _ hc, hk, e⟩
  have hsm : small s := fun n _ => by
    by_cases hn : occ a n
    · have := (hin n hn).2.len
      have := hb.len
      omega
    · rw [(hs n).2 hn]; simp
  rw [mgu_norm ha hb hno, mguO_small hsm]
  refine ⟨rfl, ?_⟩
  refine sorted_ext (bnds_lt s) (matR_right ha hb h).2 fun p => ?_
  rw [bnds_mem]
  constructor
  · rintro ⟨n, hn, rfl, hne⟩
    have ho : occ a n := Classical.byContradiction fun k => hne ((hs n).2 k)
    rw [h2]
    refine outG_of (hin n ho).1 ?_ ((sortI_perm _).mem_iff.2 (varsG_occ.2 ho))
    have := hgs n ho
    cases hx : s n with
    | nil => have := htm.pos n; rw [hx] at this; simp at this
    | cons c l =>
      have := this c (by rw [hx]; simp)
      simp [headV, this]
  · intro hp
    rw [h2] at hp
    obtain ⟨p1, p2, p3⟩ := outG_mem hp
    have ho : occ a p.1 := varsG_occ.1 ((sortI_perm _).mem_iff.1 p1)
    have hr := occ_range ha.ok ho
    have hp2 := (hin p.1 ho).1
    rw [p2] at hp2
    have hp2 := Option.some.inj hp2
    have e1 : ((p.1.toNat : Nat) : Int) = p.1 := by omega
    refine ⟨p.1.toNat, by omega, ?_, ?_⟩
    · rw [e1, ← hp2]
    · rw [e1]
      intro e
      exact absurd rfl (hgs p.1 ho (varCell p.1) (by rw [e]; simp))
theorem oneway_none {a b : List Cell} (ha : RTm a) (hb : RTm b) (hg : varsG b [] = []) (h : matR a b = none) : mgu a b = ([], 3) := by
  rcases mgu_cases ha hb with ⟨h1, _⟩ | ⟨s, h1, _⟩
  · exact h1
  · have e := h1.eq
    rw [appT_ground (ground_of hg)] at e
    have := matR_complete h1.tm e
    rw [h] at this
    cases this
end Go.Am.Seat
/-
  MADE BY PROGRAM (am.py): the walks of functions 28.
-/
namespace Go.Am.Seat
open Go.Proofs
theorem bod28 : Try.f28.body = some (Try.f28.body.getD .skip) := rfl
theorem fn28 (L : Loops) (t : List Cell) (s : Me) (x : Sc) (hx : GSl encC x t) (hl : t.length ≤ 1000000000) : FnL Try.prog L 28 [.av (.sc x)] s fun r s' => (r = vB (((varsG t []).length : Int) == 0)) ∧ s' = s := by
  refine FnL.pure (R := fun r => r = vB (((varsG t []).length : Int) == 0)) ?_
  refine fn_of_body (ts := [2]) Try.func28 bod28 rfl (by simp) (by simp [Try.ntmps28]) fun D0 => ?_
  unfold Try.f28
  simp only [Option.getD_some, initSl]
  refine aw_region_seq C (pb := false) rfl fun K hK => ?_
  repeat' (first | refine wy0 (h := ?_) | fail)
  refine awOps_nil (hK _ _ ?_)
  clear hK K
  refine aw_region_seq C (pb := false) rfl fun K hK => ?_
  repeat' (first | refine wy0 (h := ?_) | fail)
  refine wc (And.intro Try.call24 (fn24 L t _ x hx hl)) ?_
  rintro _ _ ⟨⟨y, rfl, hy⟩, rfl⟩
  repeat' (first | refine wy1 (a := by simp only [go_sem, ↓reduceIte, Nat.reduceEqDiff, reduceCtorEq, Nat.reduceAdd, Nat.reduceMul, Nat.reduceLeDiff, aLoad, aStore, lenI hy]; exact rfl) (h := ?_) | fail)
  refine awOps_nil (hK _ _ ?_)
  clear hK K
  refine aw_ret ?_
  simp only [go_sem, ↓reduceIte, Nat.reduceEqDiff, reduceCtorEq, Nat.reduceAdd, Nat.reduceMul, Nat.reduceLeDiff, aLoad, aStore, FnQ, resA]
  -- .ret
  exact fun _ => ⟨by first | rfl | trivial, by first | exact fun _ _ => rfl | trivial, by first | rfl | trivial, by first | rfl | trivial⟩
end Go.Am.Seat
/-
  MADE BY PROGRAM (am.py): the walks of functions 9.
-/
namespace Go.Am.Seat
open Go.Proofs

theorem fnVar (L : Loops) {a b : List Cell} {v : Bool} (hv : sameL (numG a) (numG b) = v) (s : Me) (x y : Sc) (hx : GSl encC x a) (hy : GSl encC y b) (ha : 1 ≤ a.length ∧ a.length ≤ 200) (hb : 1 ≤ b.length ∧ b.length ≤ 200) : FnL Try.prog L 18 [.av (.sc x), .av (.sc y)] s fun r s' => r = vB v ∧ s' = s :=
  (fn18 L a b s x y hx hy (by omega) (by omega)).mono fun r s' h => ⟨h.1.trans (congrArg vB hv), h.2⟩
theorem fnMat (L : Loops) {a b : List Cell} (ha : RTm a) (hb : RTm b) (s : Me) (x y : Sc) (hx : GSl encC x a) (hy : GSl encC y b) : FnL Try.prog L 15 [.av (.sc x), .av (.sc y)] s fun r s' => (∃ z, r = .tup [.av (.sc z), vB (matR a b).isSome] ∧ GSl encB z (((matR a b).getD []).map bndI)) ∧ s' = s := by
  have a2 := ha.len
  have b2 := hb.len
  refine (fn15 L a b _ s x y hx hy (by omega) hb.tok rfl fun o ho => matR_right ha hb ho).mono fun r s' ⟨⟨z, o, h1, h2, h3⟩, h4⟩ => ⟨⟨z, h1, ?_⟩, h4⟩
  rw [h3] at h2
  exact h2
theorem numG_len (t : List Cell) : (numG t).length = t.length := by rw [numG, List.length_map]

-- many steps
theorem bod9 : Try.f9.body = some (Try.f9.body.getD .skip) := rfl
set_option maxHeartbeats 2000000 in
set_option maxRecDepth 20000 in
theorem fn9 (L : Loops) (a b : List Cell) (k : Int) (s : Me) (sa sb : Sc) (ha : GSl encC sa a) (hb : GSl encC sb b) (hla : a.length ≤ 281474976710656) (hlb : b.length ≤ 281474976710656) (hna : ∀ c ∈ a, c.name.size ≤ 1152921504606846976) (hnb : ∀ c ∈ b, c.name.size ≤ 1152921504606846976) (hk : 0 ≤ k ∧ k ≤ 255) : FnL Try.prog L 9 [.av (.sc sa), .av (.sc sb), .av (.sc (.int .u8 k))] s fun r s' => (r = vB true) ∧ s' = s := by
  refine FnL.pure (R := fun r => r = vB true) ?_
  refine fn_of_body (ts := [6]) Try.func9 bod9 rfl (by simp) (by simp [Try.ntmps9]) fun D0 => ?_
  unfold Try.f9
  simp only [Option.getD_some, initSl]
  refine aw_region_seq C (pb := false) rfl fun K hK => ?_
  repeat' (first | refine wy0 (h := ?_) | fail)
  refine awOps_nil (hK _ _ ?_)
  clear hK K
  refine aw_region_seq C (pb := false) rfl fun K hK => ?_
  (refine wc (And.intro Try.call11 (fn11 L _)) ?_; rintro _ _ ⟨rfl, rfl⟩)
  repeat' (first | refine wy0 (h := ?_) | fail)
  refine awOps_nil (hK _ _ ?_)
  clear hK K
  refine aw_region_seq C (pb := false) rfl fun K hK => ?_
  repeat' (first | refine wy0 (h := ?_) | fail)
  refine wc (And.intro Try.call12 (fn12 L a 30 _ sa ha hla hna (by decide))) ?_
  rintro _ _ ⟨⟨ya, t, rfl, hya, hra, hta⟩, rfl⟩
  repeat' (first | refine wy0 (h := ?_) | fail)
  refine awOps_nil (hK _ _ ?_)
  clear hK K
  refine aw_region_seq C (pb := false) rfl fun K hK => ?_
  repeat' (first | refine wy0 (h := ?_) | fail)
  refine wc (And.intro Try.call12 (fn12 L b 30 _ sb hb hlb hnb (by decide))) ?_
  rintro _ _ ⟨⟨yb, u, rfl, hyb, hrb, htb⟩, rfl⟩
  repeat' (first | refine wy0 (h := ?_) | fail)
  refine awOps_nil (hK _ _ ?_)
  refine AW.less (sl' := [(0, .av (.sc ya)), (1, .av (.sc yb)), (2, .av (.sc (.int .u8 k))), (7, vB true)]) (AllIn.less ⟨rfl, rfl, rfl, rfl, trivial⟩) ?_
  clear hK K
  have rt := right_tm hra
  have ru := right_tm hrb
  have t1 := rt.pos
  have u1 := ru.pos
  refine aw_region_seq C (pb := false) rfl fun K hK => ?_
  repeat' (first | refine wy1 (a := by simp only [go_sem, ↓reduceIte, Nat.reduceEqDiff, reduceCtorEq, Nat.reduceAdd, Nat.reduceMul, Nat.reduceLeDiff, aLoad, aStore, wrap_small k (by omega) (by omega)]; exact rfl) (h := ?_) | fail)
  refine wc (And.intro Try.call29 (fn29 L t k _ ya hya (by omega) (fun c hc => by have := name_size (rt.ok c hc); omega) (fun c hc h1 => by have := (ok_var (rt.ok c hc) h1).2; omega) (by omega))) ?_
  rintro _ _ ⟨⟨xs, rfl, hxs⟩, rfl⟩
  repeat' (first | refine wy1 (a := by simp only [go_sem, ↓reduceIte, Nat.reduceEqDiff, reduceCtorEq, Nat.reduceAdd, Nat.reduceMul, Nat.reduceLeDiff, aLoad, aStore, wrap_small k (by omega) (by omega)]; exact rfl) (h := ?_) | fail)
  (refine wc (And.intro Try.call30 (fn30 L u _ yb hyb (by omega))) ?_; rintro _ _ ⟨rfl, rfl⟩)
  repeat' (first | refine wy1 (a := by simp only [go_sem, ↓reduceIte, Nat.reduceEqDiff, reduceCtorEq, Nat.reduceAdd, Nat.reduceMul, Nat.reduceLeDiff, aLoad, aStore, wrap_small k (by omega) (by omega)]; exact rfl) (h := ?_) | fail)
  refine awOps_nil (hK _ _ ?_)
  refine AW.less (sl' := [(0, .av (.sc ya)), (1, .av (.sc yb)), (7, vB true), (8, .av (.sc xs)), (9, vC (numG u))]) (AllIn.less ⟨rfl, rfl, rfl, rfl, rfl, trivial⟩) ?_
  clear hK K
  obtain ⟨v, hv⟩ : ∃ v, v = sameL (numG t) (numG u) := ⟨_, rfl⟩
  refine aw_region_seq C (pb := false) rfl fun K hK => ?_
  repeat' (first | refine wy0 (h := ?_) | fail)
  (refine wc (And.intro Try.call18 (fnVar L hv.symm _ ya yb hya hyb (by omega) (by omega))) ?_; rintro _ _ ⟨rfl, rfl⟩)
  repeat' (first | refine wy0 (h := ?_) | fail)
  refine awOps_nil (hK _ _ ?_)
  refine AW.less (sl' := [(0, .av (.sc ya)), (1, .av (.sc yb)), (7, vB true), (8, .av (.sc xs)), (9, vC (numG u)), (10, vB v)]) (AllIn.less ⟨rfl, rfl, rfl, rfl, rfl, rfl, trivial⟩) ?_
  clear hK K
  refine aw_region_seq C (pb := false) rfl fun K hK => ?_
  repeat' (first | refine wy0 (h := ?_) | fail)
  refine wc (And.intro Try.call15 (fnMat L rt ru _ ya yb hya hyb)) ?_
  rintro _ _ ⟨⟨z1, rfl, hz1⟩, rfl⟩
  repeat' (first | refine wy0 (h := ?_) | fail)
  refine awOps_nil (hK _ _ ?_)
  refine AW.less (sl' := [(0, .av (.sc ya)), (1, .av (.sc yb)), (7, vB true), (8, .av (.sc xs)), (9, vC (numG u)), (10, vB v), (12, vB (matR t u).isSome)]) (AllIn.less ⟨rfl, rfl, rfl, rfl, rfl, rfl, rfl, trivial⟩) ?_
  clear hK K
  refine aw_region_seq C (pb := false) rfl fun K hK => ?_
  repeat' (first | refine wy0 (h := ?_) | fail)
  refine wc (And.intro Try.call15 (fnMat L ru rt _ yb ya hyb hya)) ?_
  rintro _ _ ⟨⟨z2, rfl, hz2⟩, rfl⟩
  repeat' (first | refine wy0 (h := ?_) | fail)
  refine awOps_nil (hK _ _ ?_)
  refine AW.less (sl' := [(0, .av (.sc ya)), (1, .av (.sc yb)), (7, vB true), (8, .av (.sc xs)), (9, vC (numG u)), (10, vB v), (12, vB (matR t u).isSome), (14, vB (matR u t).isSome)]) (AllIn.less ⟨rfl, rfl, rfl, rfl, rfl, rfl, rfl, rfl, trivial⟩) ?_
  clear hK K
  refine aw_seq ?_
  refine aw_cut_seq C (pb := false) [(0, .av (.sc ya)), (1, .av (.sc yb)), (7, vB true), (9, vC (numG u)), (10, vB v), (12, vB (matR t u).isSome), (14, vB (matR u t).isSome), (49, vB false)] rfl ?_ fun n8 hn8 => ?_
  · by_cases hsr : rightOk (t.map (mapC (· + k))) = true
    · have hsg : shiftG t k = t.map (mapC (· + k)) := by rw [shiftG, if_pos hsr]
      have hgt : decide (((shiftG t k).length : Int) > 0) = true := decide_eq_true (by rw [hsg, List.length_map]; omega)
      repeat' (first | refine wy2 (by simp only [go_sem, ↓reduceIte, Nat.reduceEqDiff, reduceCtorEq, Nat.reduceAdd, Nat.reduceMul, Nat.reduceLeDiff, aLoad, aStore, lenC hxs, hgt]; exact rfl) ?_ | refine awOps_no (by rfl) (by rfl) ?_ | fail)
      refine wc (And.intro Try.call18 (fnVar L (v := true) (by rw [hsg, numG_shift]; exact sameL_iff.2 rfl) _ ya xs hya hxs (by omega) (by rw [hsg, List.length_map]; omega))) ?_
      rintro _ _ ⟨rfl, rfl⟩
      repeat' (first | refine wy2 (by simp only [go_sem, ↓reduceIte, Nat.reduceEqDiff, reduceCtorEq, Nat.reduceAdd, Nat.reduceMul, Nat.reduceLeDiff, aLoad, aStore, lenC hxs, hgt]; exact rfl) ?_ | refine awOps_no (by rfl) (by rfl) ?_ | fail)
      exact awOps_nil ⟨⟨rfl, rfl, rfl, rfl, rfl, rfl, rfl, rfl, trivial⟩, rfl, (by first | omega | (dsimp only; omega) | (dsimp only at *; omega)), rfl⟩
    · have hsg : shiftG t k = [] := by rw [shiftG, if_neg hsr]
      have hgt : decide (((shiftG t k).length : Int) > 0) = false := decide_eq_false (by rw [hsg]; simp)
      repeat' (first | refine wy2 (by simp only [go_sem, ↓reduceIte, Nat.reduceEqDiff, reduceCtorEq, Nat.reduceAdd, Nat.reduceMul, Nat.reduceLeDiff, aLoad, aStore, lenC hxs, hgt]; exact rfl) ?_ | refine awOps_no (by rfl) (by rfl) ?_ | fail)
      exact awOps_nil ⟨⟨rfl, rfl, rfl, rfl, rfl, rfl, rfl, rfl, trivial⟩, rfl, (by first | omega | (dsimp only; omega) | (dsimp only at *; omega)), rfl⟩
  refine aw_cond (by rfl) ?_ ?_
  · intro hc0
    cases hc0
  · intro hc0
    refine aw_skip ?_
    simp only [thenA_normal, thenA_ret, thenA_exit, blockA_normal, blockA_ret, blockA_exit, ↓reduceIte, Nat.reduceEqDiff]
    have h2 : sameL (numG u) (numG (numG u)) = true := by rw [numG_idem]; exact sameL_iff.2 rfl
    have h3 : sameL (numG u) (numG t) = v := by rw [sameL_comm, hv]
    have h4 : sameL (numG t) (numG (numG u)) = v := by rw [numG_idem, hv]
    have h5 : v = ((matR t u).isSome && (matR u t).isSome) := by rw [hv, variant_match rt ru]
    have hul := numG_len u
    obtain ⟨p, hp⟩ : ∃ p, p = (matR t u).isSome := ⟨_, rfl⟩
    obtain ⟨q, hq⟩ : ∃ q, q = (matR u t).isSome := ⟨_, rfl⟩
    rw [← hp, ← hq] at h5 ⊢
    clear hp hq hv
    refine aw_cut_seq C (pb := false) [(6, vB true)] rfl ?_ fun n10 hn10 => ?_
    · subst h5; cases p <;> cases q
      all_goals (repeat' (first | refine wy0 (h := ?_) | fail))
      all_goals ((refine wc (And.intro Try.call18 (fnVar L (sameL_iff.2 rfl) _ ya ya hya hya (by omega) (by omega))) ?_; rintro _ _ ⟨rfl, rfl⟩))
      all_goals (repeat' (first | refine wy0 (h := ?_) | refine wn (h := ?_) | fail))
      all_goals (try (first | (refine wc (And.intro Try.call18 (fnVar L h2 _ yb _ hyb (gslC _) (by omega) (by omega))) ?_; rintro _ _ ⟨rfl, rfl⟩) | refine wn (h := ?_) | fail))
      all_goals (repeat' (first | refine wy0 (h := ?_) | refine wn (h := ?_) | fail))
      all_goals (try (first | (refine wc (And.intro Try.call18 (fnVar L h3 _ yb ya hyb hya (by omega) (by omega))) ?_; rintro _ _ ⟨rfl, rfl⟩) | refine wn (h := ?_) | fail))
      all_goals (repeat' (first | refine wy0 (h := ?_) | refine wn (h := ?_) | fail))
      all_goals (try (first | (refine wc (And.intro Try.call18 (fnVar L h4 _ ya _ hya (gslC _) (by omega) (by omega))) ?_; rintro _ _ ⟨rfl, rfl⟩) | refine wn (h := ?_) | fail))
      all_goals (repeat' (first | refine wy0 (h := ?_) | refine wn (h := ?_) | fail))
      all_goals (exact awOps_nil ⟨⟨by first | rfl | simp [get], trivial⟩, rfl, (by first | omega | (dsimp only; omega)), rfl⟩)
    refine aw_ret ?_
    simp only [go_sem, ↓reduceIte, Nat.reduceEqDiff, reduceCtorEq, Nat.reduceAdd, Nat.reduceMul, Nat.reduceLeDiff, aLoad, aStore, FnQ, resA]
    -- 0f.ret
    exact fun _ => ⟨by first | rfl | trivial, by first | exact fun _ _ => rfl | trivial, by first | rfl | trivial, by first | rfl | trivial⟩
end Go.Am.Seat
/-
  MADE BY PROGRAM (am.py): the walks of functions 8.
-/
namespace Go.Am.Seat
open Go.Proofs

theorem fnSameE (L : Loops) (a : List (Int × List Cell)) (s : Me) (x y : Sc) (hx : GSl encB x (a.map bndI)) (hy : GSl encB y (a.map bndI)) (hl : a.length ≤ 1000 ∧ ∀ p ∈ a, p.2.length ≤ 200) : FnL Try.prog L 17 [.av (.sc x), .av (.sc y)] s fun r s' => r = vB true ∧ s' = s :=
  (fnSame L a a s x y hx hy (by omega) (fun c hc => by have := hl.2 c hc; omega)).mono fun r s' h => ⟨h.1.trans (congrArg vB (decide_eq_true rfl)), h.2⟩
theorem fnGrd (L : Loops) {a : List Cell} {v : Bool} (hv : (varsG a []).isEmpty = v) (s : Me) (x : Sc) (hx : GSl encC x a) (hl : a.length ≤ 1000000) : FnL Try.prog L 28 [.av (.sc x)] s fun r s' => r = vB v ∧ s' = s :=
  (fn28 L a s x hx (by omega)).mono fun r s' h => ⟨h.1.trans (congrArg vB (by
    rw [← hv]
    cases varsG a [] with
    | nil => rfl
    | cons n l => simp only [List.length_cons, List.isEmpty_cons, beq_eq_false_iff_ne]; omega)), h.2⟩

-- many steps
theorem bod8 : Try.f8.body = some (Try.f8.body.getD .skip) := rfl
set_option maxHeartbeats 2000000 in
set_option maxRecDepth 20000 in
theorem fn8 (L : Loops) (a b : List Cell) (s : Me) (sa sb : Sc) (ha : GSl encC sa a) (hb : GSl encC sb b) (hla : a.length ≤ 281474976710656) (hlb : b.length ≤ 281474976710656) (hna : ∀ c ∈ a, c.name.size ≤ 1152921504606846976) (hnb : ∀ c ∈ b, c.name.size ≤ 1152921504606846976) : FnL Try.prog L 8 [.av (.sc sa), .av (.sc sb)] s fun r s' => (r = vB true) ∧ s' = s := by
  refine FnL.pure (R := fun r => r = vB true) ?_
  refine fn_of_body (ts := [4]) Try.func8 bod8 rfl (by simp) (by simp [Try.ntmps8]) fun D0 => ?_
  unfold Try.f8
  simp only [Option.getD_some, initSl]
  refine aw_region_seq C (pb := false) rfl fun K hK => ?_
  repeat' (first | refine wy0 (h := ?_) | fail)
  refine awOps_nil (hK _ _ ?_)
  clear hK K
  refine aw_region_seq C (pb := false) rfl fun K hK => ?_
  (refine wc (And.intro Try.call11 (fn11 L _)) ?_; rintro _ _ ⟨rfl, rfl⟩)
  repeat' (first | refine wy0 (h := ?_) | fail)
  refine awOps_nil (hK _ _ ?_)
  clear hK K
  refine aw_region_seq C (pb := false) rfl fun K hK => ?_
  repeat' (first | refine wy0 (h := ?_) | fail)
  refine wc (And.intro Try.call12 (fnMade L a 30 _ sa ha hla hna (by decide))) ?_
  rintro _ _ ⟨⟨t, rfl, rt, hlt⟩, rfl⟩
  repeat' (first | refine wy0 (h := ?_) | fail)
  refine awOps_nil (hK _ _ ?_)
  clear hK K
  refine aw_region_seq C (pb := false) rfl fun K hK => ?_
  repeat' (first | refine wy0 (h := ?_) | fail)
  refine wc (And.intro Try.call12 (fnMade L b 30 _ sb hb hlb hnb (by decide))) ?_
  rintro _ _ ⟨⟨u, rfl, ru, hlu⟩, rfl⟩
  repeat' (first | refine wy0 (h := ?_) | fail)
  refine awOps_nil (hK _ _ ?_)
  refine AW.less (sl' := [(0, vC t), (1, vC u), (5, vB true)]) (AllIn.less ⟨rfl, rfl, rfl, trivial⟩) ?_
  clear hK K
  refine aw_region_seq C (pb := false) rfl fun K hK => ?_
  repeat' (first | refine wy0 (h := ?_) | fail)
  refine wc (And.intro Try.call15 (fnMat L rt ru _ _ _ (gslC t) (gslC u))) ?_
  rintro _ _ ⟨⟨z1, rfl, hz1⟩, rfl⟩
  repeat' (first | refine wy0 (h := ?_) | fail)
  refine awOps_nil (hK _ _ ?_)
  refine AW.less (sl' := [(0, vC t), (1, vC u), (5, vB true), (6, .av (.sc z1)), (7, vB (matR t u).isSome)]) (AllIn.less ⟨rfl, rfl, rfl, rfl, rfl, trivial⟩) ?_
  clear hK K
  refine aw_seq ?_
  have t1 := rt.pos
  have u1 := ru.pos
  refine aw_region_seq C (pb := false) rfl fun K hK => ?_
  repeat' (first | refine wy0 (h := ?_) | fail)
  refine awOps_nil (hK _ _ ?_)
  clear hK K
  refine aw_cond (by rfl) ?_ ?_
  · intro hc0
    obtain ⟨o, ho⟩ := Option.isSome_iff_exists.1 (show (matR t u).isSome = true from hc0)
    rw [ho] at hz1 ⊢
    simp only [Option.isSome_some, Option.getD_some] at hz1 ⊢
    have hob := matR_bound rt ru ho
    have hl0 : True := trivial
    refine aw_region_seq C (pb := false) rfl fun K hK => ?_
    repeat' (first | refine wy0 (h := ?_) | fail)
    (refine wc (And.intro Try.call21 (fnApplyV L (matR_put rt ru ho) (by omega) _ z1 _ hz1 (gslC t) (by omega) (fun p hp => by have := hob.2 p hp; omega) rt)) ?_; rintro _ _ ⟨rfl, rfl⟩)
    repeat' (first | refine wy0 (h := ?_) | fail)
    refine awOps_nil (hK _ _ ?_)
    clear hK K
    refine aw_region_seq C (pb := false) rfl fun K hK => ?_
    repeat' (first | refine wy0 (h := ?_) | refine wn (h := ?_) | fail)
    try (first | (refine wc (And.intro Try.call20 (fnSameC L (sameL_iff.2 rfl) _ _ _ (gslC u) (gslC u) (by omega))) ?_; rintro _ _ ⟨rfl, rfl⟩) | refine wn (h := ?_) | fail)
    repeat' (first | refine wy0 (h := ?_) | refine wn (h := ?_) | fail)
    try (first | (refine wc (And.intro Try.call22 (fn22 L o _ z1 hz1 (by omega) (matR_right rt ru ho))) ?_; rintro _ _ ⟨rfl, rfl⟩) | refine wn (h := ?_) | fail)
    repeat' (first | refine wy0 (h := ?_) | refine wn (h := ?_) | fail)
    refine awOps_nil (hK _ _ ?_)
    clear hK K
    refine aw_cond (by rfl) ?_ ?_
    · intro hc1
      cases hc1
    · intro hc1
      refine aw_skip ?_
      simp only [thenA_normal, thenA_ret, thenA_exit, blockA_normal, blockA_ret, blockA_exit, ↓reduceIte, Nat.reduceEqDiff]
      refine aw_seq ?_
      obtain ⟨v, hv⟩ : ∃ v, v = ((varsG u []).isEmpty) := ⟨_, rfl⟩
      refine aw_region_seq C (pb := false) rfl fun K hK => ?_
      repeat' (first | refine wy0 (h := ?_) | fail)
      (refine wc (And.intro Try.call28 (fnGrd L hv.symm _ _ (gslC u) (by omega))) ?_; rintro _ _ ⟨rfl, rfl⟩)
      repeat' (first | refine wy0 (h := ?_) | fail)
      refine awOps_nil (hK _ _ ?_)
      clear hK K
      refine aw_cond (by rfl) ?_ ?_
      · intro hc2
        refine aw_region_seq C (pb := false) rfl fun K hK => ?_
        repeat' (first | refine wy1 (a := by simp only [go_sem, ↓reduceIte, Nat.reduceEqDiff, reduceCtorEq, Nat.reduceAdd, Nat.reduceMul, Nat.reduceLeDiff, aLoad, aStore, lenB hz1, hl0]; exact rfl) (h := ?_) | refine wn (h := ?_) | fail)
        refine awOps_nil (hK _ _ ?_)
        clear hK K
        refine aw_ret ?_
        try simp only [thenA_normal, thenA_ret, thenA_exit, blockA_normal, blockA_ret, blockA_exit]
        simp only [go_sem, ↓reduceIte, Nat.reduceEqDiff, reduceCtorEq, Nat.reduceAdd, Nat.reduceMul, Nat.reduceLeDiff, aLoad, aStore, FnQ, resA]
        -- 0t1f2t.ret
        refine fun _ => ⟨by first | rfl | trivial, by first | exact fun _ _ => rfl | trivial, by first | rfl | trivial, by first | rfl | trivial⟩
      · intro hc2
        have hg : varsG u [] = [] := by
          have h : v = true := by simpa using hc2
          rw [hv] at h
          exact List.isEmpty_iff.1 h
        refine aw_skip ?_
        simp only [thenA_normal, thenA_ret, thenA_exit, blockA_normal, blockA_ret, blockA_exit, ↓reduceIte, Nat.reduceEqDiff]
        refine aw_region_seq C (pb := false) rfl fun K hK => ?_
        repeat' (first | refine wy0 (h := ?_) | fail)
        refine wc (And.intro Try.call13 (fnMgu L rt ru _)) ?_
        rintro _ _ ⟨⟨z2, rfl, hz2⟩, rfl⟩
        repeat' (first | refine wy0 (h := ?_) | fail)
        refine awOps_nil (hK _ _ ?_)
        clear hK K
        have e1 : ((0 : Int) == 0) = true := rfl
        have e2 : ((3 : Int) == 3) = true := rfl
        have e3 : ((3 : Int) == 0) = false := rfl
        have hz2' : GSl encB z2 (o.map bndI) := by first | (rw [map_bndOf, (oneway_some rt ru hg ho).2] at hz2; exact hz2) | (rw [oneway_none rt ru hg ho] at hz2; rw [hoe]; exact hz2)
        first | rw [(oneway_some rt ru hg ho).1] | rw [oneway_none rt ru hg ho]
        refine aw_region_seq C (pb := false) rfl fun K hK => ?_
        repeat' (first | refine wy1 (a := by simp only [go_sem, ↓reduceIte, Nat.reduceEqDiff, reduceCtorEq, Nat.reduceAdd, Nat.reduceMul, Nat.reduceLeDiff, aLoad, aStore, e1, e2, e3]; exact rfl) (h := ?_) | refine wn (h := ?_) | fail)
        try (first | (refine wc (And.intro Try.call17 (fnSameE L o _ z2 z1 hz2' hz1 hob)) ?_; rintro _ _ ⟨rfl, rfl⟩) | refine wn (h := ?_) | fail)
        repeat' (first | refine wy1 (a := by simp only [go_sem, ↓reduceIte, Nat.reduceEqDiff, reduceCtorEq, Nat.reduceAdd, Nat.reduceMul, Nat.reduceLeDiff, aLoad, aStore, e1, e2, e3]; exact rfl) (h := ?_) | refine wn (h := ?_) | fail)
        refine awOps_nil (hK _ _ ?_)
        clear hK K
        refine aw_ret ?_
        simp only [go_sem, ↓reduceIte, Nat.reduceEqDiff, reduceCtorEq, Nat.reduceAdd, Nat.reduceMul, Nat.reduceLeDiff, aLoad, aStore, FnQ, resA]
        -- 0t1f2f.ret
        refine fun _ => ⟨by first | rfl | trivial, by first | exact fun _ _ => rfl | trivial, by first | rfl | trivial, by first | rfl | trivial⟩
  · intro hc0
    have ho : matR t u = none := by simpa using (show (matR t u).isSome = false from hc0)
    rw [ho] at hz1 ⊢
    simp only [Option.isSome_none, Option.getD_none] at hz1 ⊢
    obtain ⟨o, hoe⟩ : ∃ o : List (Int × List Cell), o = [] := ⟨_, rfl⟩
    rw [← hoe] at hz1
    have hob : o.length ≤ 1000 ∧ ∀ p ∈ o, p.2.length ≤ 200 := by rw [hoe]; exact ⟨Nat.zero_le _, fun p hp => by simp at hp⟩
    have hl0 : (((o.map bndI).length : Int) == 0) = true := by rw [hoe]; rfl
    refine aw_skip ?_
    simp only [thenA_normal, thenA_ret, thenA_exit, blockA_normal, blockA_ret, blockA_exit, ↓reduceIte, Nat.reduceEqDiff]
    refine aw_seq ?_
    obtain ⟨v, hv⟩ : ∃ v, v = ((varsG u []).isEmpty) := ⟨_, rfl⟩
    refine aw_region_seq C (pb := false) rfl fun K hK => ?_
    repeat' (first | refine wy0 (h := ?_) | fail)
    (refine wc (And.intro Try.call28 (fnGrd L hv.symm _ _ (gslC u) (by omega))) ?_; rintro _ _ ⟨rfl, rfl⟩)
    repeat' (first | refine wy0 (h := ?_) | fail)
    refine awOps_nil (hK _ _ ?_)
    clear hK K
    refine aw_cond (by rfl) ?_ ?_
    · intro hc3
      refine aw_region_seq C (pb := false) rfl fun K hK => ?_
      repeat' (first | refine wy1 (a := by simp only [go_sem, ↓reduceIte, Nat.reduceEqDiff, reduceCtorEq, Nat.reduceAdd, Nat.reduceMul, Nat.reduceLeDiff, aLoad, aStore, lenB hz1, hl0]; exact rfl) (h := ?_) | refine wn (h := ?_) | fail)
      refine awOps_nil (hK _ _ ?_)
      clear hK K
      refine aw_ret ?_
      try simp only [thenA_normal, thenA_ret, thenA_exit, blockA_normal, blockA_ret, blockA_exit]
      simp only [go_sem, ↓reduceIte, Nat.reduceEqDiff, reduceCtorEq, Nat.reduceAdd, Nat.reduceMul, Nat.reduceLeDiff, aLoad, aStore, FnQ, resA]
      -- 0f3t.ret
      refine fun _ => ⟨by first | rfl | trivial, by first | exact fun _ _ => rfl | trivial, by first | rfl | trivial, by first | rfl | trivial⟩
    · intro hc3
      have hg : varsG u [] = [] := by
        have h : v = true := by simpa using hc3
        rw [hv] at h
        exact List.isEmpty_iff.1 h
      refine aw_skip ?_
      simp only [thenA_normal, thenA_ret, thenA_exit, blockA_normal, blockA_ret, blockA_exit, ↓reduceIte, Nat.reduceEqDiff]
      refine aw_region_seq C (pb := false) rfl fun K hK => ?_
      repeat' (first | refine wy0 (h := ?_) | fail)
      refine wc (And.intro Try.call13 (fnMgu L rt ru _)) ?_
      rintro _ _ ⟨⟨z2, rfl, hz2⟩, rfl⟩
      repeat' (first | refine wy0 (h := ?_) | fail)
      refine awOps_nil (hK _ _ ?_)
      clear hK K
      have e1 : ((0 : Int) == 0) = true := rfl
      have e2 : ((3 : Int) == 3) = true := rfl
      have e3 : ((3 : Int) == 0) = false := rfl
      have hz2' : GSl encB z2 (o.map bndI) := by first | (rw [map_bndOf, (oneway_some rt ru hg ho).2] at hz2; exact hz2) | (rw [oneway_none rt ru hg ho] at hz2; rw [hoe]; exact hz2)
      first | rw [(oneway_some rt ru hg ho).1] | rw [oneway_none rt ru hg ho]
      refine aw_region_seq C (pb := false) rfl fun K hK => ?_
      repeat' (first | refine wy1 (a := by simp only [go_sem, ↓reduceIte, Nat.reduceEqDiff, reduceCtorEq, Nat.reduceAdd, Nat.reduceMul, Nat.reduceLeDiff, aLoad, aStore, e1, e2, e3]; exact rfl) (h := ?_) | refine wn (h := ?_) | fail)
      try (first | (refine wc (And.intro Try.call17 (fnSameE L o _ z2 z1 hz2' hz1 hob)) ?_; rintro _ _ ⟨rfl, rfl⟩) | refine wn (h := ?_) | fail)
      repeat' (first | refine wy1 (a := by simp only [go_sem, ↓reduceIte, Nat.reduceEqDiff, reduceCtorEq, Nat.reduceAdd, Nat.reduceMul, Nat.reduceLeDiff, aLoad, aStore, e1, e2, e3]; exact rfl) (h := ?_) | refine wn (h := ?_) | fail)
      refine awOps_nil (hK _ _ ?_)
      clear hK K
      refine aw_ret ?_
      simp only [go_sem, ↓reduceIte, Nat.reduceEqDiff, reduceCtorEq, Nat.reduceAdd, Nat.reduceMul, Nat.reduceLeDiff, aLoad, aStore, FnQ, resA]
      -- 0f3f.ret
      refine fun _ => ⟨by first | rfl | trivial, by first | exact fun _ _ => rfl | trivial, by first | rfl | trivial, by first | rfl | trivial⟩
end Go.Am.Seat
/-
  UnifyOneWay: for every input the law returns true, and each argument reads as it read: the row, out of the walk's contract (fn8) and the plain law.
-/
namespace Go.Proofs.Yticnfndhinjbbaa.unifyOneWay
open Go.ChangeShapes Go.WideShapes Go.ChangeAt Go.RowKit Go.Am Go.Am.Seat
theorem own : ownKnob Try.prog.godebug = none := by kernel_rfl
theorem laidOut : laidOutB Try.prog = true := by kernel_rfl
set_option maxRecDepth 100000 in
theorem lifted (os : Os) (started : os.Started) (H : Type) (enc : TypeId × Value → H) :
    ReturnsInHanded {} Try.checked os 8 .any (Rows.unifyOneWaySpec.pre6 enc Try.prog Try.f8 Rows.unifyOneWayRow.domain false) (Rows.unifyOneWaySpec.post enc Try.prog Try.f8 false true false false) := by
  refine returnsInHanded_of_change_sized (C := Try.checked) own started (by kernel_rfl) Try.func8
    (ChangeSpec.witness6 (enc := enc) (C := Try.checked) false ⟨#[], #[.slice none 0 0, .slice none 0 0], []⟩ 8 (by kernel_rfl) (by kernel_rfl) (by kernel_rfl) (by kernel_rfl)) ?_
  intro W base args ds gs before hval0 hW hcnd hsz0 _
  have hsz : (DataW.weightsEach Try.prog (Try.f8.params.toList ++ Rows.unifyOneWaySpec.plain.varTypes Try.prog) (ds ++ gs)).all (· ≤ reachBytes) = true := hsz0
  have hval : ∀ (j : Nat) t v, Try.f8.params[j]? = some t → args[j]? = some v → Value.okWide Try.prog W .any base t v := hval0
  have hW' := hW
  obtain ⟨p, q, hA0, hV, rfl, hfz, hnd⟩ := hW
  have hA : DataW.TrodAll enc Try.prog W 0 (fun _ => true) true Try.f8.params.toList args.toList ds p := hA0
  rw [Try.params8] at hA hval hsz
  obtain ⟨v0, vs0, d0, ds0, p0, q0, hargs, rfl, rfl, h0, r0⟩ := trodAll_cons hA
  obtain ⟨v1, vs1, d1, ds1, p1, q1, rfl, rfl, rfl, h1, r1⟩ := trodAll_cons r0
  obtain ⟨rfl, rfl, rfl⟩ := trodAll_nil r1
  obtain rfl : args = #[v0, v1] := by cases args; simp_all
  obtain ⟨rfl, rfl⟩ := trodVars_none hV
  obtain ⟨a0, len0, cap0, rfl⟩ := okWide_slice Try.underlying22 (hval 0 22 v0 rfl rfl)
  have k0 := h0
  have lt0 : ∀ x ∈ p0, x.block < W.heap.size := by obtain ⟨m, hm⟩ := k0; exact DataW.trod_lt m _ _ _ hm
  obtain ⟨l0, ⟨⟨sc0, hsr0, hg0⟩, hl0, hn0⟩⟩ : ∃ l, ReadsC W (.slice a0 len0 cap0) l := by
    obtain ⟨fuel, hf⟩ := h0
    obtain ⟨v, l, hcs, hr⟩ := open_cells hf fun n hn => by
      have := List.all_eq_true.1 hsz n (DataW.weights_mem_each (j := 0) (t := 22) rfl rfl n hn)
      simpa using this
    simp only [Value.cells, List.cons.injEq, and_true] at hcs
    subst hcs
    exact ⟨l, hr⟩
  obtain ⟨a1, len1, cap1, rfl⟩ := okWide_slice Try.underlying22 (hval 1 22 v1 rfl rfl)
  have k1 := h1
  have lt1 : ∀ x ∈ p1, x.block < W.heap.size := by obtain ⟨m, hm⟩ := k1; exact DataW.trod_lt m _ _ _ hm
  obtain ⟨l1, ⟨⟨sc1, hsr1, hg1⟩, hl1, hn1⟩⟩ : ∃ l, ReadsC W (.slice a1 len1 cap1) l := by
    obtain ⟨fuel, hf⟩ := h1
    obtain ⟨v, l, hcs, hr⟩ := open_cells hf fun n hn => by
      have := List.all_eq_true.1 hsz n (DataW.weights_mem_each (j := 1) (t := 22) rfl rfl n hn)
      simpa using this
    simp only [Value.cells, List.cons.injEq, and_true] at hcs
    subst hcs
    exact ⟨l, hr⟩
  clear hA0 hval0 hsz0
  have hc := calls_of (s := ⟨fun _ => .dead, 0, fun _ => .ready⟩) rfl (fn8 noL l0 l1 _ sc0 sc1 hg0 hg1 hl0 hl1 hn0 hn1) (W := W) (vs := [.slice a0 len0 cap0, .slice a1 len1 cap1]) (VRs.cons (by simpa only [VR, AR, SR] using hsr0) (VRs.cons (by simpa only [VR, AR, SR] using hsr1) VRs.nil))
  refine hc.mono fun e W' ⟨⟨v, m', G', he, hvr⟩, bel⟩ => ?_
  simp only [VR, AR, SR] at hvr
  subst hvr
  subst he
  exact ⟨_, rfl, _, _, _, [], _, [], hW', trodAll_mk1 (shut_bool Try.underlying4 _), (trodAll_cons_mk (Below.trod laidOut (by kernel_rfl) (of_decide_eq_true (by kernel_rfl)) k0 bel lt0) (trodAll_cons_mk (Below.trod laidOut (by kernel_rfl) (of_decide_eq_true (by kernel_rfl)) k1 bel lt1) trodAll_mk0)), rfl, bel.frame _, fun h => by cases h⟩
theorem over : Rows.unifyOneWayRow.holds Try.pinned (OpenSpec.ofChange Rows.unifyOneWaySpec) :=
  OpenClaim.holds_of_wide 8 Try.f8 rfl rfl rfl rfl rfl rfl rfl ⟨rfl, rfl, rfl, rfl, rfl⟩ rfl rfl rfl rfl rfl (by kernel_rfl) Try.func8 (by kernel_rfl)
    (of_decide_eq_true (by kernel_rfl)) (by unfold Func.isWrapper; first | (rw [if_pos (by decide +kernel)]; kernel_rfl) | (rw [if_neg (by decide +kernel)]; exact ⟨rfl, rfl⟩))
    (fun os started H enc _ => lifted os started H enc)
theorem proved : Rows.UnifyOneWaySaid := over
#print axioms proved
end Go.Proofs.Yticnfndhinjbbaa.unifyOneWay
namespace Go.Proofs.Yticnfndhinjbbaa
/-- The row, under a short name, for the claim. -/
theorem unifyOneWay_holds : Rows.UnifyOneWaySaid := unifyOneWay.proved
end Go.Proofs.Yticnfndhinjbbaa
/-
  MADE BY PROGRAM (am.py): the walks of functions 4.
-/
namespace Go.Am.Seat
open Go.Proofs

theorem fnApplyG (L : Loops) {bs : List (Int × List Cell)} {t w : List Cell} {g : Bool} (hv : appT (bmap bs) t = w) (hg : g = decide (w.length ≤ 200)) (s : Me) (sx x : Sc) (hsx : GSl encB sx (bs.map bndI)) (hx : GSl encC x t) (hb : bs.length ≤ 1000 ∧ ∀ b ∈ bs, b.2.length ≤ 200) (ht : RTm t) : FnL Try.prog L 21 [.av (.sc sx), .av (.sc x)] s fun r s' => (∃ y, r = .tup [.av (.sc y), vB g] ∧ (g = true → GSl encC y w)) ∧ s' = s := by
  have := ht.len
  refine (fnApply L bs t s sx x hsx hx (by omega) (fun b h => by have := hb.2 b h; omega) ht.ok (by omega)).mono fun r s' ⟨h1, h2⟩ => ⟨?_, h2⟩
  rw [hv] at h1
  rcases h1 with ⟨h3, h⟩ | ⟨h3, y, h, hy⟩
  · rw [show g = false by rw [hg]; exact decide_eq_false (by omega)]
    exact ⟨_, h, fun h => by cases h⟩
  · rw [show g = true by rw [hg]; exact decide_eq_true h3]
    exact ⟨y, h, fun _ => hy⟩
set_option maxRecDepth 10000 in
/-- What Mgu can tell. -/
theorem mgu_three {a b : List Cell} (ha : RTm a) (hb : RTm b) : ((mgu a b).2 ≠ 0 ∧ (mgu a b).1 = [] ∧ ((mgu a b).2 = 3 ∨ (mgu a b).2 = 2) ∧ sameL a b = false) ∨ ((mgu a b).2 = 0 ∧ ∃ s, NormO a b s ∧ small s ∧ (mgu a b).1 = bnds s) := by
  have hne : (mgu a b).2 ≠ 0 → sameL a b = false := fun h => by
    rw [sameL_false]
    intro e
    subst e
    rw [mgu_self ha] at h
    exact h rfl
  rcases mgu_cases ha hb with ⟨h, _⟩ | ⟨s, hs, h⟩
  · rw [h] at hne ⊢
    exact .inl ⟨by decide, rfl, .inl rfl, hne (by decide)⟩
  · by_cases hm : small s
    · rw [mguO_small hm] at h
      rw [h]
      exact .inr ⟨rfl, s, hs, hm, rfl⟩
    · rw [mguO_big hm] at h
      rw [h] at hne ⊢
      exact .inl ⟨by decide, rfl, .inr rfl, hne (by decide)⟩
theorem take_contains {l : List Int} {j : Nat} (hj : j < l.length) (n : Int) : (l.take (j + 1)).contains n = ((l.take j).contains n || (l[j] == n)) := by
  rw [List.take_succ_eq_append_getElem hj, Bool.eq_iff_iff]
  simp only [List.contains_iff_mem, List.mem_append, List.mem_singleton, Bool.or_eq_true, beq_iff_eq]
  exact or_congr Iff.rfl ⟨fun h => h.symm, fun h => h.symm⟩

-- many steps
theorem bod4 : Try.f4.body = some (Try.f4.body.getD .skip) := rfl
set_option maxHeartbeats 2000000 in
set_option maxRecDepth 20000 in
theorem fn4 (L : Loops) (a b : List Cell) (s : Me) (sa sb : Sc) (ha : GSl encC sa a) (hb : GSl encC sb b) (hla : a.length ≤ 281474976710656) (hlb : b.length ≤ 281474976710656) (hna : ∀ c ∈ a, c.name.size ≤ 1152921504606846976) (hnb : ∀ c ∈ b, c.name.size ≤ 1152921504606846976) : FnL Try.prog L 4 [.av (.sc sa), .av (.sc sb)] s fun r s' => (r = vB true) ∧ s' = s := by
  refine FnL.pure (R := fun r => r = vB true) ?_
  refine fn_of_body (ts := [4]) Try.func4 bod4 rfl (by simp) (by simp [Try.ntmps4]) fun D0 => ?_
  unfold Try.f4
  simp only [Option.getD_some, initSl]
  refine aw_region_seq C (pb := false) rfl fun K hK => ?_
  repeat' (first | refine wy0 (h := ?_) | fail)
  refine awOps_nil (hK _ _ ?_)
  clear hK K
  refine aw_region_seq C (pb := false) rfl fun K hK => ?_
  (refine wc (And.intro Try.call11 (fn11 L _)) ?_; rintro _ _ ⟨rfl, rfl⟩)
  repeat' (first | refine wy0 (h := ?_) | fail)
  refine awOps_nil (hK _ _ ?_)
  clear hK K
  refine aw_region_seq C (pb := false) rfl fun K hK => ?_
  repeat' (first | refine wy0 (h := ?_) | fail)
  refine wc (And.intro Try.call12 (fnMade L a 30 _ sa ha hla hna (by decide))) ?_
  rintro _ _ ⟨⟨t, rfl, rt, hlt⟩, rfl⟩
  repeat' (first | refine wy0 (h := ?_) | fail)
  refine awOps_nil (hK _ _ ?_)
  clear hK K
  refine aw_region_seq C (pb := false) rfl fun K hK => ?_
  repeat' (first | refine wy0 (h := ?_) | fail)
  refine wc (And.intro Try.call12 (fnMade L b 30 _ sb hb hlb hnb (by decide))) ?_
  rintro _ _ ⟨⟨u, rfl, ru, hlu⟩, rfl⟩
  repeat' (first | refine wy0 (h := ?_) | fail)
  refine awOps_nil (hK _ _ ?_)
  refine AW.less (sl' := [(0, vC t), (1, vC u), (5, vB true)]) (AllIn.less ⟨rfl, rfl, rfl, trivial⟩) ?_
  clear hK K
  refine aw_region_seq C (pb := false) rfl fun K hK => ?_
  repeat' (first | refine wy0 (h := ?_) | fail)
  refine wc (And.intro Try.call13 (fnMgu L rt ru _)) ?_
  rintro _ _ ⟨⟨z1, rfl, hz1⟩, rfl⟩
  repeat' (first | refine wy0 (h := ?_) | fail)
  refine awOps_nil (hK _ _ ?_)
  refine AW.less (sl' := [(0, vC t), (1, vC u), (5, vB true), (6, .av (.sc z1)), (7, vI (mgu t u).2)]) (AllIn.less ⟨rfl, rfl, rfl, rfl, rfl, trivial⟩) ?_
  clear hK K
  refine aw_seq ?_
  have t1 := rt.pos
  have u1 := ru.pos
  have h3 := mgu_three rt ru
  obtain ⟨e, he⟩ : ∃ e, e = (mgu t u).2 := ⟨_, rfl⟩
  obtain ⟨o, ho⟩ : ∃ o, o = (mgu t u).1 := ⟨_, rfl⟩
  rw [← he, ← ho] at h3
  rw [← ho] at hz1
  rw [← he]
  clear he ho
  refine aw_region_seq C (pb := false) rfl fun K hK => ?_
  repeat' (first | refine wy0 (h := ?_) | fail)
  refine awOps_nil (hK _ _ ?_)
  clear hK K
  refine aw_cond (by rfl) ?_ ?_
  · intro hc0
    rcases h3 with ⟨h1, h2, h3, h4⟩ | ⟨h, _⟩
    rotate_left
    · rw [h] at hc0; cases hc0
    subst h2
    have hl0 : (((([] : List (Nat × List Cell)).map bndOf).length : Int) == 0) = true := rfl
    have e1 : ((3 : Int) == 3) = true := rfl
    have e2 : ((2 : Int) == 3) = false := rfl
    have e3 : ((2 : Int) == 2) = true := rfl
    refine aw_cut_seq C (pb := false) [(4, vB true)] rfl ?_ fun n6 hn6 => ?_
    · rcases h3 with rfl | rfl
      · skip
        repeat' (first | refine wy1 (a := by simp only [go_sem, ↓reduceIte, Nat.reduceEqDiff, reduceCtorEq, Nat.reduceAdd, Nat.reduceMul, Nat.reduceLeDiff, aLoad, aStore, lenB hz1, hl0, e1]; exact rfl) (h := ?_) | refine wn (h := ?_) | fail)
        try (first | (refine wc (And.intro Try.call20 (fnSameC L h4 _ _ _ (gslC t) (gslC u) (by omega))) ?_; rintro _ _ ⟨rfl, rfl⟩) | refine wn (h := ?_) | fail)
        repeat' (first | refine wy1 (a := by simp only [go_sem, ↓reduceIte, Nat.reduceEqDiff, reduceCtorEq, Nat.reduceAdd, Nat.reduceMul, Nat.reduceLeDiff, aLoad, aStore, lenB hz1, hl0, e1]; exact rfl) (h := ?_) | refine wn (h := ?_) | fail)
        exact awOps_nil ⟨⟨rfl, trivial⟩, rfl, (by first | omega | (dsimp only; omega)), rfl⟩
      · skip
        repeat' (first | refine wy1 (a := by simp only [go_sem, ↓reduceIte, Nat.reduceEqDiff, reduceCtorEq, Nat.reduceAdd, Nat.reduceMul, Nat.reduceLeDiff, aLoad, aStore, lenB hz1, hl0, e2, e3]; exact rfl) (h := ?_) | refine wn (h := ?_) | fail)
        try (first | (refine wc (And.intro Try.call20 (fnSameC L h4 _ _ _ (gslC t) (gslC u) (by omega))) ?_; rintro _ _ ⟨rfl, rfl⟩) | refine wn (h := ?_) | fail)
        repeat' (first | refine wy1 (a := by simp only [go_sem, ↓reduceIte, Nat.reduceEqDiff, reduceCtorEq, Nat.reduceAdd, Nat.reduceMul, Nat.reduceLeDiff, aLoad, aStore, lenB hz1, hl0, e2, e3]; exact rfl) (h := ?_) | refine wn (h := ?_) | fail)
        exact awOps_nil ⟨⟨rfl, trivial⟩, rfl, (by first | omega | (dsimp only; omega)), rfl⟩
    refine aw_ret ?_
    try simp only [thenA_normal, thenA_ret, thenA_exit, blockA_normal, blockA_ret, blockA_exit]
    simp only [go_sem, ↓reduceIte, Nat.reduceEqDiff, reduceCtorEq, Nat.reduceAdd, Nat.reduceMul, Nat.reduceLeDiff, aLoad, aStore, FnQ, resA]
    -- 0t.ret
    exact fun _ => ⟨by first | rfl | trivial, by first | exact fun _ _ => rfl | trivial, by first | rfl | trivial, by first | rfl | trivial⟩
  · intro hc0
    rcases h3 with ⟨h, _⟩ | ⟨h, σ, hσ, hsm, rfl⟩
    · exact absurd (by simpa using hc0) h
    clear hc0 h
    rw [map_bndOf] at hz1
    have hbm := bmap_norm rt ru hσ
    have hbl := bnds_len hsm
    have hbr := bnds_right rt ru hσ hsm
    have hbi := bnds_idem rt ru hσ
    have hbo : ∀ p ∈ (bnds σ).map toI, (varsG t [] ++ varsG u []).contains p.1 = true := fun p hp => by
      obtain ⟨n, hn, rfl, hne⟩ := bnds_mem.1 hp
      have hoc : occ (t ++ u) n := Classical.byContradiction fun k => hne (hσ.out n k)
      obtain ⟨c, hc, hk, en⟩ := hoc
      rw [List.contains_iff_mem, List.mem_append, varsG_occ, varsG_occ]
      exact (List.mem_append.1 hc).imp (fun h => ⟨c, h, hk, en⟩) fun h => ⟨c, h, hk, en⟩
    obtain ⟨bs, hbs⟩ : ∃ bs, bs = (bnds σ).map toI := ⟨_, rfl⟩
    rw [← hbs] at hz1 hbm hbl hbr hbi hbo
    clear hbs
    obtain ⟨w, hw⟩ : ∃ w, w = appT σ t := ⟨_, rfl⟩
    have hw2 : appT (bmap bs) u = w := by rw [hbm, hw, hσ.eq]
    have hw1 : appT (bmap bs) t = w := by rw [hbm, hw]
    obtain ⟨g, hg⟩ : ∃ g, g = decide (w.length ≤ 200) := ⟨_, rfl⟩
    clear hw
    refine aw_skip ?_
    simp only [thenA_normal, thenA_ret, thenA_exit, blockA_normal, blockA_ret, blockA_exit, ↓reduceIte, Nat.reduceEqDiff]
    refine aw_region_seq C (pb := false) rfl fun K hK => ?_
    repeat' (first | refine wy0 (h := ?_) | fail)
    refine wc (And.intro Try.call21 (fnApplyG L hw1 hg _ z1 _ hz1 (gslC t) hbl rt)) ?_
    rintro _ _ ⟨⟨y1, rfl, hy1⟩, rfl⟩
    repeat' (first | refine wy0 (h := ?_) | fail)
    refine awOps_nil (hK _ _ ?_)
    clear hK K
    refine aw_region_seq C (pb := false) rfl fun K hK => ?_
    repeat' (first | refine wy0 (h := ?_) | fail)
    refine wc (And.intro Try.call21 (fnApplyG L hw2 hg _ z1 _ hz1 (gslC u) hbl ru)) ?_
    rintro _ _ ⟨⟨y2, rfl, hy2⟩, rfl⟩
    repeat' (first | refine wy0 (h := ?_) | fail)
    refine awOps_nil (hK _ _ ?_)
    clear hK K
    refine aw_seq ?_
    refine aw_cut_seq C (pb := false) [(0, vC t), (1, vC u), (5, vB true), (6, .av (.sc z1)), (82, vB false)] rfl ?_ fun n9 hn9 => ?_
    · cases g
      · have e0 : (false != false) = false := rfl
        repeat' (first | refine wy1 (a := by simp only [go_sem, ↓reduceIte, Nat.reduceEqDiff, reduceCtorEq, Nat.reduceAdd, Nat.reduceMul, Nat.reduceLeDiff, aLoad, aStore, e0]; exact rfl) (h := ?_) | fail)
        (refine wc (And.intro Try.call22 (fn22 L bs _ z1 hz1 (by omega) hbr)) ?_; rintro _ _ ⟨rfl, rfl⟩)
        repeat' (first | refine wy1 (a := by simp only [go_sem, ↓reduceIte, Nat.reduceEqDiff, reduceCtorEq, Nat.reduceAdd, Nat.reduceMul, Nat.reduceLeDiff, aLoad, aStore, e0]; exact rfl) (h := ?_) | refine wn (h := ?_) | fail)
        try (first | (refine wc (And.intro Try.call23 (fn23 L bs _ z1 hz1 (by omega) (fun p hp => by have := hbl.2 p hp; omega) hbi)) ?_; rintro _ _ ⟨rfl, rfl⟩) | refine wn (h := ?_) | fail)
        repeat' (first | refine wy1 (a := by simp only [go_sem, ↓reduceIte, Nat.reduceEqDiff, reduceCtorEq, Nat.reduceAdd, Nat.reduceMul, Nat.reduceLeDiff, aLoad, aStore, e0]; exact rfl) (h := ?_) | refine wn (h := ?_) | fail)
        try (first | (refine wc (And.intro Try.call20 (fnSameC L (sameL_iff.2 rfl) _ _ _ (hy1 rfl) (hy2 rfl) (by have := of_decide_eq_true hg.symm; omega))) ?_; rintro _ _ ⟨rfl, rfl⟩) | refine wn (h := ?_) | fail)
        repeat' (first | refine wy1 (a := by simp only [go_sem, ↓reduceIte, Nat.reduceEqDiff, reduceCtorEq, Nat.reduceAdd, Nat.reduceMul, Nat.reduceLeDiff, aLoad, aStore, e0]; exact rfl) (h := ?_) | refine wn (h := ?_) | fail)
        exact awOps_nil ⟨⟨rfl, rfl, rfl, rfl, rfl, trivial⟩, rfl, (by first | omega | (dsimp only; omega)), rfl⟩
      · have e0 : (true != true) = false := rfl
        repeat' (first | refine wy1 (a := by simp only [go_sem, ↓reduceIte, Nat.reduceEqDiff, reduceCtorEq, Nat.reduceAdd, Nat.reduceMul, Nat.reduceLeDiff, aLoad, aStore, e0]; exact rfl) (h := ?_) | fail)
        (refine wc (And.intro Try.call22 (fn22 L bs _ z1 hz1 (by omega) hbr)) ?_; rintro _ _ ⟨rfl, rfl⟩)
        repeat' (first | refine wy1 (a := by simp only [go_sem, ↓reduceIte, Nat.reduceEqDiff, reduceCtorEq, Nat.reduceAdd, Nat.reduceMul, Nat.reduceLeDiff, aLoad, aStore, e0]; exact rfl) (h := ?_) | refine wn (h := ?_) | fail)
        try (first | (refine wc (And.intro Try.call23 (fn23 L bs _ z1 hz1 (by omega) (fun p hp => by have := hbl.2 p hp; omega) hbi)) ?_; rintro _ _ ⟨rfl, rfl⟩) | refine wn (h := ?_) | fail)
        repeat' (first | refine wy1 (a := by simp only [go_sem, ↓reduceIte, Nat.reduceEqDiff, reduceCtorEq, Nat.reduceAdd, Nat.reduceMul, Nat.reduceLeDiff, aLoad, aStore, e0]; exact rfl) (h := ?_) | refine wn (h := ?_) | fail)
        try (first | (refine wc (And.intro Try.call20 (fnSameC L (sameL_iff.2 rfl) _ _ _ (hy1 rfl) (hy2 rfl) (by have := of_decide_eq_true hg.symm; omega))) ?_; rintro _ _ ⟨rfl, rfl⟩) | refine wn (h := ?_) | fail)
        repeat' (first | refine wy1 (a := by simp only [go_sem, ↓reduceIte, Nat.reduceEqDiff, reduceCtorEq, Nat.reduceAdd, Nat.reduceMul, Nat.reduceLeDiff, aLoad, aStore, e0]; exact rfl) (h := ?_) | refine wn (h := ?_) | fail)
        exact awOps_nil ⟨⟨rfl, rfl, rfl, rfl, rfl, trivial⟩, rfl, (by first | omega | (dsimp only; omega)), rfl⟩
    refine aw_cond (by rfl) ?_ ?_
    · intro hc1
      cases hc1
    · intro hc1
      refine aw_skip ?_
      simp only [thenA_normal, thenA_ret, thenA_exit, blockA_normal, blockA_ret, blockA_exit, ↓reduceIte, Nat.reduceEqDiff]
      refine aw_region_seq C (pb := false) rfl fun K hK => ?_
      repeat' (first | refine wy0 (h := ?_) | fail)
      refine wc (And.intro Try.call24 (fn24o L t _ _ (gslC t) (by omega))) ?_
      rintro _ _ ⟨ob5, m5, rfl, hacc5, hm5, hlow5⟩
      repeat' (first | refine wy0 (h := ?_) | fail)
      refine awOps_nil (hK _ _ ?_)
      clear hK K
      refine aw_region_seq C (pb := false) rfl fun K hK => ?_
      repeat' (first | refine wy0 (h := ?_) | fail)
      refine wc (And.intro Try.call24 (fn24 L u _ _ (gslC u) (by omega))) ?_
      rintro _ _ ⟨⟨vu, rfl, hvu⟩, rfl⟩
      refine awOps_append (by rfl) (by rfl) (by rfl) (by rfl) hacc5 T36 rfl T3 rfl (by simp) (by simp [y3]) (aSrc_g (enc := encI) (k := 1) (fun _ => rfl) hvu _) (by simp [flat_len (enc := encI) (k := 1) (fun _ => rfl)]) (by have := varsG_len t []; have := varsG_len u []; simp only [List.length_nil] at *; omega) (by omega) (by have := hm5; dsimp only at this; omega) fun x6 ob6 hacc6 hlow6 _ => ?_
      repeat' (first | refine wy0 (h := ?_) | fail)
      refine awOps_nil (hK _ _ ?_)
      have hacc7 := hacc6
      rw [← List.length_append, ← List.map_append, ← List.flatMap_append] at hacc7
      have hll : (varsG t [] ++ varsG u []).length ≤ 60 := by have := varsG_len t []; have := varsG_len u []; simp only [List.length_nil, List.length_append] at *; omega
      obtain ⟨l, hl⟩ : ∃ l, l = varsG t [] ++ varsG u [] := ⟨_, rfl⟩
      rw [← hl] at hacc7 hbo hll
      obtain ⟨ty, ob7, hpv7, hty, _, hlow7, _⟩ := Acc.pure (enc := encI) (k := 1) (l := l) (fun _ => rfl) hacc7
      refine aw_pur 12 hpv7 ?_
      clear hK K
      refine aw_seq ?_
      refine aw_region_seq C (pb := false) rfl fun K hK => ?_
      repeat' (first | refine wy0 (h := ?_) | fail)
      refine awOps_nil (hK _ _ ?_)
      clear hK K
      refine aw_block ?_
      refine AW.less (sl' := [(0, vC t), (1, vC u), (5, vB true), (6, .av (.sc z1)), (12, .av (.sc ty)), (13, vI (0))]) (AllIn.less ⟨rfl, rfl, rfl, rfl, rfl, rfl, trivial⟩) (aw_loop (fun k sl1 s1 => ∃ (i : Nat), k = bs.length - i ∧ sl1 = [(0, vC t), (1, vC u), (5, vB true), (6, .av (.sc z1)), (12, .av (.sc ty)), (13, vI (i))] ∧ (Kp s s1) ∧ (i ≤ bs.length)) (k := bs.length - (0)) ⟨0, rfl, rfl, ⟨by have := hm5; dsimp only at this ⊢; omega, fun j hj => (hlow7 j (by dsimp only; omega)).trans ((hlow6 j (by dsimp only; omega)).trans (hlow5 j (by dsimp only; omega))), rfl⟩, Nat.zero_le _⟩ ?_)
      rintro k1 _ s1 ⟨i, hk1, rfl, hs1, hb1⟩
      refine aw_seq ?_
      refine aw_region_seq C (pb := false) rfl fun K hK => ?_
      repeat' (first | refine wy1 (a := by simp only [go_sem, ↓reduceIte, Nat.reduceEqDiff, reduceCtorEq, Nat.reduceAdd, Nat.reduceMul, Nat.reduceLeDiff, aLoad, aStore, lenB hz1, List.length_map]; exact rfl) (h := ?_) | fail)
      refine awOps_nil (hK _ _ ?_)
      clear hK K
      refine aw_cond (by rfl) ?_ ?_
      · intro hc2
        try simp only [decide_eq_true_eq, decide_eq_false_iff_not] at hc2
        have hi2 : i < bs.length := by omega
        have hix : aIndex T 25 (.av (.sc z1)) (vI i) = some (.av (.sc (.cptr (.int .i64 bs[i].1 :: .sl bs[i].2.length (bs[i].2.flatMap encC) :: ((bs.map bndI).drop (i + 1)).flatMap encB)))) := by
          have := idxB hz1 (i := i) (by rw [List.length_map]; exact hi2)
          rw [List.getElem_map] at this
          exact this
        obtain ⟨n, hn⟩ : ∃ n, n = bs[i].1 := ⟨_, rfl⟩
        have hcn := hbo bs[i] (List.getElem_mem hi2)
        rw [← hn] at hix hcn
        refine aw_skip ?_
        simp only [thenA_normal, thenA_ret, thenA_exit, blockA_normal, blockA_ret, blockA_exit, ↓reduceIte, Nat.reduceEqDiff]
        refine aw_seq ?_
        refine aw_block ?_
        refine aw_region_seq C (pb := false) rfl fun K hK => ?_
        repeat' (first | refine wy0 (h := ?_) | fail)
        refine awOps_nil (hK _ _ ?_)
        clear hK K
        refine aw_seq ?_
        refine aw_region_seq C (pb := false) rfl fun K hK => ?_
        repeat' (first | refine wy0 (h := ?_) | fail)
        refine awOps_nil (hK _ _ ?_)
        clear hK K
        refine aw_block ?_
        refine AW.less (sl' := [(0, vC t), (1, vC u), (5, vB true), (6, .av (.sc z1)), (12, .av (.sc ty)), (13, vI i), (14, vB (false)), (15, vI (0))]) (AllIn.less ⟨rfl, rfl, rfl, rfl, rfl, rfl, rfl, rfl, trivial⟩) (aw_loop (fun k sl1 s1 => ∃ (j : Nat) (b : Bool), k = l.length - j ∧ sl1 = [(0, vC t), (1, vC u), (5, vB true), (6, .av (.sc z1)), (12, .av (.sc ty)), (13, vI i), (14, vB (b)), (15, vI (j))] ∧ (Kp s s1) ∧ (j ≤ l.length) ∧ (b = (l.take j).contains n)) (k := l.length - (0)) ⟨0, false, rfl, rfl, hs1.up (by omega), Nat.zero_le _, rfl⟩ ?_)
        rintro k2 _ s2 ⟨j, b, hk2, rfl, hs2, hb2, hbv⟩
        refine aw_seq ?_
        refine aw_region_seq C (pb := false) rfl fun K hK => ?_
        repeat' (first | refine wy1 (a := by simp only [go_sem, ↓reduceIte, Nat.reduceEqDiff, reduceCtorEq, Nat.reduceAdd, Nat.reduceMul, Nat.reduceLeDiff, aLoad, aStore, lenI hty]; exact rfl) (h := ?_) | fail)
        refine awOps_nil (hK _ _ ?_)
        clear hK K
        refine aw_cond (by rfl) ?_ ?_
        · intro hc3
          try simp only [decide_eq_true_eq, decide_eq_false_iff_not] at hc3
          have hj2 : j < l.length := by omega
          refine aw_skip ?_
          simp only [thenA_normal, thenA_ret, thenA_exit, blockA_normal, blockA_ret, blockA_exit, ↓reduceIte, Nat.reduceEqDiff]
          refine aw_seq ?_
          refine aw_block ?_
          refine aw_silcut C (pb := false) 14 _ [(0, vC t), (1, vC u), (5, vB true), (6, .av (.sc z1)), (12, .av (.sc ty)), (13, vI i), (15, vI j), (14, vB (b || (l[j] == n)))] rfl (regOk_of [0, 1, 3, 3, 15, 31, 3, 3, 195, 451, 963, 2047, 4095, 8191] (by kernel_rfl) rfl) rfl (fun _ _ => rfl) ?_ ?_
          · cases b
            · have h0 := idxI hty hj2
              repeat' (first | refine ws1 (a := by simp only [go_sem, ↓reduceIte, Nat.reduceEqDiff, reduceCtorEq, Nat.reduceAdd, Nat.reduceMul, Nat.reduceLeDiff, aLoad, aStore, h0, hix, Bool.false_or]; exact rfl) (h := ?_) | refine wsn (h := ?_) | fail)
              exact sil_nil ⟨rfl, rfl, rfl, rfl, rfl, rfl, rfl, rfl, trivial⟩
            · skip
              repeat' (first | refine ws1 (a := by simp only [go_sem, ↓reduceIte, Nat.reduceEqDiff, reduceCtorEq, Nat.reduceAdd, Nat.reduceMul, Nat.reduceLeDiff, aLoad, aStore, Bool.true_or]; exact rfl) (h := ?_) | refine wsn (h := ?_) | fail)
              exact sil_nil ⟨rfl, rfl, rfl, rfl, rfl, rfl, rfl, rfl, trivial⟩
          simp only [thenA_normal, thenA_ret, thenA_exit, blockA_normal, blockA_ret, blockA_exit]
          refine aw_region C (pb := false) rfl ?_
          repeat' (first | refine wy1 (a := by simp only [go_sem, ↓reduceIte, Nat.reduceEqDiff, reduceCtorEq, Nat.reduceAdd, Nat.reduceMul, Nat.reduceLeDiff, aLoad, aStore, wrap_small ((j : Int) + 1) (by omega) (by omega)]; exact rfl) (h := ?_) | fail)
          refine awOps_nil ?_
          try simp only [thenA_normal, thenA_ret, thenA_exit, blockA_normal, blockA_ret, blockA_exit]
          -- end of round 1 at 0f1f2t3t
          refine ⟨l.length - (j + 1), [(0, vC t), (1, vC u), (5, vB true), (6, .av (.sc z1)), (12, .av (.sc ty)), (13, vI i), (14, vB ((b || (l[j] == n)))), (15, vI (j + 1))], by omega, AllIn.less ⟨rfl, rfl, rfl, rfl, rfl, rfl, rfl, rfl, trivial⟩, j + 1, (b || (l[j] == n)), rfl, rfl, ?_, ?_, ?_⟩
          · exact hs2.up (by omega)
          · omega
          · rw [take_contains hj2, hbv]
        · intro hc3
          try simp only [decide_eq_true_eq, decide_eq_false_iff_not] at hc3
          refine aw_exit ?_
          simp only [thenA_normal, thenA_ret, thenA_exit, blockA_normal, blockA_ret, blockA_exit, ↓reduceIte, Nat.reduceEqDiff]
          refine aw_region_seq C (pb := false) rfl fun K hK => ?_
          repeat' (first | refine wy0 (h := ?_) | fail)
          refine awOps_nil (hK _ _ ?_)
          clear hK K
          refine aw_cond (by rfl) ?_ ?_
          · intro hc4
            exfalso
            rw [List.take_of_length_le (by omega), hcn] at hbv
            subst hbv
            cases hc4
          · intro hc4
            refine aw_skip ?_
            simp only [thenA_normal, thenA_ret, thenA_exit, blockA_normal, blockA_ret, blockA_exit, ↓reduceIte, Nat.reduceEqDiff]
            refine aw_region C (pb := false) rfl ?_
            repeat' (first | refine wy1 (a := by simp only [go_sem, ↓reduceIte, Nat.reduceEqDiff, reduceCtorEq, Nat.reduceAdd, Nat.reduceMul, Nat.reduceLeDiff, aLoad, aStore, wrap_small ((i : Int) + 1) (by omega) (by omega)]; exact rfl) (h := ?_) | fail)
            refine awOps_nil ?_
            try simp only [thenA_normal, thenA_ret, thenA_exit, blockA_normal, blockA_ret, blockA_exit]
            -- end of round 0 at 0f1f2t3f.x24f
            refine ⟨bs.length - (i + 1), [(0, vC t), (1, vC u), (5, vB true), (6, .av (.sc z1)), (12, .av (.sc ty)), (13, vI (i + 1))], by omega, AllIn.less ⟨rfl, rfl, rfl, rfl, rfl, rfl, trivial⟩, i + 1, rfl, rfl, ?_, ?_⟩
            · exact hs2.up (by omega)
            · omega
      · intro hc2
        try simp only [decide_eq_true_eq, decide_eq_false_iff_not] at hc2
        refine aw_exit ?_
        simp only [thenA_normal, thenA_ret, thenA_exit, blockA_normal, blockA_ret, blockA_exit, ↓reduceIte, Nat.reduceEqDiff]
        refine aw_region_seq C (pb := false) rfl fun K hK => ?_
        repeat' (first | refine wy0 (h := ?_) | fail)
        refine awOps_nil (hK _ _ ?_)
        clear hK K
        refine aw_ret ?_
        simp only [go_sem, ↓reduceIte, Nat.reduceEqDiff, reduceCtorEq, Nat.reduceAdd, Nat.reduceMul, Nat.reduceLeDiff, aLoad, aStore, FnQ, resA]
        -- 0f1f2f.x0.ret
        exact fun _ => ⟨by first | rfl | trivial, by first | exact fun _ _ => rfl | exact hs1.2.1, by first | rfl | exact hs1.2.2, by first | rfl | trivial⟩
end Go.Am.Seat
/-
  UnifyAlike: for every input the law returns true, and each argument reads as it read: the row, out of the walk's contract (fn4) and the plain law.
-/
namespace Go.Proofs.Yticnfndhinjbbaa.unifyAlike
open Go.ChangeShapes Go.WideShapes Go.ChangeAt Go.RowKit Go.Am Go.Am.Seat
theorem own : ownKnob Try.prog.godebug = none := by kernel_rfl
theorem laidOut : laidOutB Try.prog = true := by kernel_rfl
set_option maxRecDepth 100000 in
theorem lifted (os : Os) (started : os.Started) (H : Type) (enc : TypeId × Value → H) :
    ReturnsInHanded {} Try.checked os 4 .any (Rows.unifyAlikeSpec.pre6 enc Try.prog Try.f4 Rows.unifyAlikeRow.domain false) (Rows.unifyAlikeSpec.post enc Try.prog Try.f4 false true false false) := by
  refine returnsInHanded_of_change_sized (C := Try.checked) own started (by kernel_rfl) Try.func4
    (ChangeSpec.witness6 (enc := enc) (C := Try.checked) false ⟨#[], #[.slice none 0 0, .slice none 0 0], []⟩ 8 (by kernel_rfl) (by kernel_rfl) (by kernel_rfl) (by kernel_rfl)) ?_
  intro W base args ds gs before hval0 hW hcnd hsz0 _
  have hsz : (DataW.weightsEach Try.prog (Try.f4.params.toList ++ Rows.unifyAlikeSpec.plain.varTypes Try.prog) (ds ++ gs)).all (· ≤ reachBytes) = true := hsz0
  have hval : ∀ (j : Nat) t v, Try.f4.params[j]? = some t → args[j]? = some v → Value.okWide Try.prog W .any base t v := hval0
  have hW' := hW
  obtain ⟨p, q, hA0, hV, rfl, hfz, hnd⟩ := hW
  have hA : DataW.TrodAll enc Try.prog W 0 (fun _ => true) true Try.f4.params.toList args.toList ds p := hA0
  rw [Try.params4] at hA hval hsz
  obtain ⟨v0, vs0, d0, ds0, p0, q0, hargs, rfl, rfl, h0, r0⟩ := trodAll_cons hA
  obtain ⟨v1, vs1, d1, ds1, p1, q1, rfl, rfl, rfl, h1, r1⟩ := trodAll_cons r0
  obtain ⟨rfl, rfl, rfl⟩ := trodAll_nil r1
  obtain rfl : args = #[v0, v1] := by cases args; simp_all
  obtain ⟨rfl, rfl⟩ := trodVars_none hV
  obtain ⟨a0, len0, cap0, rfl⟩ := okWide_slice Try.underlying22 (hval 0 22 v0 rfl rfl)
  have k0 := h0
  have lt0 : ∀ x ∈ p0, x.block < W.heap.size := by obtain ⟨m, hm⟩ := k0; exact DataW.trod_lt m _ _ _ hm
  obtain ⟨l0, ⟨⟨sc0, hsr0, hg0⟩, hl0, hn0⟩⟩ : ∃ l, ReadsC W (.slice a0 len0 cap0) l := by
    obtain ⟨fuel, hf⟩ := h0
    obtain ⟨v, l, hcs, hr⟩ := open_cells hf fun n hn => by
      have := List.all_eq_true.1 hsz n (DataW.weights_mem_each (j := 0) (t := 22) rfl rfl n hn)
      simpa using this
    simp only [Value.cells, List.cons.injEq, and_true] at hcs
    subst hcs
    exact ⟨l, hr⟩
  obtain ⟨a1, len1, cap1, rfl⟩ := okWide_slice Try.underlying22 (hval 1 22 v1 rfl rfl)
  have k1 := h1
  have lt1 : ∀ x ∈ p1, x.block < W.heap.size := by obtain ⟨m, hm⟩ := k1; exact DataW.trod_lt m _ _ _ hm
  obtain ⟨l1, ⟨⟨sc1, hsr1, hg1⟩, hl1, hn1⟩⟩ : ∃ l, ReadsC W (.slice a1 len1 cap1) l := by
    obtain ⟨fuel, hf⟩ := h1
    obtain ⟨v, l, hcs, hr⟩ := open_cells hf fun n hn => by
      have := List.all_eq_true.1 hsz n (DataW.weights_mem_each (j := 1) (t := 22) rfl rfl n hn)
      simpa using this
    simp only [Value.cells, List.cons.injEq, and_true] at hcs
    subst hcs
    exact ⟨l, hr⟩
  clear hA0 hval0 hsz0
  have hc := calls_of (s := ⟨fun _ => .dead, 0, fun _ => .ready⟩) rfl (fn4 noL l0 l1 _ sc0 sc1 hg0 hg1 hl0 hl1 hn0 hn1) (W := W) (vs := [.slice a0 len0 cap0, .slice a1 len1 cap1]) (VRs.cons (by simpa only [VR, AR, SR] using hsr0) (VRs.cons (by simpa only [VR, AR, SR] using hsr1) VRs.nil))
  refine hc.mono fun e W' ⟨⟨v, m', G', he, hvr⟩, bel⟩ => ?_
  simp only [VR, AR, SR] at hvr
  subst hvr
  subst he
  exact ⟨_, rfl, _, _, _, [], _, [], hW', trodAll_mk1 (shut_bool Try.underlying4 _), (trodAll_cons_mk (Below.trod laidOut (by kernel_rfl) (of_decide_eq_true (by kernel_rfl)) k0 bel lt0) (trodAll_cons_mk (Below.trod laidOut (by kernel_rfl) (of_decide_eq_true (by kernel_rfl)) k1 bel lt1) trodAll_mk0)), rfl, bel.frame _, fun h => by cases h⟩
theorem over : Rows.unifyAlikeRow.holds Try.pinned (OpenSpec.ofChange Rows.unifyAlikeSpec) :=
  OpenClaim.holds_of_wide 4 Try.f4 rfl rfl rfl rfl rfl rfl rfl ⟨rfl, rfl, rfl, rfl, rfl⟩ rfl rfl rfl rfl rfl (by kernel_rfl) Try.func4 (by kernel_rfl)
    (of_decide_eq_true (by kernel_rfl)) (by unfold Func.isWrapper; first | (rw [if_pos (by decide +kernel)]; kernel_rfl) | (rw [if_neg (by decide +kernel)]; exact ⟨rfl, rfl⟩))
    (fun os started H enc _ => lifted os started H enc)
theorem proved : Rows.UnifyAlikeSaid := over
#print axioms proved
end Go.Proofs.Yticnfndhinjbbaa.unifyAlike
namespace Go.Proofs.Yticnfndhinjbbaa
/-- The row, under a short name, for the claim. -/
theorem unifyAlike_holds : Rows.UnifyAlikeSaid := unifyAlike.proved
end Go.Proofs.Yticnfndhinjbbaa
/-
  UnifyOneWay and UnifyAlike: for every input each law returns true, and each argument reads as it read: the rows, out of the walks' contracts (fn8, fn4) and the plain law.
-/
