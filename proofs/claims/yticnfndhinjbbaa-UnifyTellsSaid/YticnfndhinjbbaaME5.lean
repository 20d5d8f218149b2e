/-
  Part 5 of the proof: La, W34, W63, W35, W13, W17, Lb, Lu, Lv, Lm, Ls, Lj, Lk, W66, W67, W40, W44.
-/
import Derived.Test.YticnfndhinjbbaaME4
set_option linter.unusedVariables false
set_option linter.unusedSimpArgs false
/-
  THE PLAIN LAW, part A: right terms, as rows of cells.
-/
namespace Go.Am.Seat
/-- A right term. -/
structure RTm (t : List Cell) : Prop where
  tk : takes t 1 = some t.length
  ok : ∀ c ∈ t, cellOk c = true
  pos : 1 ≤ t.length
  len : t.length ≤ 200
theorem arC_nat {c : Cell} (hc : cellOk c = true) (o : Nat) : (if c.kind = 3 then ((o + 1 : Nat) : Int) - 1 + c.n else ((o + 1 : Nat) : Int) - 1) = ((o + arC c : Nat) : Int) := by
  unfold arC
  split
  · have := cellOk_n hc (by assumption); omega
  · omega
theorem endG_takes : ∀ {l : List Cell} {o : Nat} {i : Nat} {r : Int}, 0 < o → endG l o i = r → r ≠ -1 → ∃ k, r = ((i + k : Nat) : Int) ∧ takes l o = some k ∧ ∀ c ∈ l.take k, cellOk c = true
  | [], o, i, r, _, h, hr => absurd h.symm (by simpa [endG] using hr)
  | c :: l, o, i, r, ho, h, hr => by
    obtain ⟨o, rfl⟩ : ∃ p, o = p + 1 := ⟨o - 1, by omega⟩
    rw [endG] at h
    split at h
    · rename_i hc
      rw [arC_nat hc] at h
      split at h
      · rename_i h0
        have h0' : o + arC c = 0 := by omega
        refine ⟨1, by omega, by simp [takes, h0'], fun d hd => ?_⟩
        simp only [List.take_succ_cons, List.take_zero, List.mem_singleton] at hd
        rw [hd]; exact hc
      · rename_i h0
        obtain ⟨k, h1, h2, h3⟩ := endG_takes (i := i + 1) (by omega) h hr
        refine ⟨k + 1, by omega, by simp [takes, h2], fun d hd => ?_⟩
        simp only [List.take_succ_cons, List.mem_cons] at hd
        rcases hd with rfl | hd
        · exact hc
        · exact h3 d hd
    · exact absurd h.symm hr
theorem takes_endG : ∀ {l : List Cell} {o k : Nat} {i : Nat}, 0 < o → takes l o = some k → (∀ c ∈ l, cellOk c = true) → endG l o i = ((i + k : Nat) : Int)
  | [], o, k, i, ho, h, _ => (takes_nil ho h).elim
  | c :: l, o, k, i, ho, h, hok => by
    obtain ⟨p, rfl, h1⟩ := takes_cons ho h
    obtain ⟨o, rfl⟩ : ∃ p, o = p + 1 := ⟨o - 1, by omega⟩
    have hc := hok c (by simp)
    rw [endG, if_pos hc, arC_nat hc]
    simp only [Nat.add_sub_cancel] at h1
    split
    · rename_i h0
      rw [show o + arC c = 0 by omega] at h1
      have := takes_zero h1
      omega
    · rename_i h0
      rw [takes_endG (i := i + 1) (by omega) h1 fun c h => hok c (by simp [h])]
      omega
theorem right_tm {t : List Cell} (h : rightOk t = true) : RTm t := by
  simp only [rightOk, Bool.and_eq_true, decide_eq_true_eq, beq_iff_eq] at h
  obtain ⟨⟨h1, h2⟩, h3⟩ := h
  obtain ⟨k, k1, k2, k3⟩ := endG_takes (o := 1) (i := 0) (by omega) h3 (by omega)
  have hk : k = t.length := by omega
  subst hk
  exact ⟨k2, by simpa using k3, by omega, by omega⟩
theorem tm_right {t : List Cell} (h : RTm t) : rightOk t = true := by
  have := takes_endG (i := 0) (by omega) h.tk h.ok
  have h1 := h.pos
  have h2 := h.len
  simp only [rightOk, Bool.and_eq_true, decide_eq_true_eq, beq_iff_eq]
  refine ⟨⟨by omega, by omega⟩, ?_⟩
  rw [show ((1 : Nat) : Int) = 1 from rfl] at this
  rw [this]; omega
theorem takes_app : ∀ {l r : List Cell} {n k : Nat}, takes l n = some k → takes (l ++ r) n = some k
  | l, r, 0, k, h => by rw [takes_zero h]; cases l <;> cases r <;> rfl
  | [], r, n + 1, k, h => (takes_nil (by omega) h).elim
  | c :: l, r, n + 1, k, h => by
    obtain ⟨p, rfl, h1⟩ := takes_cons (by omega) h
    simp only [Nat.add_sub_cancel] at h1
    simp [takes, takes_app h1]
theorem takes_cat : ∀ {a b : List Cell} {n m : Nat}, takes a n = some a.length → takes b m = some b.length → takes (a ++ b) (n + m) = some (a ++ b).length
  | [], b, n, m, h, h2 => by
    have : n = 0 := by
      rcases Nat.eq_zero_or_pos n with h0 | h0
      · exact h0
      · exact (takes_nil h0 h).elim
    subst this
    simpa using h2
  | c :: a, b, n, m, h, h2 => by
    have hn : 0 < n := by
      rcases Nat.eq_zero_or_pos n with h0 | h0
      · subst h0; have := takes_zero h; simp at this
      · exact h0
    obtain ⟨p, hp, h1⟩ := takes_cons hn h
    simp only [List.length_cons] at hp
    obtain rfl : a.length = p := by omega
    have := takes_cat h1 h2
    obtain ⟨n, rfl⟩ : ∃ p, n = p + 1 := ⟨n - 1, by omega⟩
    simp only [Nat.add_sub_cancel] at this
    rw [List.cons_append, show n + 1 + m = (n + m) + 1 by omega, takes, show n + m + arC c = n + arC c + m by omega, this]
    simp
theorem takes_sfx : ∀ {l : List Cell} {n : Nat}, takes l n = some l.length → ∀ i, i < l.length → ∃ k, takes (l.drop i) 1 = some k
  | [], _, _, i, hi => by simp at hi
  | c :: l, n, h, i, hi => by
    have hn : 0 < n := by
      rcases Nat.eq_zero_or_pos n with h0 | h0
      · subst h0; have := takes_zero h; simp at this
      · exact h0
    cases i with
    | zero =>
      obtain ⟨p, hp, _⟩ := takes_add (a := 1) (b := n - 1) (by rw [show 1 + (n - 1) = n by omega]; exact h)
      exact ⟨p, hp⟩
    | succ i =>
      obtain ⟨p, hp, h1⟩ := takes_cons hn h
      simp only [List.length_cons] at hp hi
      obtain rfl : l.length = p := by omega
      exact takes_sfx h1 i (by omega)
theorem ok_n3 {c : Cell} (h : cellOk c = true) (hk : c.kind = 3) : 0 ≤ c.n ∧ c.n ≤ 1000 := by have := cellOk_n h hk; omega
theorem RTm.tok {t : List Cell} (h : RTm t) : TOK t := ⟨takes_sfx h.tk, fun c hc hk => ok_n3 (h.ok c hc) hk⟩
theorem tok_two {a b : List Cell} (ha : RTm a) (hb : RTm b) : TOK (a ++ b) :=
  ⟨takes_sfx (takes_cat ha.tk hb.tk), fun c hc hk => ok_n3 ((List.mem_append.1 hc).elim (ha.ok c) (hb.ok c)) hk⟩
theorem bytes_inj {a b : ByteArray} (h : a.toList = b.toList) : a = b := by
  rw [ByteArray.toList_eq, ByteArray.toList_eq, Array.toList_inj] at h
  cases a; cases b
  exact congrArg ByteArray.mk h
theorem ok_var {c : Cell} (h : cellOk c = true) (hk : c.kind = 1) : c.name = .empty ∧ 0 ≤ c.n ∧ c.n ≤ 999 := by
  rw [cellOk, if_pos hk] at h
  simp only [Bool.and_eq_true, decide_eq_true_eq, beq_iff_eq] at h
  refine ⟨bytes_inj h.1.1, by omega⟩
theorem ok_int {c : Cell} (h : cellOk c = true) (hk : c.kind = 2) : c.name = .empty := by
  rw [cellOk, if_neg (by omega), if_pos hk] at h
  simp only [Bool.and_eq_true, decide_eq_true_eq, beq_iff_eq] at h
  exact bytes_inj h.1.1
theorem cellEq_iff {a b : Cell} : cellEq a b = true ↔ a = b := by
  have hb : (a.name == b.name) = true ↔ a.name = b.name := by rw [bytes_beq, beq_iff_eq]; exact ⟨bytes_inj, fun h => by rw [h]⟩
  unfold cellEq
  rw [Bool.and_eq_true, Bool.and_eq_true, Bool.and_eq_true, hb, beq_iff_eq, beq_iff_eq]
  constructor
  · rintro ⟨h1, h2, h3, _⟩
    cases a; cases b; simp_all
  · rintro rfl; exact ⟨rfl, rfl, rfl, rfl⟩
instance instCellEq : DecidableEq Cell := fun a b => if h : cellEq a b = true then isTrue (cellEq_iff.1 h) else isFalse fun e => h (cellEq_iff.2 e)
theorem sameL_iff : ∀ {a b : List Cell}, sameL a b = true ↔ a = b
  | [], [] => by simp [sameL]
  | [], _ :: _ => by simp [sameL]
  | _ :: _, [] => by simp [sameL]
  | x :: a, y :: b => by
    rw [sameL, Bool.and_eq_true, cellEq_iff, sameL_iff]
    simp
theorem sameL_false {a b : List Cell} : sameL a b = false ↔ a ≠ b := by
  rw [ne_eq, ← sameL_iff, Bool.not_eq_true]
theorem name_size {c : Cell} (h : cellOk c = true) : c.name.size ≤ 12 := by
  by_cases h1 : c.kind = 1
  · rw [(ok_var h h1).1]; decide
  · by_cases h2 : c.kind = 2
    · rw [ok_int h h2]; decide
    · by_cases h3 : c.kind = 3
      · rw [cellOk, if_neg h1, if_neg h2, if_pos h3] at h
        simp only [nameOk, Bool.and_eq_true, decide_eq_true_eq] at h
        exact h.1.1.2.2
      · rw [cellOk, if_neg h1, if_neg h2, if_neg h3] at h; cases h
end Go.Am.Seat
/-
  MADE BY PROGRAM (am.py): the walks of functions 34.
-/
namespace Go.Am.Seat
open Go.Proofs

/-- The state while classes are made: the classes' object, its rows (iu, id, iN, so long), the map. -/
structure MI (s : Me) (x : Sc) (cid mid nu nd nn iu id iN : Nat) (ml : List (Int × Av)) (U D N : Nat → Int) (s1 : Me) : Prop where
  kp : Kp s s1
  c : s1.ob cid = .cs [.sc x, slOf iu nu, slOf id nd, slOf iN nn] 0
  u : nu ≠ 0 → s1.ob iu = .cs (arr nu U) 0
  d : nd ≠ 0 → s1.ob id = .cs (arr nd D) 0
  n : nn ≠ 0 → s1.ob iN = .cs (arr nn N) 0
  m : s1.ob mid = .mp (mapA ml)
  dist : cid ≠ mid ∧ cid ≠ iu ∧ cid ≠ id ∧ cid ≠ iN ∧ mid ≠ iu ∧ mid ≠ id ∧ mid ≠ iN ∧ iu ≠ id ∧ iu ≠ iN ∧ id ≠ iN
  lo : s.nx ≤ cid ∧ s.nx ≤ mid ∧ s.nx ≤ iu ∧ s.nx ≤ id ∧ s.nx ≤ iN
  hi : cid < s1.nx ∧ mid < s1.nx ∧ iu < s1.nx ∧ id < s1.nx ∧ iN < s1.nx
section
variable {s s1 : Me} {x : Sc} {cid mid nu nd nn iu id iN : Nat} {ml : List (Int × Av)} {U D N : Nat → Int}
theorem MI.frame (h : MI s x cid mid nu nd nn iu id iN ml U D N s1) {ob' : Nat → Obj} {m : Nat} (hm : s1.nx ≤ m) (ho : ∀ j, j < s1.nx → ob' j = s1.ob j) : MI s x cid mid nu nd nn iu id iN ml U D N ⟨ob', m, s1.ls⟩ := by
  obtain ⟨⟨k1, k2, k3⟩, c, u, d, n, m', dist, lo, hi⟩ := h
  exact ⟨⟨Nat.le_trans k1 hm, fun j hj => (ho j (by omega)).trans (k2 j hj), k3⟩, (ho _ hi.1).trans c, fun h => (ho _ hi.2.2.1).trans (u h), fun h => (ho _ hi.2.2.2.1).trans (d h), fun h => (ho _ hi.2.2.2.2).trans (n h), (ho _ hi.2.1).trans m', dist, lo, by dsimp only; omega⟩
theorem MI.congr (h : MI s x cid mid nu nd nn iu id iN ml U D N s1) {U' D' N' : Nat → Int} (hU : ∀ j, j < nu → U j = U' j) (hD : ∀ j, j < nd → D j = D' j) (hN : ∀ j, j < nn → N j = N' j) : MI s x cid mid nu nd nn iu id iN ml U' D' N' s1 :=
  ⟨h.kp, h.c, fun h0 => by rw [← arr_congr hU]; exact h.u h0, fun h0 => by rw [← arr_congr hD]; exact h.d h0, fun h0 => by rw [← arr_congr hN]; exact h.n h0, h.m, h.dist, h.lo, h.hi⟩
theorem MI.pushU (h : MI s x cid mid nu nd nn iu id iN ml U D N s1) {ob' : Nat → Obj} {m k : Nat} {v : Int} (hm : s1.nx ≤ m) (hk : s1.nx ≤ k) (hkm : k < m) (hc : ob' cid = .cs [.sc x, .own k 0 (nu + 1) 1, slOf id nd, slOf iN nn] 0) (hu : ob' k = .cs (arr (nu + 1) (upd U nu v)) 0)
    (ho : ∀ j, j < s1.nx → j ≠ cid → j ≠ iu → ob' j = s1.ob j) : MI s x cid mid (nu + 1) nd nn k id iN ml (upd U nu v) D N ⟨ob', m, s1.ls⟩ := by
  obtain ⟨⟨k1, k2, k3⟩, c, u, d, n, m', dist, lo, hi⟩ := h
  exact ⟨⟨Nat.le_trans k1 hm, fun j hj => (ho j (by omega) (by omega) (by omega)).trans (k2 j hj), k3⟩, hc, fun _ => hu, fun h => (ho _ (by omega) (by omega) (by omega)).trans (d h), fun h => (ho _ (by omega) (by omega) (by omega)).trans (n h), (ho _ (by omega) (by omega) (by omega)).trans m', by omega, by omega, by dsimp only; omega⟩
theorem MI.pushDN (h : MI s x cid mid nu nd nn iu id iN ml U D N s1) {ob' : Nat → Obj} {m k k' : Nat} {v v' : Int} (hm : s1.nx ≤ m) (hk : s1.nx ≤ k) (hkm : k < m) (hk' : s1.nx ≤ k') (hkm' : k' < m) (hkk : k ≠ k') (hc : ob' cid = .cs [.sc x, slOf iu nu, .own k 0 (nd + 1) 1, .own k' 0 (nn + 1) 1] 0)
    (hd : ob' k = .cs (arr (nd + 1) (upd D nd v)) 0) (hn : ob' k' = .cs (arr (nn + 1) (upd N nn v')) 0) (ho : ∀ j, j < s1.nx → j ≠ cid → j ≠ id → j ≠ iN → ob' j = s1.ob j) : MI s x cid mid nu (nd + 1) (nn + 1) iu k k' ml U (upd D nd v) (upd N nn v') ⟨ob', m, s1.ls⟩ := by
  obtain ⟨⟨k1, k2, k3⟩, c, u, d, n, m', dist, lo, hi⟩ := h
  exact ⟨⟨Nat.le_trans k1 hm, fun j hj => (ho j (by omega) (by omega) (by omega) (by omega)).trans (k2 j hj), k3⟩, hc, fun h => (ho _ (by omega) (by omega) (by omega) (by omega)).trans (u h), fun _ => hd, fun _ => hn, (ho _ (by omega) (by omega) (by omega) (by omega)).trans m', by omega, by omega, by dsimp only; omega⟩
theorem MI.setU (h : MI s x cid mid nu nd nn iu id iN ml U D N s1) {ob' : Nat → Obj} {m : Nat} {V : Nat → Int} (hm : s1.nx ≤ m) (hu : ob' iu = .cs (arr nu V) 0) (ho : ∀ j, j < s1.nx → j ≠ iu → ob' j = s1.ob j) : MI s x cid mid nu nd nn iu id iN ml V D N ⟨ob', m, s1.ls⟩ := by
  obtain ⟨⟨k1, k2, k3⟩, c, u, d, n, m', dist, lo, hi⟩ := h
  exact ⟨⟨Nat.le_trans k1 hm, fun j hj => (ho j (by omega) (by omega)).trans (k2 j hj), k3⟩, (ho _ (by omega) (by omega)).trans c, fun _ => hu, fun h => (ho _ (by omega) (by omega)).trans (d h), fun h => (ho _ (by omega) (by omega)).trans (n h), (ho _ (by omega) (by omega)).trans m', dist, lo, by dsimp only; omega⟩
theorem MI.setM (h : MI s x cid mid nu nd nn iu id iN ml U D N s1) {ob' : Nat → Obj} {m : Nat} {ml' : List (Int × Av)} (hm : s1.nx ≤ m) (hu : ob' mid = .mp (mapA ml')) (ho : ∀ j, j < s1.nx → j ≠ mid → ob' j = s1.ob j) : MI s x cid mid nu nd nn iu id iN ml' U D N ⟨ob', m, s1.ls⟩ := by
  obtain ⟨⟨k1, k2, k3⟩, c, u, d, n, m', dist, lo, hi⟩ := h
  exact ⟨⟨Nat.le_trans k1 hm, fun j hj => (ho j (by omega) (by omega)).trans (k2 j hj), k3⟩, (ho _ (by omega) (by omega)).trans c, fun h => (ho _ (by omega) (by omega)).trans (u h), fun h => (ho _ (by omega) (by omega)).trans (d h), fun h => (ho _ (by omega) (by omega)).trans (n h), hu, dist, lo, by dsimp only; omega⟩
end
/-- The first place of a variable. -/
def fstV (t : List Cell) (n : Int) : Nat := t.findIdx fun c : Cell => c.kind == 1 && c.n == n
def upM (t : List Cell) (i : Nat) : Int := match t[i]? with
  | some c => if c.kind = 1 then (fstV t c.n : Int) else (i : Int)
  | none => (i : Int)
def doesM (t : List Cell) (i : Nat) : Int := match t[i]? with
  | some c => if c.kind = 1 then -1 else (i : Int)
  | none => -1
def nameM (t : List Cell) (i : Nat) : Int := match t[i]? with
  | some c => if c.kind = 1 then c.n else 1000
  | none => 1000
/-- What the map tells: of each variable met so far its first place. -/
def FirstM (t : List Cell) (i : Nat) (ml : List (Int × Av)) : Prop := ∀ n, lkA ml n = if fstV t n < i then some (.sc (.int .i64 (fstV t n : Int))) else none
theorem fstV_le {t : List Cell} {i : Nat} (hi : i < t.length) (hk : t[i].kind = 1) : fstV t t[i].n ≤ i := by
  rcases Nat.lt_or_ge i (fstV t t[i].n) with h | h
  · have := List.not_of_lt_findIdx (p := fun c : Cell => c.kind == 1 && c.n == t[i].n) h
    simp [hk] at this
  · exact h
theorem FirstM.skip {t : List Cell} {i : Nat} {ml : List (Int × Av)} (h : FirstM t i ml) (hi : i < t.length) (hk : ¬ t[i].kind = 1) : FirstM t (i + 1) ml := by
  intro n
  rw [h n]
  have : fstV t n ≠ i := fun e => by
    have h2 : t.findIdx (fun c : Cell => c.kind == 1 && c.n == n) < t.length := by show fstV t n < t.length; omega
    have := List.findIdx_getElem (w := h2)
    have e' : t.findIdx (fun c : Cell => c.kind == 1 && c.n == n) = i := e
    simp only [e'] at this
    simp [hk] at this
  by_cases h1 : fstV t n < i
  · rw [if_pos h1, if_pos (by omega)]
  · rw [if_neg h1, if_neg (by omega)]
theorem FirstM.old {t : List Cell} {i : Nat} {ml : List (Int × Av)} (h : FirstM t i ml) (hi : i < t.length) (hk : t[i].kind = 1) (ho : fstV t t[i].n < i) : FirstM t (i + 1) ml := by
  intro n
  rw [h n]
  have : fstV t n ≠ i := fun e => by
    have h2 : t.findIdx (fun c : Cell => c.kind == 1 && c.n == n) < t.length := by show fstV t n < t.length; omega
    have h3 := List.findIdx_getElem (w := h2)
    have e' : t.findIdx (fun c : Cell => c.kind == 1 && c.n == n) = i := e
    simp only [e'] at h3
    simp [hk] at h3
    rw [h3] at ho
    omega
  by_cases h1 : fstV t n < i
  · rw [if_pos h1, if_pos (by omega)]
  · rw [if_neg h1, if_neg (by omega)]
theorem FirstM.new {t : List Cell} {i : Nat} {ml : List (Int × Av)} (h : FirstM t i ml) (hi : i < t.length) (hk : t[i].kind = 1) (ho : fstV t t[i].n = i) : FirstM t (i + 1) (setA ml t[i].n (.sc (.int .i64 (i : Int)))) := by
  intro n
  rw [lk_setA, h n]
  by_cases hn : n = t[i].n
  · subst hn
    rw [if_pos rfl, ho, if_pos (by omega)]
  · rw [if_neg hn]
    have : fstV t n ≠ i := fun e => by
      have h2 : t.findIdx (fun c : Cell => c.kind == 1 && c.n == n) < t.length := by show fstV t n < t.length; omega
      have h3 := List.findIdx_getElem (w := h2)
      have e' : t.findIdx (fun c : Cell => c.kind == 1 && c.n == n) = i := e
      simp only [e'] at h3
      simp [hk] at h3
      exact hn h3.symm
    by_cases h1 : fstV t n < i
    · rw [if_pos h1, if_pos (by omega)]
    · rw [if_neg h1, if_neg (by omega)]
theorem updM {f g : Nat → Int} {i : Nat} {v : Int} (h : ∀ j, j < i → f j = g j) (hv : v = g i) : ∀ j, j < i + 1 → upd f i v j = g j := by
  intro j hj
  by_cases hji : j = i
  · subst hji; rw [upd_same, hv]
  · rw [upd_ne _ _ hji]; exact h j (by omega)

-- many steps
theorem bod34 : Try.f34.body = some (Try.f34.body.getD .skip) := rfl
set_option maxHeartbeats 4000000 in
theorem fn34 (L : Loops) (t : List Cell) (s : Me) (x : Sc) (hx : GSl encC x t) (hl : t.length ≤ 1000000) : FnL Try.prog L 34 [.av (.sc x)] s fun r s' => ∃ cid mid iu id iN ml, r = .av (.ptr cid 0) ∧ MI s x cid mid t.length t.length t.length iu id iN ml (upM t) (doesM t) (nameM t) s' := by
  refine fn_of_body (ts := [2]) Try.func34 bod34 rfl (by simp) (by simp [Try.ntmps34]) fun D0 => ?_
  unfold Try.f34
  simp only [Option.getD_some, initSl]
  refine aw_region_seq C (pb := false) rfl fun K hK => ?_
  repeat' (first | refine wy0 (h := ?_) | fail)
  refine awOps_nil (hK _ _ ?_)
  clear hK K
  refine aw_region_seq C (pb := false) rfl fun K hK => ?_
  repeat' (first | refine wy1 (a := by simp only [go_sem, ↓reduceIte, Nat.reduceEqDiff, reduceCtorEq, Nat.reduceAdd, Nat.reduceMul, Nat.reduceLeDiff, aLoad, aStore, pl62]; exact rfl) (h := ?_) | fail)
  refine awOps_nil (hK _ _ ?_)
  clear hK K
  refine aw_region_seq C (pb := false) rfl fun K hK => ?_
  repeat' (first | refine wy0 (h := ?_) | fail)
  refine awOps_nil (hK _ _ ?_)
  clear hK K
  refine aw_seq ?_
  refine aw_region_seq C (pb := false) rfl fun K hK => ?_
  repeat' (first | refine wy1 (a := by simp only [go_sem, ↓reduceIte, Nat.reduceEqDiff, reduceCtorEq, Nat.reduceAdd, Nat.reduceMul, Nat.reduceLeDiff, aLoad, aStore, lenC hx]; exact rfl) (h := ?_) | fail)
  refine awOps_nil (hK _ _ ?_)
  clear hK K
  refine aw_block ?_
  refine AW.less (sl' := [(3, .av (.ptr (s.nx + 3) 0)), (4, .av (.map (s.nx + 5))), (13, .av (.sc x)), (14, vI t.length), (15, vI (0))]) (AllIn.less ⟨rfl, rfl, rfl, rfl, rfl, trivial⟩) (aw_loop (fun k sl1 s1 => ∃ (i : Nat) (iu : Nat) (id : Nat) (iN : Nat) (ml : List (Int × Av)) (U : Nat → Int) (D : Nat → Int) (N : Nat → Int), k = t.length - i ∧ sl1 = [(3, .av (.ptr (s.nx + 3) 0)), (4, .av (.map (s.nx + 5))), (13, .av (.sc x)), (14, vI t.length), (15, vI (i))] ∧ (MI s x (s.nx + 3) (s.nx + 5) i i i iu id iN ml U D N s1) ∧ (i ≤ t.length) ∧ (FirstM t i ml) ∧ ((∀ j, j < i → U j = upM t j) ∧ (∀ j, j < i → D j = doesM t j) ∧ (∀ j, j < i → N j = nameM t j))) (k := t.length - (0)) ⟨0, s.nx, s.nx + 1, s.nx + 2, [], fun _ => 0, fun _ => 0, fun _ => 0, rfl, rfl, ⟨⟨(by first | omega | (dsimp only; omega) | (dsimp only at *; omega)), fun j hj => (upd_ne _ _ (by omega)).trans (upd_ne _ _ (by omega)), rfl⟩, (upd_ne _ _ (by omega)).trans (upd_same _ _ _), fun h => (h rfl).elim, fun h => (h rfl).elim, fun h => (h rfl).elim, upd_same _ _ _, by omega, by omega, (by first | omega | (dsimp only; omega) | (dsimp only at *; omega))⟩, Nat.zero_le _, fun n => by simp [lkA], ⟨fun j hj => by omega, fun j hj => by omega, fun j hj => by omega⟩⟩ ?_)
  rintro k1 _ s1 ⟨i, iu, id, iN, ml, U, D, N, hk1, rfl, hs1, hb, hf, hU⟩
  refine aw_region_seq C (pb := false) rfl fun K hK => ?_
  repeat' (first | refine wy0 (h := ?_) | fail)
  refine awOps_nil (hK _ _ ?_)
  clear hK K
  refine aw_seq ?_
  refine aw_cond (by rfl) ?_ ?_
  · intro hc0
    try simp only [decide_eq_true_eq, decide_eq_false_iff_not] at hc0
    have hi2 : i < t.length := by omega
    have hi1 := hs1.hi
    have lo1 := hs1.lo
    have di1 := hs1.dist
    refine aw_skip ?_
    simp only [thenA_normal, thenA_ret, thenA_exit, blockA_normal, blockA_ret, blockA_exit, ↓reduceIte, Nat.reduceEqDiff]
    refine aw_seq ?_
    refine aw_block ?_
    refine aw_cutM_seq C (pb := false) [(3, .av (.ptr (s.nx + 3) 0)), (4, .av (.map (s.nx + 5))), (5, vI i), (6, .av (.ptr (s1.nx + 4) 0)), (13, .av (.sc x)), (14, vI t.length), (15, vI i)] (fun s2 => MI s x (s.nx + 3) (s.nx + 5) i i i iu id iN ml U D N s2 ∧ s2.ob (s1.nx + 4) = .cs [.sc (.int .i64 t[i].kind), .sc (.str t[i].name), .sc (.int .i64 t[i].n)] 0 ∧ s1.nx + 4 < s2.nx) rfl ?_ fun sM5 hM5 => ?_
    · skip
      all_goals (repeat' (first | refine wy1 (a := by simp only [go_sem, ↓reduceIte, Nat.reduceEqDiff, reduceCtorEq, Nat.reduceAdd, Nat.reduceMul, Nat.reduceLeDiff, aLoad, aStore, idxC hx hi2]; exact rfl) (h := ?_) | refine wz1 (a := by simp only [go_sem, ↓reduceIte, Nat.reduceEqDiff, reduceCtorEq, Nat.reduceAdd, Nat.reduceMul, Nat.reduceLeDiff, aLoad, aStore, idxC hx hi2]; exact rfl) (h := ?_) | fail))
      exact awOps_nil ⟨⟨rfl, rfl, rfl, rfl, rfl, rfl, rfl, trivial⟩, hs1.frame (by first | omega | (dsimp only; omega) | (dsimp only at *; omega)) (fun j hj => (upd_ne _ _ (by omega)).trans (upd_ne _ _ (by omega))), upd_same _ _ _, (by first | omega | (dsimp only; omega) | (dsimp only at *; omega))⟩
    have hi5 := hM5.1.hi
    have di5 := hM5.1.dist
    have lo5 := hM5.1.lo
    have hn5 := hM5.2.2
    refine aw_cutM_seq C (pb := false) [(3, .av (.ptr (s.nx + 3) 0)), (4, .av (.map (s.nx + 5))), (5, vI i), (6, .av (.ptr (s1.nx + 4) 0)), (13, .av (.sc x)), (14, vI t.length), (15, vI i)] (fun s2 => ∃ k6, MI s x (s.nx + 3) (s.nx + 5) (i + 1) i i k6 id iN ml (upd U i i) D N s2 ∧ s2.ob (s1.nx + 4) = .cs [.sc (.int .i64 t[i].kind), .sc (.str t[i].name), .sc (.int .i64 t[i].n)] 0 ∧ s1.nx + 4 < s2.nx ∧ s1.nx + 4 < k6) rfl ?_ fun sM6 hM6 => ?_
    · skip
      all_goals (repeat' (first | refine wy1 (a := by simp only [go_sem, ↓reduceIte, Nat.reduceEqDiff, reduceCtorEq, Nat.reduceAdd, Nat.reduceMul, Nat.reduceLeDiff, aLoad, aStore, hM5.1.c]; exact rfl) (h := ?_) | fail))
      refine wy2 ((show aop C false _ _ _ _ = aAppend T _ _ 36 _ _ from rfl).trans (appO (id := iu) (n := i) (f := U) (v := i) (fun h => (upd_ne _ _ (by first | omega | (dsimp only; omega) | (dsimp only at *; omega))).trans (hM5.1.u h)) (upd_same _ _ _) (by first | omega | (dsimp only; omega) | (dsimp only at *; omega)))) ?_
      all_goals (repeat' (first | refine wy1 (a := by simp (disch := omega) only [go_sem, ↓reduceIte, Nat.reduceEqDiff, reduceCtorEq, Nat.reduceAdd, Nat.reduceMul, Nat.reduceLeDiff, aLoad, aStore, hM5.1.c, upd_ne, kill_ne]; exact rfl) (h := ?_) | refine wz1 (a := by simp (disch := omega) only [go_sem, ↓reduceIte, Nat.reduceEqDiff, reduceCtorEq, Nat.reduceAdd, Nat.reduceMul, Nat.reduceLeDiff, aLoad, aStore, hM5.1.c, upd_ne, kill_ne]; exact rfl) (h := ?_) | fail))
      exact awOps_nil ⟨⟨rfl, rfl, rfl, rfl, rfl, rfl, rfl, trivial⟩, _, hM5.1.pushU (k := sM5.nx + 1 + 1 + 1 + 1 + 1 + 1 + 1) (by first | omega | (dsimp only; omega) | (dsimp only at *; omega)) (by first | omega | (dsimp only; omega) | (dsimp only at *; omega)) (by first | omega | (dsimp only; omega) | (dsimp only at *; omega)) (upd_same _ _ _) ((upd_ne _ _ (by omega)).trans (upd_same _ _ _)) (fun j hj h1 h2 => (upd_ne _ _ h1).trans ((upd_ne _ _ (by omega)).trans ((kill_ne h2).trans (upd_ne _ _ (by omega))))), (upd_ne _ _ (by omega)).trans ((upd_ne _ _ (by omega)).trans ((kill_ne (by omega)).trans ((upd_ne _ _ (by omega)).trans hM5.2.1))), (by first | omega | (dsimp only; omega) | (dsimp only at *; omega)), (by first | omega | (dsimp only; omega) | (dsimp only at *; omega))⟩
    refine aw_seq ?_
    obtain ⟨k6, hM6, hx6, hn6, hk6⟩ := hM6
    refine aw_region_seq C (pb := false) rfl fun K hK => ?_
    repeat' (first | refine wy1 (a := by simp only [go_sem, ↓reduceIte, Nat.reduceEqDiff, reduceCtorEq, Nat.reduceAdd, Nat.reduceMul, Nat.reduceLeDiff, aLoad, aStore, hx6]; exact rfl) (h := ?_) | fail)
    refine awOps_nil (hK _ _ ?_)
    clear hK K
    refine aw_cond (by rfl) ?_ ?_
    · intro hc1
      try simp only [bne_iff_ne, ne_eq, bne_eq_false_iff_eq] at hc1
      have hi6 := hM6.hi
      have di6 := hM6.dist
      have lo6 := hM6.lo
      obtain ⟨o0, ho0⟩ : ∃ o, o = upd (upd sM6.ob (sM6.nx + 1 + 1 + 1 + 7) (.cs [.sc (.int .i64 i)] 0)) (sM6.nx + 1 + 1 + 1 + 13) (.cs [.sc (.int .i64 1000)] 0) := ⟨_, rfl⟩
      obtain ⟨o1, ho1⟩ : ∃ o, o = upd (kill i o0 id) (sM6.nx + 1 + 1 + 1 + 8) (.cs (arr (i + 1) (upd D i i)) 0) := ⟨_, rfl⟩
      obtain ⟨o2, ho2⟩ : ∃ o, o = upd (kill i o1 iN) (sM6.nx + 1 + 1 + 1 + 14) (.cs (arr (i + 1) (upd N i 1000)) 0) := ⟨_, rfl⟩
      obtain ⟨o3, ho3⟩ : ∃ o, o = upd o2 (s.nx + 3) (.cs [.sc x, slOf k6 (i + 1), .own (sM6.nx + 1 + 1 + 1 + 8) 0 (i + 1) 1, slOf iN i] 0) := ⟨_, rfl⟩
      obtain ⟨o4, ho4⟩ : ∃ o, o = upd o3 (s.nx + 3) (.cs [.sc x, slOf k6 (i + 1), .own (sM6.nx + 1 + 1 + 1 + 8) 0 (i + 1) 1, .own (sM6.nx + 1 + 1 + 1 + 14) 0 (i + 1) 1] 0) := ⟨_, rfl⟩
      have c0 : o0 (s.nx + 3) = _ := (show o0 (s.nx + 3) = sM6.ob (s.nx + 3) from by simp (disch := omega) only [ho0, upd_ne, upd_same, kill_ne]).trans hM6.c
      have c1 : o1 (s.nx + 3) = _ := (show o1 (s.nx + 3) = o0 (s.nx + 3) from by simp (disch := omega) only [ho1, upd_ne, upd_same, kill_ne]).trans c0
      have c2 : o2 (s.nx + 3) = _ := (show o2 (s.nx + 3) = o1 (s.nx + 3) from by simp (disch := omega) only [ho2, upd_ne, upd_same, kill_ne]).trans c1
      have c3 : o3 (s.nx + 3) = _ := (congrFun ho3 _).trans (upd_same _ _ _)
      have d0 : i ≠ 0 → o0 id = .cs (arr i D) 0 := fun h => (show o0 id = sM6.ob id from by simp (disch := omega) only [ho0, upd_ne, upd_same, kill_ne]).trans (hM6.d h)
      have n1 : i ≠ 0 → o1 iN = .cs (arr i N) 0 := fun h => (show o1 iN = sM6.ob iN from by simp (disch := omega) only [ho1, ho0, upd_ne, upd_same, kill_ne]).trans (hM6.n h)
      have ka : o0 (sM6.nx + 1 + 1 + 1 + 7) = .cs [.sc (.int .i64 i)] 0 := by simp (disch := omega) only [ho0, upd_ne, upd_same, kill_ne]
      have kb0 : o0 (sM6.nx + 1 + 1 + 1 + 13) = .cs [.sc (.int .i64 1000)] 0 := by simp (disch := omega) only [ho0, upd_ne, upd_same, kill_ne]
      have kb1 : o1 (sM6.nx + 1 + 1 + 1 + 13) = .cs [.sc (.int .i64 1000)] 0 := (show o1 (sM6.nx + 1 + 1 + 1 + 13) = o0 (sM6.nx + 1 + 1 + 1 + 13) from by simp (disch := omega) only [ho1, upd_ne, upd_same, kill_ne]).trans kb0
      have x0 : o0 (s1.nx + 4) = _ := (show o0 (s1.nx + 4) = sM6.ob (s1.nx + 4) from by simp (disch := omega) only [ho0, upd_ne, upd_same, kill_ne]).trans hx6
      have x1 : o1 (s1.nx + 4) = _ := (show o1 (s1.nx + 4) = o0 (s1.nx + 4) from by simp (disch := omega) only [ho1, upd_ne, upd_same, kill_ne]).trans x0
      refine aw_dra_seq C (pb := false) 21 [8, 14, 17, 20] [o0, o1, o2, o3, o4] rfl (by kernel_rfl) (by kernel_rfl) rfl (fun j hj => by simp (disch := omega) only [osL_0, ho0, upd_ne]) fun K hK => ?_
      (first | refine dra_yes [0, 1, 2] (by rfl) (by rfl) (by rfl) (by rfl) (by kernel_rfl) ⟨⟨_, by simp  only [go_sem, ↓reduceIte, Nat.reduceEqDiff, reduceCtorEq, Nat.reduceAdd, Nat.reduceMul, Nat.reduceLeDiff, aLoad, aStore, osL_0, osL_1, osL_2, osL_3, osL_4, osL_5, osL_6, c0, c1, c2, c3]; (try exact rfl), fun _ => rfl⟩, ⟨_, by simp  only [go_sem, ↓reduceIte, Nat.reduceEqDiff, reduceCtorEq, Nat.reduceAdd, Nat.reduceMul, Nat.reduceLeDiff, aLoad, aStore, osL_0, osL_1, osL_2, osL_3, osL_4, osL_5, osL_6, c0, c1, c2, c3]; (try exact rfl), fun _ => rfl⟩, ⟨_, by simp  only [go_sem, ↓reduceIte, Nat.reduceEqDiff, reduceCtorEq, Nat.reduceAdd, Nat.reduceMul, Nat.reduceLeDiff, aLoad, aStore, osL_0, osL_1, osL_2, osL_3, osL_4, osL_5, osL_6, c0, c1, c2, c3]; (try exact rfl), fun _ => rfl⟩, trivial⟩ ?_ | refine dra_no (by rfl) (by rfl) (by rfl) ?_)
      (first | refine dra_yes [0, 1, 2, 3] (by rfl) (by rfl) (by rfl) (by rfl) (by kernel_rfl) ⟨⟨_, by simp  only [go_sem, ↓reduceIte, Nat.reduceEqDiff, reduceCtorEq, Nat.reduceAdd, Nat.reduceMul, Nat.reduceLeDiff, aLoad, aStore, osL_0, osL_1, osL_2, osL_3, osL_4, osL_5, osL_6, c0, c1, c2, c3]; (try exact rfl), fun _ => rfl⟩, ⟨_, by simp  only [go_sem, ↓reduceIte, Nat.reduceEqDiff, reduceCtorEq, Nat.reduceAdd, Nat.reduceMul, Nat.reduceLeDiff, aLoad, aStore, osL_0, osL_1, osL_2, osL_3, osL_4, osL_5, osL_6, c0, c1, c2, c3]; (try exact rfl), fun _ => rfl⟩, ⟨_, by simp  only [go_sem, ↓reduceIte, Nat.reduceEqDiff, reduceCtorEq, Nat.reduceAdd, Nat.reduceMul, Nat.reduceLeDiff, aLoad, aStore, osL_0, osL_1, osL_2, osL_3, osL_4, osL_5, osL_6, c0, c1, c2, c3]; (try exact rfl), fun _ => rfl⟩, ⟨_, by simp  only [go_sem, ↓reduceIte, Nat.reduceEqDiff, reduceCtorEq, Nat.reduceAdd, Nat.reduceMul, Nat.reduceLeDiff, aLoad, aStore, osL_0, osL_1, osL_2, osL_3, osL_4, osL_5, osL_6, c0, c1, c2, c3]; (try exact rfl), fun _ => rfl⟩, trivial⟩ ?_ | refine dra_no (by rfl) (by rfl) (by rfl) ?_)
      iterate 5 (first | refine dra_yes [0] (by rfl) (by rfl) (by rfl) (by rfl) (by kernel_rfl) ⟨⟨_, by simp  only [go_sem, ↓reduceIte, Nat.reduceEqDiff, reduceCtorEq, Nat.reduceAdd, Nat.reduceMul, Nat.reduceLeDiff, aLoad, aStore, osL_0, osL_1, osL_2, osL_3, osL_4, osL_5, osL_6, c0, c1, c2, c3]; (try exact rfl), fun _ => rfl⟩, trivial⟩ ?_ | refine dra_no (by rfl) (by rfl) (by rfl) ?_)
      refine dra_yes [0] (by rfl) (by rfl) (by rfl) (by rfl) (by kernel_rfl) ⟨⟨_, (by simp only [go_sem, ↓reduceIte, Nat.reduceEqDiff, reduceCtorEq, Nat.reduceAdd, Nat.reduceMul, Nat.reduceLeDiff, osL_0, osL_1, x0, x1, aLoad]; try exact rfl), fun j => upd_self ka j⟩, trivial⟩ ?_
      refine dra_eff (by rfl) (by rfl) (by rfl) (by rfl) ((show aop C false _ _ _ _ = aAppend T o0 _ 36 _ _ from rfl).trans (appO (id := id) (n := i) (f := D) (v := i) d0 ka (by omega))) (fun j => (congrFun ho1 j).symm) ⟨Nat.le_refl _, rfl⟩ ?_
      iterate 4 (first | refine dra_yes [0, 1] (by rfl) (by rfl) (by rfl) (by rfl) (by kernel_rfl) ⟨⟨_, by simp  only [go_sem, ↓reduceIte, Nat.reduceEqDiff, reduceCtorEq, Nat.reduceAdd, Nat.reduceMul, Nat.reduceLeDiff, aLoad, aStore, osL_0, osL_1, osL_2, osL_3, osL_4, osL_5, osL_6, c0, c1, c2, c3]; (try exact rfl), fun _ => rfl⟩, ⟨_, by simp  only [go_sem, ↓reduceIte, Nat.reduceEqDiff, reduceCtorEq, Nat.reduceAdd, Nat.reduceMul, Nat.reduceLeDiff, aLoad, aStore, osL_0, osL_1, osL_2, osL_3, osL_4, osL_5, osL_6, c0, c1, c2, c3]; (try exact rfl), fun _ => rfl⟩, trivial⟩ ?_ | refine dra_no (by rfl) (by rfl) (by rfl) ?_)
      refine dra_yes [0, 1] (by rfl) (by rfl) (by rfl) (by rfl) (by kernel_rfl) ⟨⟨_, (by simp only [go_sem, ↓reduceIte, Nat.reduceEqDiff, reduceCtorEq, Nat.reduceAdd, Nat.reduceMul, Nat.reduceLeDiff, osL_0, osL_1, x0, x1, aLoad]; try exact rfl), fun j => upd_self kb0 j⟩, ⟨_, (by simp only [go_sem, ↓reduceIte, Nat.reduceEqDiff, reduceCtorEq, Nat.reduceAdd, Nat.reduceMul, Nat.reduceLeDiff, osL_0, osL_1, x0, x1, aLoad]; try exact rfl), fun j => upd_self kb1 j⟩, trivial⟩ ?_
      refine dra_eff (by rfl) (by rfl) (by rfl) (by rfl) ((show aop C false _ _ _ _ = aAppend T o1 _ 36 _ _ from rfl).trans (appO (id := iN) (n := i) (f := N) (v := 1000) n1 kb1 (by omega))) (fun j => (congrFun ho2 j).symm) ⟨Nat.le_refl _, rfl⟩ ?_
      iterate 2 (first | refine dra_yes [2] (by rfl) (by rfl) (by rfl) (by rfl) (by kernel_rfl) ⟨⟨_, by simp  only [go_sem, ↓reduceIte, Nat.reduceEqDiff, reduceCtorEq, Nat.reduceAdd, Nat.reduceMul, Nat.reduceLeDiff, aLoad, aStore, osL_0, osL_1, osL_2, osL_3, osL_4, osL_5, osL_6, c0, c1, c2, c3]; (try exact rfl), fun _ => rfl⟩, trivial⟩ ?_ | refine dra_no (by rfl) (by rfl) (by rfl) ?_)
      refine dra_eff0 (by rfl) (by rfl) (by rfl) (by rfl) (by simp  only [go_sem, ↓reduceIte, Nat.reduceEqDiff, reduceCtorEq, Nat.reduceAdd, Nat.reduceMul, Nat.reduceLeDiff, aLoad, aStore, osL_0, osL_1, osL_2, osL_3, osL_4, osL_5, osL_6, c0, c1, c2, c3]; exact rfl) (fun j => (congrFun ho3 j).symm) ⟨Nat.le_refl _, rfl⟩ ?_
      iterate 2 (first | refine dra_yes [3] (by rfl) (by rfl) (by rfl) (by rfl) (by kernel_rfl) ⟨⟨_, by simp  only [go_sem, ↓reduceIte, Nat.reduceEqDiff, reduceCtorEq, Nat.reduceAdd, Nat.reduceMul, Nat.reduceLeDiff, aLoad, aStore, osL_0, osL_1, osL_2, osL_3, osL_4, osL_5, osL_6, c0, c1, c2, c3]; (try exact rfl), fun _ => rfl⟩, trivial⟩ ?_ | refine dra_no (by rfl) (by rfl) (by rfl) ?_)
      refine dra_eff0 (by rfl) (by rfl) (by rfl) (by rfl) (by simp  only [go_sem, ↓reduceIte, Nat.reduceEqDiff, reduceCtorEq, Nat.reduceAdd, Nat.reduceMul, Nat.reduceLeDiff, aLoad, aStore, osL_0, osL_1, osL_2, osL_3, osL_4, osL_5, osL_6, c0, c1, c2, c3]; exact rfl) (fun j => (congrFun ho4 j).symm) ⟨Nat.le_refl _, rfl⟩ ?_
      refine dra_nil (hK _ ?_)
      simp only [osL_0, osL_1, osL_2, osL_3, osL_4, osL_5, osL_6, List.length_cons, List.length_nil, Nat.reduceAdd]
      have hMI := hM6.pushDN (ob' := o4) (m := sM6.nx + 1 + 1 + 1 + 21) (k := sM6.nx + 1 + 1 + 1 + 8) (k' := sM6.nx + 1 + 1 + 1 + 14) (v := i) (v' := 1000) (by omega) (by omega) (by omega) (by omega) (by omega) (by omega) ((congrFun ho4 _).trans (upd_same _ _ _)) (by simp (disch := omega) only [ho4, ho3, ho2, ho1, upd_ne, upd_same, kill_ne]) (by simp (disch := omega) only [ho4, ho3, ho2, upd_ne, upd_same, kill_ne]) (fun j hj h1 h2 h3 => by simp (disch := omega) only [ho4, ho3, ho2, ho1, ho0, upd_ne, upd_same, kill_ne])
      have hx8 : o4 (s1.nx + 4) = _ := (show o4 (s1.nx + 4) = sM6.ob (s1.nx + 4) from by simp (disch := omega) only [ho4, ho3, ho2, ho1, ho0, upd_ne, upd_same, kill_ne]).trans hx6
      clear hK K
      refine aw_exit ?_
      simp only [thenA_normal, thenA_ret, thenA_exit, blockA_normal, blockA_ret, blockA_exit, ↓reduceIte, Nat.reduceEqDiff]
      refine aw_region C (pb := false) rfl ?_
      repeat' (first | refine wy1 (a := by simp only [go_sem, ↓reduceIte, Nat.reduceEqDiff, reduceCtorEq, Nat.reduceAdd, Nat.reduceMul, Nat.reduceLeDiff, aLoad, aStore, wrap_small ((i : Int) + 1) (by omega) (by omega)]; exact rfl) (h := ?_) | fail)
      refine awOps_nil ?_
      try simp only [thenA_normal, thenA_ret, thenA_exit, blockA_normal, blockA_ret, blockA_exit]
      -- end of round 0 at 0t1t.x1
      refine ⟨t.length - (i + 1), [(3, .av (.ptr (s.nx + 3) 0)), (4, .av (.map (s.nx + 5))), (13, .av (.sc x)), (14, vI t.length), (15, vI (i + 1))], by omega, AllIn.less ⟨rfl, rfl, rfl, rfl, rfl, trivial⟩, i + 1, k6, sM6.nx + 1 + 1 + 1 + 8, sM6.nx + 1 + 1 + 1 + 14, ml, upd U i i, upd D i i, upd N i 1000, rfl, rfl, ?_, ?_, ?_, ?_⟩
      · exact hMI.frame (by first | omega | (dsimp only; omega) | (dsimp only at *; omega)) (fun _ _ => rfl)
      · omega
      · exact hf.skip hi2 hc1
      · exact ⟨updM hU.1 (by rw [upM, List.getElem?_eq_getElem hi2]; simp only [if_neg hc1]), updM hU.2.1 (by rw [doesM, List.getElem?_eq_getElem hi2]; simp only [if_neg hc1]), updM hU.2.2 (by rw [nameM, List.getElem?_eq_getElem hi2]; simp only [if_neg hc1])⟩
    · intro hc1
      try simp only [bne_iff_ne, ne_eq, bne_eq_false_iff_eq] at hc1
      have hk1 : t[i].kind = 1 := by omega
      have hfl := fstV_le hi2 hk1
      refine aw_skip ?_
      simp only [thenA_normal, thenA_ret, thenA_exit, blockA_normal, blockA_ret, blockA_exit, ↓reduceIte, Nat.reduceEqDiff]
      have hi6 := hM6.hi
      have di6 := hM6.dist
      have lo6 := hM6.lo
      obtain ⟨o0, ho0⟩ : ∃ o, o = upd (upd sM6.ob (sM6.nx + 1 + 1 + 1 + 6) (.cs [.sc (.int .i64 (-1))] 0)) (sM6.nx + 1 + 1 + 1 + 14) (.cs [.sc (.int .i64 t[i].n)] 0) := ⟨_, rfl⟩
      obtain ⟨o1, ho1⟩ : ∃ o, o = upd (kill i o0 id) (sM6.nx + 1 + 1 + 1 + 7) (.cs (arr (i + 1) (upd D i (-1))) 0) := ⟨_, rfl⟩
      obtain ⟨o2, ho2⟩ : ∃ o, o = upd (kill i o1 iN) (sM6.nx + 1 + 1 + 1 + 15) (.cs (arr (i + 1) (upd N i t[i].n)) 0) := ⟨_, rfl⟩
      obtain ⟨o3, ho3⟩ : ∃ o, o = upd o2 (s.nx + 3) (.cs [.sc x, slOf k6 (i + 1), .own (sM6.nx + 1 + 1 + 1 + 7) 0 (i + 1) 1, slOf iN i] 0) := ⟨_, rfl⟩
      obtain ⟨o4, ho4⟩ : ∃ o, o = upd o3 (s.nx + 3) (.cs [.sc x, slOf k6 (i + 1), .own (sM6.nx + 1 + 1 + 1 + 7) 0 (i + 1) 1, .own (sM6.nx + 1 + 1 + 1 + 15) 0 (i + 1) 1] 0) := ⟨_, rfl⟩
      have c0 : o0 (s.nx + 3) = _ := (show o0 (s.nx + 3) = sM6.ob (s.nx + 3) from by simp (disch := omega) only [ho0, upd_ne, upd_same, kill_ne]).trans hM6.c
      have c1 : o1 (s.nx + 3) = _ := (show o1 (s.nx + 3) = o0 (s.nx + 3) from by simp (disch := omega) only [ho1, upd_ne, upd_same, kill_ne]).trans c0
      have c2 : o2 (s.nx + 3) = _ := (show o2 (s.nx + 3) = o1 (s.nx + 3) from by simp (disch := omega) only [ho2, upd_ne, upd_same, kill_ne]).trans c1
      have c3 : o3 (s.nx + 3) = _ := (congrFun ho3 _).trans (upd_same _ _ _)
      have d0 : i ≠ 0 → o0 id = .cs (arr i D) 0 := fun h => (show o0 id = sM6.ob id from by simp (disch := omega) only [ho0, upd_ne, upd_same, kill_ne]).trans (hM6.d h)
      have n1 : i ≠ 0 → o1 iN = .cs (arr i N) 0 := fun h => (show o1 iN = sM6.ob iN from by simp (disch := omega) only [ho1, ho0, upd_ne, upd_same, kill_ne]).trans (hM6.n h)
      have ka : o0 (sM6.nx + 1 + 1 + 1 + 6) = .cs [.sc (.int .i64 (-1))] 0 := by simp (disch := omega) only [ho0, upd_ne, upd_same, kill_ne]
      have kb0 : o0 (sM6.nx + 1 + 1 + 1 + 14) = .cs [.sc (.int .i64 t[i].n)] 0 := by simp (disch := omega) only [ho0, upd_ne, upd_same, kill_ne]
      have kb1 : o1 (sM6.nx + 1 + 1 + 1 + 14) = .cs [.sc (.int .i64 t[i].n)] 0 := (show o1 (sM6.nx + 1 + 1 + 1 + 14) = o0 (sM6.nx + 1 + 1 + 1 + 14) from by simp (disch := omega) only [ho1, upd_ne, upd_same, kill_ne]).trans kb0
      have x0 : o0 (s1.nx + 4) = _ := (show o0 (s1.nx + 4) = sM6.ob (s1.nx + 4) from by simp (disch := omega) only [ho0, upd_ne, upd_same, kill_ne]).trans hx6
      have x1 : o1 (s1.nx + 4) = _ := (show o1 (s1.nx + 4) = o0 (s1.nx + 4) from by simp (disch := omega) only [ho1, upd_ne, upd_same, kill_ne]).trans x0
      refine aw_dra_seq C (pb := false) 22 [7, 15, 18, 21] [o0, o1, o2, o3, o4] rfl (by kernel_rfl) (by kernel_rfl) rfl (fun j hj => by simp (disch := omega) only [osL_0, ho0, upd_ne]) fun K hK => ?_
      (first | refine dra_yes [0, 1, 2] (by rfl) (by rfl) (by rfl) (by rfl) (by kernel_rfl) ⟨⟨_, by simp  only [go_sem, ↓reduceIte, Nat.reduceEqDiff, reduceCtorEq, Nat.reduceAdd, Nat.reduceMul, Nat.reduceLeDiff, aLoad, aStore, osL_0, osL_1, osL_2, osL_3, osL_4, osL_5, osL_6, c0, c1, c2, c3, x0, x1]; (try exact rfl), fun _ => rfl⟩, ⟨_, by simp  only [go_sem, ↓reduceIte, Nat.reduceEqDiff, reduceCtorEq, Nat.reduceAdd, Nat.reduceMul, Nat.reduceLeDiff, aLoad, aStore, osL_0, osL_1, osL_2, osL_3, osL_4, osL_5, osL_6, c0, c1, c2, c3, x0, x1]; (try exact rfl), fun _ => rfl⟩, ⟨_, by simp  only [go_sem, ↓reduceIte, Nat.reduceEqDiff, reduceCtorEq, Nat.reduceAdd, Nat.reduceMul, Nat.reduceLeDiff, aLoad, aStore, osL_0, osL_1, osL_2, osL_3, osL_4, osL_5, osL_6, c0, c1, c2, c3, x0, x1]; (try exact rfl), fun _ => rfl⟩, trivial⟩ ?_ | refine dra_no (by rfl) (by rfl) (by rfl) ?_)
      (first | refine dra_yes [0, 1, 2, 3] (by rfl) (by rfl) (by rfl) (by rfl) (by kernel_rfl) ⟨⟨_, by simp  only [go_sem, ↓reduceIte, Nat.reduceEqDiff, reduceCtorEq, Nat.reduceAdd, Nat.reduceMul, Nat.reduceLeDiff, aLoad, aStore, osL_0, osL_1, osL_2, osL_3, osL_4, osL_5, osL_6, c0, c1, c2, c3, x0, x1]; (try exact rfl), fun _ => rfl⟩, ⟨_, by simp  only [go_sem, ↓reduceIte, Nat.reduceEqDiff, reduceCtorEq, Nat.reduceAdd, Nat.reduceMul, Nat.reduceLeDiff, aLoad, aStore, osL_0, osL_1, osL_2, osL_3, osL_4, osL_5, osL_6, c0, c1, c2, c3, x0, x1]; (try exact rfl), fun _ => rfl⟩, ⟨_, by simp  only [go_sem, ↓reduceIte, Nat.reduceEqDiff, reduceCtorEq, Nat.reduceAdd, Nat.reduceMul, Nat.reduceLeDiff, aLoad, aStore, osL_0, osL_1, osL_2, osL_3, osL_4, osL_5, osL_6, c0, c1, c2, c3, x0, x1]; (try exact rfl), fun _ => rfl⟩, ⟨_, by simp  only [go_sem, ↓reduceIte, Nat.reduceEqDiff, reduceCtorEq, Nat.reduceAdd, Nat.reduceMul, Nat.reduceLeDiff, aLoad, aStore, osL_0, osL_1, osL_2, osL_3, osL_4, osL_5, osL_6, c0, c1, c2, c3, x0, x1]; (try exact rfl), fun _ => rfl⟩, trivial⟩ ?_ | refine dra_no (by rfl) (by rfl) (by rfl) ?_)
      iterate 4 (first | refine dra_yes [0] (by rfl) (by rfl) (by rfl) (by rfl) (by kernel_rfl) ⟨⟨_, by simp  only [go_sem, ↓reduceIte, Nat.reduceEqDiff, reduceCtorEq, Nat.reduceAdd, Nat.reduceMul, Nat.reduceLeDiff, aLoad, aStore, osL_0, osL_1, osL_2, osL_3, osL_4, osL_5, osL_6, c0, c1, c2, c3, x0, x1]; (try exact rfl), fun _ => rfl⟩, trivial⟩ ?_ | refine dra_no (by rfl) (by rfl) (by rfl) ?_)
      refine dra_yes [0] (by rfl) (by rfl) (by rfl) (by rfl) (by kernel_rfl) ⟨⟨_, (by simp only [go_sem, ↓reduceIte, Nat.reduceEqDiff, reduceCtorEq, Nat.reduceAdd, Nat.reduceMul, Nat.reduceLeDiff, osL_0, osL_1, x0, x1, aLoad]; try exact rfl), fun j => upd_self ka j⟩, trivial⟩ ?_
      refine dra_eff (by rfl) (by rfl) (by rfl) (by rfl) ((show aop C false _ _ _ _ = aAppend T o0 _ 36 _ _ from rfl).trans (appO (id := id) (n := i) (f := D) (v := (-1)) d0 ka (by omega))) (fun j => (congrFun ho1 j).symm) ⟨Nat.le_refl _, rfl⟩ ?_
      iterate 6 (first | refine dra_yes [0, 1] (by rfl) (by rfl) (by rfl) (by rfl) (by kernel_rfl) ⟨⟨_, by simp  only [go_sem, ↓reduceIte, Nat.reduceEqDiff, reduceCtorEq, Nat.reduceAdd, Nat.reduceMul, Nat.reduceLeDiff, aLoad, aStore, osL_0, osL_1, osL_2, osL_3, osL_4, osL_5, osL_6, c0, c1, c2, c3, x0, x1]; (try exact rfl), fun _ => rfl⟩, ⟨_, by simp  only [go_sem, ↓reduceIte, Nat.reduceEqDiff, reduceCtorEq, Nat.reduceAdd, Nat.reduceMul, Nat.reduceLeDiff, aLoad, aStore, osL_0, osL_1, osL_2, osL_3, osL_4, osL_5, osL_6, c0, c1, c2, c3, x0, x1]; (try exact rfl), fun _ => rfl⟩, trivial⟩ ?_ | refine dra_no (by rfl) (by rfl) (by rfl) ?_)
      refine dra_yes [0, 1] (by rfl) (by rfl) (by rfl) (by rfl) (by kernel_rfl) ⟨⟨_, (by simp only [go_sem, ↓reduceIte, Nat.reduceEqDiff, reduceCtorEq, Nat.reduceAdd, Nat.reduceMul, Nat.reduceLeDiff, osL_0, osL_1, x0, x1, aLoad]; try exact rfl), fun j => upd_self kb0 j⟩, ⟨_, (by simp only [go_sem, ↓reduceIte, Nat.reduceEqDiff, reduceCtorEq, Nat.reduceAdd, Nat.reduceMul, Nat.reduceLeDiff, osL_0, osL_1, x0, x1, aLoad]; try exact rfl), fun j => upd_self kb1 j⟩, trivial⟩ ?_
      refine dra_eff (by rfl) (by rfl) (by rfl) (by rfl) ((show aop C false _ _ _ _ = aAppend T o1 _ 36 _ _ from rfl).trans (appO (id := iN) (n := i) (f := N) (v := t[i].n) n1 kb1 (by omega))) (fun j => (congrFun ho2 j).symm) ⟨Nat.le_refl _, rfl⟩ ?_
      iterate 2 (first | refine dra_yes [2] (by rfl) (by rfl) (by rfl) (by rfl) (by kernel_rfl) ⟨⟨_, by simp  only [go_sem, ↓reduceIte, Nat.reduceEqDiff, reduceCtorEq, Nat.reduceAdd, Nat.reduceMul, Nat.reduceLeDiff, aLoad, aStore, osL_0, osL_1, osL_2, osL_3, osL_4, osL_5, osL_6, c0, c1, c2, c3, x0, x1]; (try exact rfl), fun _ => rfl⟩, trivial⟩ ?_ | refine dra_no (by rfl) (by rfl) (by rfl) ?_)
      refine dra_eff0 (by rfl) (by rfl) (by rfl) (by rfl) (by simp  only [go_sem, ↓reduceIte, Nat.reduceEqDiff, reduceCtorEq, Nat.reduceAdd, Nat.reduceMul, Nat.reduceLeDiff, aLoad, aStore, osL_0, osL_1, osL_2, osL_3, osL_4, osL_5, osL_6, c0, c1, c2, c3, x0, x1]; exact rfl) (fun j => (congrFun ho3 j).symm) ⟨Nat.le_refl _, rfl⟩ ?_
      iterate 2 (first | refine dra_yes [3] (by rfl) (by rfl) (by rfl) (by rfl) (by kernel_rfl) ⟨⟨_, by simp  only [go_sem, ↓reduceIte, Nat.reduceEqDiff, reduceCtorEq, Nat.reduceAdd, Nat.reduceMul, Nat.reduceLeDiff, aLoad, aStore, osL_0, osL_1, osL_2, osL_3, osL_4, osL_5, osL_6, c0, c1, c2, c3, x0, x1]; (try exact rfl), fun _ => rfl⟩, trivial⟩ ?_ | refine dra_no (by rfl) (by rfl) (by rfl) ?_)
      refine dra_eff0 (by rfl) (by rfl) (by rfl) (by rfl) (by simp  only [go_sem, ↓reduceIte, Nat.reduceEqDiff, reduceCtorEq, Nat.reduceAdd, Nat.reduceMul, Nat.reduceLeDiff, aLoad, aStore, osL_0, osL_1, osL_2, osL_3, osL_4, osL_5, osL_6, c0, c1, c2, c3, x0, x1]; exact rfl) (fun j => (congrFun ho4 j).symm) ⟨Nat.le_refl _, rfl⟩ ?_
      refine dra_nil (hK _ ?_)
      simp only [osL_0, osL_1, osL_2, osL_3, osL_4, osL_5, osL_6, List.length_cons, List.length_nil, Nat.reduceAdd]
      have hMI := hM6.pushDN (ob' := o4) (m := sM6.nx + 1 + 1 + 1 + 22) (k := sM6.nx + 1 + 1 + 1 + 7) (k' := sM6.nx + 1 + 1 + 1 + 15) (v := (-1)) (v' := t[i].n) (by omega) (by omega) (by omega) (by omega) (by omega) (by omega) ((congrFun ho4 _).trans (upd_same _ _ _)) (by simp (disch := omega) only [ho4, ho3, ho2, ho1, upd_ne, upd_same, kill_ne]) (by simp (disch := omega) only [ho4, ho3, ho2, upd_ne, upd_same, kill_ne]) (fun j hj h1 h2 h3 => by simp (disch := omega) only [ho4, ho3, ho2, ho1, ho0, upd_ne, upd_same, kill_ne])
      have hx8 : o4 (s1.nx + 4) = _ := (show o4 (s1.nx + 4) = sM6.ob (s1.nx + 4) from by simp (disch := omega) only [ho4, ho3, ho2, ho1, ho0, upd_ne, upd_same, kill_ne]).trans hx6
      clear hK K
      refine aw_seq ?_
      refine aw_region_seq C (pb := false) rfl fun K hK => ?_
      repeat' (first | refine wy1 (a := by simp only [go_sem, ↓reduceIte, Nat.reduceEqDiff, reduceCtorEq, Nat.reduceAdd, Nat.reduceMul, Nat.reduceLeDiff, aLoad, aStore, hx8, lookA T61 rfl T3 rfl T3 rfl rfl hMI.m]; exact rfl) (h := ?_) | fail)
      refine awOps_nil (hK _ _ ?_)
      clear hK K
      refine aw_region_seq C (pb := false) rfl fun K hK => ?_
      repeat' (first | refine wy0 (h := ?_) | fail)
      refine awOps_nil (hK _ _ ?_)
      clear hK K
      refine aw_cond (by rfl) ?_ ?_
      · intro hc2
        have hlt : fstV t t[i].n < i := by
          rcases Nat.lt_or_ge (fstV t t[i].n) i with h | h
          · exact h
          · rw [hf, if_neg (by omega)] at hc2; cases hc2
        have hlk : lkA ml t[i].n = some (.sc (.int .i64 (fstV t t[i].n : Int))) := by rw [hf, if_pos hlt]
        refine aw_cutM_seq C (pb := false) [(3, .av (.ptr (s.nx + 3) 0)), (4, .av (.map (s.nx + 5))), (5, vI i), (13, .av (.sc x)), (14, vI t.length), (15, vI i)] (fun s2 => MI s x (s.nx + 3) (s.nx + 5) (i + 1) (i + 1) (i + 1) k6 (sM6.nx + 1 + 1 + 1 + 7) (sM6.nx + 1 + 1 + 1 + 15) ml (upd U i (fstV t t[i].n)) (upd D i (-1)) (upd N i t[i].n) s2) rfl ?_ fun sM12 hM12 => ?_
        · skip
          all_goals (repeat' (first | refine wy1 (a := by simp only [go_sem, ↓reduceIte, Nat.reduceEqDiff, reduceCtorEq, Nat.reduceAdd, Nat.reduceMul, Nat.reduceLeDiff, ldA hMI.c, hlk, Option.getD_some, slOf_pos (Nat.succ_ne_zero i), ixO (Nat.lt_succ_self i), stO (hMI.u (Nat.succ_ne_zero i)) (Nat.lt_succ_self i) (Nat.zero_le _)]; exact rfl) (h := ?_) | refine wz1 (a := by simp only [go_sem, ↓reduceIte, Nat.reduceEqDiff, reduceCtorEq, Nat.reduceAdd, Nat.reduceMul, Nat.reduceLeDiff, ldA hMI.c, hlk, Option.getD_some, slOf_pos (Nat.succ_ne_zero i), ixO (Nat.lt_succ_self i), stO (hMI.u (Nat.succ_ne_zero i)) (Nat.lt_succ_self i) (Nat.zero_le _)]; exact rfl) (h := ?_) | fail))
          exact awOps_nil ⟨⟨rfl, rfl, rfl, rfl, rfl, rfl, trivial⟩, hMI.setU (by first | omega | (dsimp only; omega) | (dsimp only at *; omega)) ((upd_same _ _ _).trans (by rw [upd_upd])) (fun j hj h1 => upd_ne _ _ h1)⟩
        refine aw_exit ?_
        simp only [thenA_normal, thenA_ret, thenA_exit, blockA_normal, blockA_ret, blockA_exit, ↓reduceIte, Nat.reduceEqDiff]
        refine aw_region C (pb := false) rfl ?_
        repeat' (first | refine wy1 (a := by simp only [go_sem, ↓reduceIte, Nat.reduceEqDiff, reduceCtorEq, Nat.reduceAdd, Nat.reduceMul, Nat.reduceLeDiff, aLoad, aStore, wrap_small ((i : Int) + 1) (by omega) (by omega)]; exact rfl) (h := ?_) | fail)
        refine awOps_nil ?_
        try simp only [thenA_normal, thenA_ret, thenA_exit, blockA_normal, blockA_ret, blockA_exit]
        -- end of round 0 at 0t1f2t.x1
        refine ⟨t.length - (i + 1), [(3, .av (.ptr (s.nx + 3) 0)), (4, .av (.map (s.nx + 5))), (13, .av (.sc x)), (14, vI t.length), (15, vI (i + 1))], by omega, AllIn.less ⟨rfl, rfl, rfl, rfl, rfl, trivial⟩, i + 1, k6, sM6.nx + 1 + 1 + 1 + 7, sM6.nx + 1 + 1 + 1 + 15, ml, upd U i (fstV t t[i].n), upd D i (-1), upd N i t[i].n, rfl, rfl, ?_, ?_, ?_, ?_⟩
        · exact hM12.frame (by first | omega | (dsimp only; omega) | (dsimp only at *; omega)) (fun _ _ => rfl)
        · omega
        · exact hf.old hi2 hk1 hlt
        · exact ⟨updM hU.1 (by rw [upM, List.getElem?_eq_getElem hi2]; simp only [if_pos hk1]), updM hU.2.1 (by rw [doesM, List.getElem?_eq_getElem hi2]; simp only [if_pos hk1]), updM hU.2.2 (by rw [nameM, List.getElem?_eq_getElem hi2]; simp only [if_pos hk1])⟩
      · intro hc2
        have heq : fstV t t[i].n = i := by
          rcases Nat.lt_or_ge (fstV t t[i].n) i with h | h
          · rw [hf, if_pos h] at hc2; cases hc2
          · omega
        refine aw_skip ?_
        simp only [thenA_normal, thenA_ret, thenA_exit, blockA_normal, blockA_ret, blockA_exit, ↓reduceIte, Nat.reduceEqDiff]
        refine aw_cutM C (pb := false) [(3, .av (.ptr (s.nx + 3) 0)), (4, .av (.map (s.nx + 5))), (5, vI i), (13, .av (.sc x)), (14, vI t.length), (15, vI i)] (fun s2 => MI s x (s.nx + 3) (s.nx + 5) (i + 1) (i + 1) (i + 1) k6 (sM6.nx + 1 + 1 + 1 + 7) (sM6.nx + 1 + 1 + 1 + 15) (setA ml t[i].n (.sc (.int .i64 (i : Int)))) (upd U i i) (upd D i (-1)) (upd N i t[i].n) s2) rfl ?_ fun sM13 hM13 => ?_
        · skip
          all_goals (repeat' (first | refine wy1 (a := by simp only [go_sem, ↓reduceIte, Nat.reduceEqDiff, reduceCtorEq, Nat.reduceAdd, Nat.reduceMul, Nat.reduceLeDiff, aLoad, aStore, hx8, mapUpdA T61 rfl T3 rfl hMI.m]; exact rfl) (h := ?_) | refine wz1 (a := by simp only [go_sem, ↓reduceIte, Nat.reduceEqDiff, reduceCtorEq, Nat.reduceAdd, Nat.reduceMul, Nat.reduceLeDiff, aLoad, aStore, hx8, mapUpdA T61 rfl T3 rfl hMI.m]; exact rfl) (h := ?_) | fail))
          exact awOps_nil ⟨⟨rfl, rfl, rfl, rfl, rfl, rfl, trivial⟩, hMI.setM (by first | omega | (dsimp only; omega) | (dsimp only at *; omega)) (upd_same _ _ _) (fun j hj h1 => upd_ne _ _ h1)⟩
        simp only [thenA_normal, thenA_ret, thenA_exit, blockA_normal, blockA_ret, blockA_exit]
        refine aw_region C (pb := false) rfl ?_
        repeat' (first | refine wy1 (a := by simp only [go_sem, ↓reduceIte, Nat.reduceEqDiff, reduceCtorEq, Nat.reduceAdd, Nat.reduceMul, Nat.reduceLeDiff, aLoad, aStore, wrap_small ((i : Int) + 1) (by omega) (by omega)]; exact rfl) (h := ?_) | fail)
        refine awOps_nil ?_
        try simp only [thenA_normal, thenA_ret, thenA_exit, blockA_normal, blockA_ret, blockA_exit]
        -- end of round 0 at 0t1f2f
        refine ⟨t.length - (i + 1), [(3, .av (.ptr (s.nx + 3) 0)), (4, .av (.map (s.nx + 5))), (13, .av (.sc x)), (14, vI t.length), (15, vI (i + 1))], by omega, AllIn.less ⟨rfl, rfl, rfl, rfl, rfl, trivial⟩, i + 1, k6, sM6.nx + 1 + 1 + 1 + 7, sM6.nx + 1 + 1 + 1 + 15, setA ml t[i].n (.sc (.int .i64 (i : Int))), upd U i i, upd D i (-1), upd N i t[i].n, rfl, rfl, ?_, ?_, ?_, ?_⟩
        · exact hM13.frame (by first | omega | (dsimp only; omega) | (dsimp only at *; omega)) (fun _ _ => rfl)
        · omega
        · exact hf.new hi2 hk1 heq
        · exact ⟨updM hU.1 (by rw [upM, List.getElem?_eq_getElem hi2]; simp only [if_pos hk1, heq]), updM hU.2.1 (by rw [doesM, List.getElem?_eq_getElem hi2]; simp only [if_pos hk1]), updM hU.2.2 (by rw [nameM, List.getElem?_eq_getElem hi2]; simp only [if_pos hk1])⟩
  · intro hc0
    try simp only [decide_eq_true_eq, decide_eq_false_iff_not] at hc0
    refine aw_exit ?_
    simp only [thenA_normal, thenA_ret, thenA_exit, blockA_normal, blockA_ret, blockA_exit, ↓reduceIte, Nat.reduceEqDiff]
    refine aw_region_seq C (pb := false) rfl fun K hK => ?_
    repeat' (first | refine wy0 (h := ?_) | fail)
    refine awOps_nil (hK _ _ ?_)
    clear hK K
    refine aw_ret ?_
    simp only [go_sem, ↓reduceIte, Nat.reduceEqDiff, reduceCtorEq, Nat.reduceAdd, Nat.reduceMul, Nat.reduceLeDiff, aLoad, aStore, FnQ, resA]
    -- 0f.x0.ret
    have hi3 : i = t.length := by omega
    subst hi3
    exact fun _ => ⟨_, _, _, _, _, _, rfl, (hs1.congr hU.1 hU.2.1 hU.2.2).frame (by first | omega | (dsimp only; omega) | (dsimp only at *; omega)) fun _ _ => rfl⟩
end Go.Am.Seat
/-
  MADE BY PROGRAM (am.py): the walks of functions 63.
-/
namespace Go.Am.Seat
open Go.Proofs
theorem bod63 : Try.f63.body = some (Try.f63.body.getD .skip) := rfl
theorem fn63 (L : Loops) (n : Nat) (s : Me) (hn : n ≤ 1099511627776) : FnL Try.prog L 63 [.av (.sc .nilsl), vI n] s fun r s' => ∃ ob' m, s' = ⟨ob', m, s.ls⟩ ∧ s.nx ≤ m ∧ (∀ i, i < s.nx → ob' i = s.ob i) ∧ AccL s.nx m ob' r 0 3 [] := by
  refine fn_of_body (ts := [4]) Try.func63 bod63 rfl (by simp) (by simp [Try.ntmps63]) fun D0 => ?_
  unfold Try.f63
  simp only [Option.getD_some, initSl]
  refine aw_region_seq C (pb := false) rfl fun K hK => ?_
  repeat' (first | refine wy0 (h := ?_) | fail)
  refine awOps_nil (hK _ _ ?_)
  clear hK K
  refine aw_seq ?_
  refine aw_region_seq C (pb := false) rfl fun K hK => ?_
  repeat' (first | refine wy0 (h := ?_) | fail)
  refine awOps_nil (hK _ _ ?_)
  clear hK K
  refine aw_cond (by rfl) ?_ ?_
  · intro hc0
    try simp only [decide_eq_true_eq, decide_eq_false_iff_not] at hc0
    omega
  · intro hc0
    try simp only [decide_eq_true_eq, decide_eq_false_iff_not] at hc0
    refine aw_skip ?_
    simp only [thenA_normal, thenA_ret, thenA_exit, blockA_normal, blockA_ret, blockA_exit, ↓reduceIte, Nat.reduceEqDiff]
    refine aw_seq ?_
    refine aw_region_seq C (pb := false) rfl fun K hK => ?_
    repeat' (first | refine wy1 (a := by simp only [go_sem, ↓reduceIte, Nat.reduceEqDiff, reduceCtorEq, Nat.reduceAdd, Nat.reduceMul, Nat.reduceLeDiff, aLoad, aStore, aLen, wrap_small (0 - 0) (by omega) (by omega), wrap_small ((n : Int) - (0 - 0)) (by omega) (by omega), Int.sub_zero, wrap_small (n : Int) (by omega) (by omega)]; exact rfl) (h := ?_) | fail)
    refine awOps_nil (hK _ _ ?_)
    clear hK K
    refine aw_region_seq C (pb := false) rfl fun K hK => ?_
    repeat' (first | refine wy0 (h := ?_) | fail)
    refine awOps_nil (hK _ _ ?_)
    clear hK K
    refine aw_cond (by rfl) ?_ ?_
    · intro hc1
      try simp only [decide_eq_true_eq, decide_eq_false_iff_not] at hc1
      have hn1 : (0 : Int) < n := by omega
      refine aw_region C (pb := false) rfl ?_
      repeat' (first | refine wy1 (a := by simp only [go_sem, ↓reduceIte, Nat.reduceEqDiff, reduceCtorEq, Nat.reduceAdd, Nat.reduceMul, Nat.reduceLeDiff, aLoad, aStore, slcN22, appZ22 hn1 (by omega), slcO22z, aLen]; exact rfl) (h := ?_) | fail)
      refine awOps_nil ?_
      try simp only [thenA_normal, thenA_ret, thenA_exit, blockA_normal, blockA_ret, blockA_exit]
      refine aw_region_seq C (pb := false) rfl fun K hK => ?_
      repeat' (first | refine wy0 (h := ?_) | fail)
      refine awOps_nil (hK _ _ ?_)
      clear hK K
      refine aw_ret ?_
      simp only [go_sem, ↓reduceIte, Nat.reduceEqDiff, reduceCtorEq, Nat.reduceAdd, Nat.reduceMul, Nat.reduceLeDiff, aLoad, aStore, FnQ, resA]
      -- 0f1t.ret
      first | exact fun h => ⟨_, _, rfl, h, fun i hi => upd_ne _ _ (by omega), .inr ⟨_, 0, _, rfl, by omega, by omega, upd_same _ _ _, Nat.zero_le _, by simp, by simp⟩⟩ | exact fun h => ⟨_, _, rfl, h, fun _ _ => rfl, .inl ⟨rfl, rfl, rfl⟩⟩
    · intro hc1
      try simp only [decide_eq_true_eq, decide_eq_false_iff_not] at hc1
      refine aw_skip ?_
      simp only [thenA_normal, thenA_ret, thenA_exit, blockA_normal, blockA_ret, blockA_exit, ↓reduceIte, Nat.reduceEqDiff]
      refine aw_region_seq C (pb := false) rfl fun K hK => ?_
      repeat' (first | refine wy0 (h := ?_) | fail)
      refine awOps_nil (hK _ _ ?_)
      clear hK K
      refine aw_ret ?_
      simp only [go_sem, ↓reduceIte, Nat.reduceEqDiff, reduceCtorEq, Nat.reduceAdd, Nat.reduceMul, Nat.reduceLeDiff, aLoad, aStore, FnQ, resA]
      -- 0f1f.ret
      first | exact fun h => ⟨_, _, rfl, h, fun i hi => upd_ne _ _ (by omega), .inr ⟨_, 0, _, rfl, by omega, by omega, upd_same _ _ _, Nat.zero_le _, by simp, by simp⟩⟩ | exact fun h => ⟨_, _, rfl, h, fun _ _ => rfl, .inl ⟨rfl, rfl, rfl⟩⟩
end Go.Am.Seat
/-
  MADE BY PROGRAM (am.py): the walks of functions 35.
-/
namespace Go.Am.Seat
open Go.Proofs

def lens (val : Sc → List Cell) (l : List Sc) : Nat := (l.map fun t => (val t).length).sum
theorem lens_take {val : Sc → List Cell} {l : List Sc} {i : Nat} (h : i < l.length) : lens val (l.take (i + 1)) = lens val (l.take i) + (val l[i]).length := by
  rw [lens, List.take_succ_eq_append_getElem h, List.map_append, List.sum_append]
  simp [lens]
theorem lens_le {val : Sc → List Cell} {B : Nat} : ∀ {l : List Sc}, (∀ t ∈ l, (val t).length ≤ B) → lens val l ≤ B * l.length
  | [], _ => by simp [lens]
  | a :: l, h => by
    have h1 := h a (by simp)
    have h2 := lens_le (l := l) fun t ht => h t (by simp [ht])
    have e1 : lens val (a :: l) = (val a).length + lens val l := by simp [lens]
    have e2 : B * (l.length + 1) = B * l.length + B := Nat.mul_succ _ _
    rw [e1, List.length_cons, e2]
    omega
theorem lens_flat {val : Sc → List Cell} : ∀ {l : List Sc}, (l.flatMap val).length = lens val l
  | [] => rfl
  | a :: l => by simp [lens]

theorem bod35 : Try.f35.body = some (Try.f35.body.getD .skip) := rfl
theorem fn35 (L : Loops) (ts : List Sc) (val : Sc → List Cell) (s : Me) (x : Sc) (hx : GSl encT x ts) (hv : ∀ t ∈ ts, GSl encC t (val t) ∧ (val t).length ≤ 1000000) (hl : ts.length ≤ 100000) : FnL Try.prog L 35 [.av (.sc x)] s fun r s' => (∃ y, r = .av (.sc y) ∧ GSl encC y (ts.flatMap val)) ∧ s' = s := by
  refine FnL.pure (R := fun r => ∃ y, r = .av (.sc y) ∧ GSl encC y (ts.flatMap val)) ?_
  have hv0 := hv
  have hvl : ∀ l : List Sc, (∀ t ∈ l, t ∈ ts) → l.length ≤ 100000 → lens val l ≤ 100000000000 := fun l h1 h2 => by
    have := lens_le (val := val) (B := 1000000) fun t ht => (hv t (h1 t ht)).2
    have : 1000000 * l.length ≤ 1000000 * 100000 := Nat.mul_le_mul_left _ h2
    omega
  refine fn_of_body (ts := [2]) Try.func35 bod35 rfl (by simp) (by simp [Try.ntmps35]) fun D0 => ?_
  unfold Try.f35
  simp only [Option.getD_some, initSl]
  refine aw_region_seq C (pb := false) rfl fun K hK => ?_
  repeat' (first | refine wy0 (h := ?_) | fail)
  refine awOps_nil (hK _ _ ?_)
  clear hK K
  refine aw_region_seq C (pb := false) rfl fun K hK => ?_
  repeat' (first | refine wy0 (h := ?_) | fail)
  refine awOps_nil (hK _ _ ?_)
  clear hK K
  refine aw_seq ?_
  refine aw_region_seq C (pb := false) rfl fun K hK => ?_
  repeat' (first | refine wy1 (a := by simp only [go_sem, ↓reduceIte, Nat.reduceEqDiff, reduceCtorEq, Nat.reduceAdd, Nat.reduceMul, Nat.reduceLeDiff, aLoad, aStore, lenT hx]; exact rfl) (h := ?_) | fail)
  refine awOps_nil (hK _ _ ?_)
  clear hK K
  refine aw_block ?_
  refine AW.less (sl' := [(0, .av (.sc x)), (3, vI (lens val (ts.take (0)) : Nat)), (9, .av (.sc x)), (10, vI ts.length), (11, vI (0))]) (AllIn.less ⟨rfl, rfl, rfl, rfl, rfl, trivial⟩) (aw_loop (fun k sl1 s1 => ∃ (i : Nat), k = ts.length - i ∧ sl1 = [(0, .av (.sc x)), (3, vI (lens val (ts.take (i)) : Nat)), (9, .av (.sc x)), (10, vI ts.length), (11, vI (i))] ∧ (Kp s s1) ∧ (i ≤ ts.length)) (k := ts.length - (0)) ⟨0, rfl, rfl, (Kp.refl s).up (by omega), Nat.zero_le _⟩ ?_)
  rintro k1 _ s1 ⟨i, hk1, rfl, hs1, hb⟩
  refine aw_region_seq C (pb := false) rfl fun K hK => ?_
  repeat' (first | refine wy0 (h := ?_) | fail)
  refine awOps_nil (hK _ _ ?_)
  clear hK K
  refine aw_seq ?_
  refine aw_cond (by rfl) ?_ ?_
  · intro hc0
    try simp only [decide_eq_true_eq, decide_eq_false_iff_not] at hc0
    have hi2 : i < ts.length := by omega
    have hvi := (hv ts[i] (List.getElem_mem hi2))
    have hlt := hvl (ts.take i) (fun t ht => List.mem_of_mem_take ht) (by rw [List.length_take]; omega)
    refine aw_skip ?_
    simp only [thenA_normal, thenA_ret, thenA_exit, blockA_normal, blockA_ret, blockA_exit, ↓reduceIte, Nat.reduceEqDiff]
    refine aw_seq ?_
    refine aw_block ?_
    refine aw_region_seq C (pb := false) rfl fun K hK => ?_
    repeat' (first | refine wy1 (a := by simp only [go_sem, ↓reduceIte, Nat.reduceEqDiff, reduceCtorEq, Nat.reduceAdd, Nat.reduceMul, Nat.reduceLeDiff, aLoad, aStore, idxT hx hi2]; exact rfl) (h := ?_) | fail)
    refine awOps_nil (hK _ _ ?_)
    clear hK K
    refine aw_region_seq C (pb := false) rfl fun K hK => ?_
    repeat' (first | refine wy1 (a := by simp only [go_sem, ↓reduceIte, Nat.reduceEqDiff, reduceCtorEq, Nat.reduceAdd, Nat.reduceMul, Nat.reduceLeDiff, aLoad, aStore, lenC hvi.1, wrap_small ((lens val (ts.take i) : Nat) + ((val ts[i]).length : Nat) : Int) (by omega) (by omega)]; exact rfl) (h := ?_) | fail)
    refine awOps_nil (hK _ _ ?_)
    clear hK K
    refine aw_region_seq C (pb := false) rfl fun K hK => ?_
    repeat' (first | refine wy0 (h := ?_) | fail)
    refine awOps_nil (hK _ _ ?_)
    clear hK K
    refine aw_cond (by rfl) ?_ ?_
    · intro hc1
      try simp only [decide_eq_true_eq, decide_eq_false_iff_not] at hc1
      omega
    · intro hc1
      try simp only [decide_eq_true_eq, decide_eq_false_iff_not] at hc1
      refine aw_skip ?_
      simp only [thenA_normal, thenA_ret, thenA_exit, blockA_normal, blockA_ret, blockA_exit, ↓reduceIte, Nat.reduceEqDiff]
      refine aw_region C (pb := false) rfl ?_
      repeat' (first | refine wy1 (a := by simp only [go_sem, ↓reduceIte, Nat.reduceEqDiff, reduceCtorEq, Nat.reduceAdd, Nat.reduceMul, Nat.reduceLeDiff, aLoad, aStore, wrap_small ((i : Int) + 1) (by omega) (by omega)]; exact rfl) (h := ?_) | fail)
      refine awOps_nil ?_
      try simp only [thenA_normal, thenA_ret, thenA_exit, blockA_normal, blockA_ret, blockA_exit]
      -- end of round 0 at 0t1f
      refine ⟨ts.length - (i + 1), [(0, .av (.sc x)), (3, vI (lens val (ts.take (i + 1)) : Nat)), (9, .av (.sc x)), (10, vI ts.length), (11, vI (i + 1))], by omega, AllIn.less ⟨rfl, by rw [lens_take hi2]; rfl, rfl, rfl, rfl, trivial⟩, i + 1, rfl, rfl, ?_, ?_⟩
      · exact hs1.up (by omega)
      · omega
  · intro hc0
    try simp only [decide_eq_true_eq, decide_eq_false_iff_not] at hc0
    refine aw_exit ?_
    simp only [thenA_normal, thenA_ret, thenA_exit, blockA_normal, blockA_ret, blockA_exit, ↓reduceIte, Nat.reduceEqDiff]
    have hi3 : i = ts.length := by omega
    subst hi3
    have hlt := hvl ts (fun t ht => ht) hl
    rw [List.take_length] at *
    refine aw_region_seq C (pb := false) rfl fun K hK => ?_
    repeat' (first | refine wy0 (h := ?_) | fail)
    refine wc (And.intro Try.call63 (fn63 L (lens val ts) _ (by omega))) ?_
    rintro x7 _ ⟨ob7, m7, rfl, hm7, hob7, hacc7⟩
    dsimp only at hm7 hob7 hacc7
    have hs11 := hs1.1
    repeat' (first | refine wy0 (h := ?_) | fail)
    refine awOps_nil (hK _ _ ?_)
    clear hK K
    refine aw_seq ?_
    refine aw_region_seq C (pb := false) rfl fun K hK => ?_
    repeat' (first | refine wy1 (a := by simp only [go_sem, ↓reduceIte, Nat.reduceEqDiff, reduceCtorEq, Nat.reduceAdd, Nat.reduceMul, Nat.reduceLeDiff, aLoad, aStore, lenT hx]; exact rfl) (h := ?_) | fail)
    refine awOps_nil (hK _ _ ?_)
    clear hK K
    refine aw_block ?_
    refine AW.less (sl' := [(0, .av (.sc x)), (6, (_)), (25, .av (.sc x)), (26, vI ts.length), (27, vI (0))]) (AllIn.less ⟨rfl, rfl, rfl, rfl, rfl, trivial⟩) (aw_loop (fun k sl1 s1 => ∃ (i : Nat) (xo : Va) (out : List Cell), k = ts.length - i ∧ sl1 = [(0, .av (.sc x)), (6, (xo)), (25, .av (.sc x)), (26, vI ts.length), (27, vI (i))] ∧ (Kp s s1) ∧ (i ≤ ts.length ∧ out = (ts.take i).flatMap val) ∧ (AccL s.nx s1.nx s1.ob xo out.length 3 ((out.flatMap encC).map .sc))) (k := ts.length - (0)) ⟨0, _, [], rfl, rfl, ⟨(by first | omega | (dsimp only; omega) | (dsimp only at *; omega)), fun j hj => (hob7 j (by first | omega | (dsimp only; omega) | (dsimp only at *; omega))).trans (hs1.2.1 j hj), hs1.2.2⟩, ⟨Nat.zero_le _, rfl⟩, (hacc7.low (by first | omega | (dsimp only; omega) | (dsimp only at *; omega))).up (by first | omega | (dsimp only; omega) | (dsimp only at *; omega)) fun _ _ _ => rfl⟩ ?_)
    rintro k2 _ s2 ⟨i, xo, out, hk2, rfl, hs2, hb2, hacc⟩
    refine aw_region_seq C (pb := false) rfl fun K hK => ?_
    repeat' (first | refine wy0 (h := ?_) | fail)
    refine awOps_nil (hK _ _ ?_)
    clear hK K
    refine aw_seq ?_
    refine aw_cond (by rfl) ?_ ?_
    · intro hc2
      try simp only [decide_eq_true_eq, decide_eq_false_iff_not] at hc2
      have hi2 : i < ts.length := by omega
      have hvi := (hv ts[i] (List.getElem_mem hi2))
      have hol : out.length ≤ 100000000000 := by rw [hb2.2, lens_flat]; exact hvl _ (fun t ht => List.mem_of_mem_take ht) (by rw [List.length_take]; omega)
      refine aw_skip ?_
      simp only [thenA_normal, thenA_ret, thenA_exit, blockA_normal, blockA_ret, blockA_exit, ↓reduceIte, Nat.reduceEqDiff]
      refine aw_seq ?_
      refine aw_block ?_
      refine aw_region_seq C (pb := false) rfl fun K hK => ?_
      repeat' (first | refine wy1 (a := by simp only [go_sem, ↓reduceIte, Nat.reduceEqDiff, reduceCtorEq, Nat.reduceAdd, Nat.reduceMul, Nat.reduceLeDiff, aLoad, aStore, idxT hx hi2]; exact rfl) (h := ?_) | fail)
      refine awOps_nil (hK _ _ ?_)
      clear hK K
      refine aw_region C (pb := false) rfl ?_
      repeat' (first | refine wy0 (h := ?_) | fail)
      refine awOps_appendL (by rfl) (by rfl) (by rfl) (by rfl) hacc T22 rfl T42 rfl (by simp) (by simp [y42]) (aSrc_g (enc := encC) (k := 3) (fun _ => rfl) hvi.1 _) (by simp [flat_len (enc := encC) (k := 3) (fun _ => rfl)]) (by omega) (by omega) (by have := hs2.1; omega) fun x6 ob6 hacc6 hlow6 => ?_
      repeat' (first | refine wy0 (h := ?_) | fail)
      refine awOps_nil ?_
      try simp only [thenA_normal, thenA_ret, thenA_exit, blockA_normal, blockA_ret, blockA_exit]
      refine aw_region C (pb := false) rfl ?_
      repeat' (first | refine wy1 (a := by simp only [go_sem, ↓reduceIte, Nat.reduceEqDiff, reduceCtorEq, Nat.reduceAdd, Nat.reduceMul, Nat.reduceLeDiff, aLoad, aStore, wrap_small ((i : Int) + 1) (by omega) (by omega)]; exact rfl) (h := ?_) | fail)
      refine awOps_nil ?_
      try simp only [thenA_normal, thenA_ret, thenA_exit, blockA_normal, blockA_ret, blockA_exit]
      -- end of round 1 at 0f.x02t
      refine ⟨ts.length - (i + 1), [(0, .av (.sc x)), (6, (x6)), (25, .av (.sc x)), (26, vI ts.length), (27, vI (i + 1))], by omega, AllIn.less ⟨rfl, rfl, rfl, rfl, rfl, trivial⟩, i + 1, x6, out ++ val ts[i], rfl, rfl, ?_, ?_, ?_⟩
      · exact ⟨by have := hs2.1; exact (by first | omega | (dsimp only; omega) | (dsimp only at *; omega)), fun j hj => (hlow6 j hj).trans (hs2.2.1 j hj), hs2.2.2⟩
      · exact ⟨by omega, by rw [hb2.2, List.take_succ_eq_append_getElem hi2, List.flatMap_append]; simp⟩
      · simp only [List.length_append, List.flatMap_append, List.map_append]
        exact hacc6.up (by first | omega | (dsimp only; omega)) fun _ _ _ => rfl
    · intro hc2
      try simp only [decide_eq_true_eq, decide_eq_false_iff_not] at hc2
      refine aw_exit ?_
      simp only [thenA_normal, thenA_ret, thenA_exit, blockA_normal, blockA_ret, blockA_exit, ↓reduceIte, Nat.reduceEqDiff]
      obtain ⟨ty, ob9, hpv9, hty, hlow9⟩ := AccL.pure (enc := encC) (k := 3) (fun _ => rfl) hacc
      refine aw_pur 6 hpv9 ?_
      refine aw_region_seq C (pb := false) rfl fun K hK => ?_
      repeat' (first | refine wy0 (h := ?_) | fail)
      refine awOps_nil (hK _ _ ?_)
      clear hK K
      refine aw_ret ?_
      simp only [go_sem, ↓reduceIte, Nat.reduceEqDiff, reduceCtorEq, Nat.reduceAdd, Nat.reduceMul, Nat.reduceLeDiff, aLoad, aStore, FnQ, resA]
      -- 0f.x02f.x2.ret
      have hi3 : i = ts.length := by omega
      subst hi3
      rw [List.take_length] at hb2
      exact fun _ => ⟨rfl, fun j hj => (hlow9 j hj).trans (hs2.2.1 j hj), hs2.2.2, ty, rfl, by rw [← hb2.2]; exact hty⟩
end Go.Am.Seat
/-
  MADE BY PROGRAM (am.py): the walks of functions 13.
-/
namespace Go.Am.Seat
open Go.Proofs

theorem joinF_inv {t : List Cell} {nn : Nat} (ht : TOK t) (hnn : nn = t.length) : ∀ {F : Nat} {p : Nat → Nat} {D N : Nat → Int} {td : List (Nat × Nat)} {b : Bool} {p' : Nat → Nat} {D' N' : Nat → Int}, joinF t F p D N td = some (b, p', D', N') →
    (∀ i, i < nn → p i < nn) → (∀ i, i < nn → D i < nn) → (∀ ab ∈ td, ab.1 < nn ∧ ab.2 < nn) → (∀ i, i < nn → p' i < nn) ∧ (∀ i, i < nn → D' i < nn)
  | 0, _, _, _, _, _, _, _, _, h, _, _, _ => by simp [joinF] at h
  | F + 1, p, D, N, td, b, p', D', N', h, hp, hD, htd => by
    rcases List.eq_nil_or_concat td with rfl | ⟨td0, ab, rfl⟩
    · simp only [joinF, List.getLast?_nil, Option.some.injEq, Prod.mk.injEq] at h
      obtain ⟨_, rfl, rfl, _⟩ := h
      exact ⟨hp, hD⟩
    obtain ⟨a, c⟩ := ab
    rw [List.concat_eq_append] at h htd
    have hab := htd (a, c) (by simp)
    have htd0 : ∀ ab ∈ td0, ab.1 < nn ∧ ab.2 < nn := fun ab h => htd ab (by simp [h])
    simp only [joinF, List.getLast?_append, List.getLast?_singleton, Option.some_or, List.dropLast_concat] at h
    split at h
    · cases h
    rename_i x p1 h1
    split at h
    · cases h
    rename_i y p2 h2
    obtain ⟨hx, hp1⟩ := own1_lt h1 hab.1 hp
    obtain ⟨hy, hp2⟩ := own1_lt h2 hab.2 hp1
    have hp3 : ∀ i, i < nn → (upd p2 y x) i < nn := fun i hi => by
      by_cases h' : i = y
      · rw [h', upd_same]; exact hx
      · rw [upd_ne _ _ h']; exact hp2 i hi
    split at h
    · exact joinF_inv ht hnn h hp2 hD htd0
    split at h
    · exact joinF_inv ht hnn h hp3 hD htd0
    split at h
    · exact joinF_inv ht hnn h hp3 (fun i hi => by
        by_cases h' : i = x
        · rw [h', upd_same]; exact hD y hy
        · rw [upd_ne _ _ h']; exact hD i hi) htd0
    split at h
    · split at h
      · have hdx : (D x).toNat < t.length := by have := hD x hx; omega
        have hdy : (D y).toNat < t.length := by have := hD y hy; omega
        refine joinF_inv ht hnn h hp3 hD fun ab hab => ?_
        rcases List.mem_append.1 hab with h' | h'
        · exact htd0 ab h'
        · have := List.of_mem_zip (a := ab.1) (b := ab.2) h'
          rw [hnn]
          exact ⟨(partsN_lt ht hdx _ this.1).1, (partsN_lt ht hdy _ this.2).1⟩
      · simp only [Option.some.injEq, Prod.mk.injEq] at h
        obtain ⟨_, rfl, rfl, _⟩ := h
        exact ⟨hp3, hD⟩
    · cases h
def upN (t : List Cell) (i : Nat) : Nat := (upM t i).toNat
/-- The last place of a variable among the first i. -/
def lastB (t : List Cell) : Nat → Int → Option Nat
  | 0, _ => none
  | i + 1, n => match t[i]? with
    | some c => if c.kind = 1 ∧ c.n = n then some i else lastB t i n
    | none => lastB t i n
def bindL (t : List Cell) (D N : Nat → Int) (sz : Nat → Nat) (F : Nat) : List Nat → (Nat → Nat) → List (Nat × List Cell) → Option (List (Nat × List Cell) × Int)
  | [], _, out => some (out, 0)
  | n :: l, p, out => match lastB t t.length n with
    | none => bindL t D N sz F l p out
    | some a => match own1 F p a with
      | none => none
      | some (o, p1) => if D o < 0 ∧ N o = n then bindL t D N sz F l p1 out
        else if 200 < sz o then some ([], 2)
        else match termF t D N F p1 o with
          | none => none
          | some (c, p2) => if 1000000 < c.length then none else bindL t D N sz F l p2 (out ++ [(n, c)])
/-- What Mgu tells of two terms, one behind the other; the second one begins at k. -/
def mguR (F : Nat) (t : List Cell) (k : Nat) : Option (List (Nat × List Cell) × Int) :=
  match joinF t F (upN t) (doesM t) (nameM t) [(0, k)] with
  | none => none
  | some (ok, p1, D1, N1) => if ok = false then some ([], 3) else match ofAll t D1 F (List.range t.length) (st0 p1) with
    | none => none
    | some st => if st.fine = false then some ([], 3) else bindL t D1 N1 st.sz F (List.range 1000) st.p []
def bndOf (b : Nat × List Cell) : Bnd := ⟨(b.1 : Int), .sl b.2.length (b.2.flatMap encC)⟩
theorem flatC_inj : ∀ {l r : List Cell}, l.flatMap encC = r.flatMap encC → l = r
  | [], [], _ => rfl
  | [], c :: r, h => by simp [encC] at h
  | c :: l, [], h => by simp [encC] at h
  | ⟨k, n, i⟩ :: l, ⟨k', n', i'⟩ :: r, h => by
    simp only [List.flatMap_cons, encC, List.cons_append, List.nil_append, List.cons.injEq, Sc.int.injEq, Sc.str.injEq, true_and] at h
    obtain ⟨rfl, rfl, rfl, h⟩ := h
    rw [flatC_inj h]
theorem gsl_inj {x : Sc} {l r : List Cell} (h : GSl encC x l) (k : GSl encC x r) : l = r := by
  rcases h with ⟨rfl, rfl⟩ | rfl
  · rcases k with ⟨_, rfl⟩ | k
    · rfl
    · cases k
  · rcases k with ⟨k, _⟩ | k
    · cases k
    · simp only [Sc.sl.injEq] at k; exact flatC_inj k.2
theorem pur_two {ob : Nat → Obj} {k : Nat} {a b : Sc} (h : ob k = .cs [.sc a, .sc b] 0) : purV ob (.av (.own k 0 2 1)) = some (.av (.sc (.sl 2 [a, b])), upd ob k (.cs [.sc a, .sc b] 2)) := by
  simp [purV, purD, pur, h, purL]
theorem doesM_lt {t : List Cell} {i : Nat} (hi : i < t.length) : doesM t i < t.length := by
  rw [doesM, List.getElem?_eq_getElem hi]
  simp only
  split <;> omega
theorem upM_nat {t : List Cell} {i : Nat} : upM t i = ((upN t i : Nat) : Int) := by
  unfold upN upM
  split
  · split <;> simp
  · simp
theorem upN_lt {t : List Cell} {i : Nat} (hi : i < t.length) : upN t i < t.length := by
  unfold upN upM
  rw [List.getElem?_eq_getElem hi]
  simp only
  split
  · rename_i hk
    have := fstV_le hi hk
    omega
  · omega
theorem lastB_lt {t : List Cell} {n : Int} {k : Nat} : ∀ {i : Nat}, lastB t i n = some k → k < i ∧ k < t.length
  | 0, h => by simp [lastB] at h
  | i + 1, h => by
    simp only [lastB] at h
    split at h
    · rename_i c hc
      have := (List.getElem?_eq_some_iff.1 hc).1
      split at h
      · simp only [Option.some.injEq] at h; omega
      · have := lastB_lt h; omega
    · have := lastB_lt h; omega
def LastM (t : List Cell) (i : Nat) (ml : List (Int × Av)) : Prop := ∀ n, lkA ml n = (lastB t i n).map fun k => .sc (.int .i64 (k : Int))
/-- The state in Mgu. -/
structure MJ (s : Me) (x : Sc) (cid iu id iN n B : Nat) (p : Nat → Nat) (D N : Nat → Int) (s1 : Me) : Prop where
  kp : Kp s s1
  cl : CL s1.ob B x cid iu id iN n p D N
  lo : s.nx ≤ cid ∧ s.nx ≤ iu ∧ s.nx ≤ id ∧ s.nx ≤ iN ∧ B ≤ s1.nx
theorem MJ.frame {s s1 : Me} {x : Sc} {cid iu id iN n B : Nat} {p : Nat → Nat} {D N : Nat → Int} (h : MJ s x cid iu id iN n B p D N s1) {ob' : Nat → Obj} {m : Nat} (hm : s1.nx ≤ m) (ho : ∀ j, j < s.nx ∨ j = cid ∨ j = iu ∨ j = id ∨ j = iN → ob' j = s1.ob j) : MJ s x cid iu id iN n B p D N ⟨ob', m, s1.ls⟩ :=
  ⟨⟨Nat.le_trans h.kp.1 hm, fun j hj => (ho j (.inl hj)).trans (h.kp.2.1 j hj), h.kp.2.2⟩, h.cl.congr (fun j hj => ho j (.inr hj)) (Nat.le_refl _), by have := h.lo; dsimp only; omega⟩
theorem MJ.setU {s s1 : Me} {x : Sc} {cid iu id iN n B : Nat} {p : Nat → Nat} {D N : Nat → Int} (h : MJ s x cid iu id iN n B p D N s1) {m : Nat} (hm : s1.nx ≤ m) (p' : Nat → Nat) : MJ s x cid iu id iN n B p' D N ⟨upd s1.ob iu (.cs (arrN n p') 0), m, s1.ls⟩ :=
  ⟨⟨Nat.le_trans h.kp.1 hm, fun j hj => (upd_ne _ _ (by have := h.lo; omega)).trans (h.kp.2.1 j hj), h.kp.2.2⟩, h.cl.setU p', by have := h.lo; dsimp only; omega⟩

-- many steps
theorem bod13 : Try.f13.body = some (Try.f13.body.getD .skip) := rfl
set_option maxHeartbeats 4000000 in
theorem fn13 (L : Loops) (F : Nat) (a b : List Cell) (out : List (Nat × List Cell)) (e : Int) (s : Me) (sa sb : Sc) (ha : GSl encC sa a) (hb : GSl encC sb b) (hl : a.length ≤ 100000 ∧ b.length ≤ 100000) (hpos : 0 < a.length ∧ 0 < b.length) (ht : TOK (a ++ b)) (hF : F ≤ 1000000000) (ho : mguR F (a ++ b) a.length = some (out, e)) : FnL Try.prog L 13 [.av (.sc sa), .av (.sc sb)] s fun r s' => (∃ y, r = .tup [.av (.sc y), vI e] ∧ GSl encB y (out.map bndOf) ∧ (e ≠ 0 → y = .nilsl) ∧ (out = [] → y = .nilsl)) ∧ s' = s := by
  refine FnL.pure (R := fun r => ∃ y, r = .tup [.av (.sc y), vI e] ∧ GSl encB y (out.map bndOf) ∧ (e ≠ 0 → y = .nilsl) ∧ (out = [] → y = .nilsl)) ?_
  obtain ⟨t, hte⟩ : ∃ t, t = a ++ b := ⟨_, rfl⟩
  obtain ⟨nn, hnn⟩ : ∃ n, n = t.length := ⟨_, rfl⟩
  have hnl : nn = a.length + b.length := by rw [hnn, hte, List.length_append]
  rw [← hte] at ho ht
  unfold mguR at ho
  obtain ⟨⟨ok, p1, D1, N1⟩, hj⟩ : ∃ r, joinF t F (upN t) (doesM t) (nameM t) [(0, a.length)] = some r := by
    cases h : joinF t F (upN t) (doesM t) (nameM t) [(0, a.length)] with
    | none => rw [h] at ho; cases ho
    | some r => exact ⟨r, rfl⟩
  rw [hj] at ho
  dsimp only at ho
  obtain ⟨hp1, hD1⟩ := joinF_inv ht hnn hj (fun i hi => by rw [hnn]; exact upN_lt (by omega)) (fun i hi => by rw [hnn]; exact doesM_lt (by omega)) (fun ab h => by simp only [List.mem_singleton] at h; subst h; dsimp only; omega)
  refine fn_of_body (ts := [4, 5]) Try.func13 bod13 rfl (by simp) (by simp [Try.ntmps13]) fun D0 => ?_
  unfold Try.f13
  simp only [Option.getD_some, initSl]
  refine aw_region_seq C (pb := false) rfl fun K hK => ?_
  repeat' (first | refine wy0 (h := ?_) | fail)
  refine awOps_nil (hK _ _ ?_)
  clear hK K
  refine aw_region_seq C (pb := false) rfl fun K hK => ?_
  repeat' (first | refine wy0 (h := ?_) | fail)
  refine wc (And.intro Try.call35 (FnL.pur (PurArgs.pur (pur_two (a := sa) (b := sb) (upd_same _ _ _)) PurArgs.nil) (fn35 L [sa, sb] (fun z => @ite _ (z = sa) (Classical.propDecidable _) a b) _ (.sl 2 [sa, sb]) (.inr rfl) (fun z hz => ?_) (by simp)))) ?_
  · by_cases h : z = sa
    · rw [if_pos h, h]; exact ⟨ha, by omega⟩
    · rw [if_neg h]; simp only [List.mem_cons, List.not_mem_nil, or_false] at hz; rcases hz with hz | hz; exact absurd hz h; rw [hz]; exact ⟨hb, by omega⟩
  rintro _ _ ⟨⟨x, rfl, hx0⟩, rfl⟩
  have hx : GSl encC x t := by
    have e1 : ([sa, sb].flatMap fun z => @ite _ (z = sa) (Classical.propDecidable _) a b) = t := by
      simp only [List.flatMap_cons, List.flatMap_nil, List.append_nil, if_pos]
      by_cases h : sb = sa
      · rw [if_pos h, hte, gsl_inj hb (h ▸ ha)]
      · rw [if_neg h, hte]
    rw [e1] at hx0; exact hx0
  refine wc (And.intro Try.call34 (fn34 L t _ x hx (by omega))) ?_
  rintro _ s2 ⟨cid, mid, iu, id, iN, ml0, rfl, hMI⟩
  repeat' (first | refine wy0 (h := ?_) | fail)
  refine awOps_nil (hK _ _ ?_)
  refine AW.less (sl' := [(0, .av (.sc sa)), (1, .av (.sc sb)), (6, .av (.ptr cid 0))]) (AllIn.less ⟨rfl, rfl, rfl, trivial⟩) ?_
  have hMI' := hMI
  rw [← hnn] at hMI'
  have hne : nn ≠ 0 := by omega
  refine aw_state (J := fun s3 => MJ s x cid iu id iN nn s2.nx (upN t) (doesM t) (nameM t) s3) ⟨⟨by have := hMI.kp.1; dsimp only at this ⊢; omega, fun j hj => (hMI.kp.2.1 j ((by first | omega | (dsimp only; omega) | (dsimp only at *; omega)))).trans (by dsimp only; rw [upd_ne _ _ (by omega), upd_ne _ _ (by omega)]), hMI.kp.2.2⟩, ⟨by have := hMI'.c; rwa [slOf_pos hne, slOf_pos hne, slOf_pos hne] at this, (hMI'.u hne).trans (by rw [arrN]; congr 1; exact arr_congr fun i _ => upM_nat), hMI'.d hne, hMI'.n hne, by have := hMI'.dist; omega, by have := hMI'.hi; omega⟩, by have := hMI'.lo; dsimp only at this ⊢; omega⟩ fun s3 hJ3 => ?_
  have lo3 := hJ3.lo
  clear hK K
  refine aw_seq ?_
  refine aw_region_seq C (pb := false) rfl fun K hK => ?_
  repeat' (first | refine wy1 (a := by simp only [go_sem, ↓reduceIte, Nat.reduceEqDiff, reduceCtorEq, Nat.reduceAdd, Nat.reduceMul, Nat.reduceLeDiff, aLoad, aStore, lenC ha]; exact rfl) (h := ?_) | fail)
  refine wc (And.intro Try.call36 (fn36 L F nn 0 a.length t (upN t) (doesM t) (nameM t) cid iu id iN (ok, p1, D1, N1) _ x hx (by omega) hnn ht hF (hJ3.cl.congr (fun _ _ => rfl) ((by first | omega | (dsimp only; omega) | (dsimp only at *; omega)))) ⟨by omega, by omega⟩ (fun i hi => by rw [hnn]; exact upN_lt (by omega)) (fun i hi => by rw [hnn]; exact doesM_lt (by omega)) hj)) ?_
  rintro _ _ ⟨ob5, ⟨rfl, hcl5, hold5⟩, rfl⟩
  repeat' (first | refine wy1 (a := by simp only [go_sem, ↓reduceIte, Nat.reduceEqDiff, reduceCtorEq, Nat.reduceAdd, Nat.reduceMul, Nat.reduceLeDiff, aLoad, aStore, lenC ha]; exact rfl) (h := ?_) | fail)
  refine awOps_nil (hK _ _ ?_)
  refine AW.less (sl' := [(6, .av (.ptr cid 0)), (26, vB (!ok))]) (AllIn.less ⟨rfl, rfl, trivial⟩) ?_
  refine aw_state (J := fun s4 => MJ s x cid iu id iN nn (s3.nx + 4) p1 D1 N1 s4) ⟨⟨by have := hJ3.kp.1; dsimp only; omega, fun j hj => (hold5 j (by have := hJ3.kp.1; dsimp only; omega) (by omega) (by omega) (by omega)).trans (hJ3.kp.2.1 j hj), hJ3.kp.2.2⟩, hcl5, (by first | omega | (dsimp only; omega) | (dsimp only at *; omega))⟩ fun s4 hJ4 => ?_
  have lo4 := hJ4.lo
  have hiB := hJ4.cl.hi
  clear hK K
  refine aw_cond (by rfl) ?_ ?_
  · intro hc0
    have hok : ok = false := by cases ok; rfl; cases hc0
    rw [if_pos hok] at ho
    refine aw_region_seq C (pb := false) rfl fun K hK => ?_
    repeat' (first | refine wy0 (h := ?_) | fail)
    refine awOps_nil (hK _ _ ?_)
    clear hK K
    refine aw_ret ?_
    try simp only [thenA_normal, thenA_ret, thenA_exit, blockA_normal, blockA_ret, blockA_exit]
    simp only [go_sem, ↓reduceIte, Nat.reduceEqDiff, reduceCtorEq, Nat.reduceAdd, Nat.reduceMul, Nat.reduceLeDiff, aLoad, aStore, FnQ, resA]
    -- 0t.ret
    simp only [Option.some.injEq, Prod.mk.injEq] at ho
    obtain ⟨rfl, rfl⟩ := ho
    exact fun _ => ⟨rfl, hJ4.kp.2.1, hJ4.kp.2.2, .nilsl, rfl, .inl ⟨rfl, rfl⟩, fun _ => rfl, fun _ => rfl⟩
  · intro hc0
    have hok : ¬ ok = false := by cases ok; cases hc0; exact fun h => by cases h
    rw [if_neg hok] at ho
    obtain ⟨st, hst⟩ : ∃ r, ofAll t D1 F (List.range t.length) (st0 p1) = some r := by
      cases h : ofAll t D1 F (List.range t.length) (st0 p1) with
      | none => rw [h] at ho; cases ho
      | some r => exact ⟨r, rfl⟩
    rw [hst] at ho
    dsimp only at ho
    rw [← hnn] at hst
    obtain ⟨hps, hss⟩ := ofAll_inv ht hnn hD1 hst (fun q hq => List.mem_range.1 hq) hp1 (fun _ => Nat.zero_le _)
    obtain ⟨SZ0, hSZ⟩ : ∃ z : Sc, z = .sl nn ((List.range nn).map fun i => .int .i64 (st.sz i : Int)) := ⟨_, rfl⟩
    have hgz : GSl encI SZ0 ((List.range nn).map fun i => (st.sz i : Int)) := by rw [hSZ]; exact arr_gsl
    refine aw_skip ?_
    simp only [thenA_normal, thenA_ret, thenA_exit, blockA_normal, blockA_ret, blockA_exit, ↓reduceIte, Nat.reduceEqDiff]
    refine aw_region_seq C (pb := false) rfl fun K hK => ?_
    repeat' (first | refine wy0 (h := ?_) | fail)
    refine wc (And.intro Try.call37 (fn37 L F nn t p1 D1 N1 cid iu id iN st _ x hx (by omega) hnn ht (hJ4.cl.congr (fun _ _ => rfl) ((by first | omega | (dsimp only; omega) | (dsimp only at *; omega)))) hp1 hD1 hst)) ?_
    rintro _ _ ⟨_, ⟨rfl, rfl⟩, rfl⟩
    rw [← hSZ]
    repeat' (first | refine wy0 (h := ?_) | fail)
    refine awOps_nil (hK _ _ ?_)
    refine AW.less (sl' := [(6, .av (.ptr cid 0)), (7, .av (.sc SZ0)), (8, vB st.fine)]) (AllIn.less ⟨rfl, rfl, rfl, trivial⟩) ?_
    refine aw_state (J := fun s5 => MJ s x cid iu id iN nn (s3.nx + 4) st.p D1 N1 s5) (hJ4.setU (by first | omega | (dsimp only; omega) | (dsimp only at *; omega)) st.p) fun s5 hJ5 => ?_
    have lo5 := hJ5.lo
    clear hK K
    refine aw_seq ?_
    refine aw_region_seq C (pb := false) rfl fun K hK => ?_
    repeat' (first | refine wy0 (h := ?_) | fail)
    refine awOps_nil (hK _ _ ?_)
    clear hK K
    refine aw_cond (by rfl) ?_ ?_
    · intro hc1
      have hfi : st.fine = false := by cases h : st.fine; rfl; rw [h] at hc1; cases hc1
      rw [if_pos hfi] at ho
      refine aw_region_seq C (pb := false) rfl fun K hK => ?_
      repeat' (first | refine wy0 (h := ?_) | fail)
      refine awOps_nil (hK _ _ ?_)
      clear hK K
      refine aw_ret ?_
      try simp only [thenA_normal, thenA_ret, thenA_exit, blockA_normal, blockA_ret, blockA_exit]
      simp only [go_sem, ↓reduceIte, Nat.reduceEqDiff, reduceCtorEq, Nat.reduceAdd, Nat.reduceMul, Nat.reduceLeDiff, aLoad, aStore, FnQ, resA]
      -- 0f1t.ret
      simp only [Option.some.injEq, Prod.mk.injEq] at ho
      obtain ⟨rfl, rfl⟩ := ho
      exact fun _ => ⟨rfl, hJ5.kp.2.1, hJ5.kp.2.2, .nilsl, rfl, .inl ⟨rfl, rfl⟩, fun _ => rfl, fun _ => rfl⟩
    · intro hc1
      have hfi : ¬ st.fine = false := by intro h; rw [h] at hc1; cases hc1
      rw [if_neg hfi] at ho
      refine aw_skip ?_
      simp only [thenA_normal, thenA_ret, thenA_exit, blockA_normal, blockA_ret, blockA_exit, ↓reduceIte, Nat.reduceEqDiff]
      refine aw_region_seq C (pb := false) rfl fun K hK => ?_
      repeat' (first | refine wy0 (h := ?_) | fail)
      refine awOps_nil (hK _ _ ?_)
      clear hK K
      refine aw_seq ?_
      refine aw_region_seq C (pb := false) rfl fun K hK => ?_
      repeat' (first | refine wy1 (a := by simp only [go_sem, ↓reduceIte, Nat.reduceEqDiff, reduceCtorEq, Nat.reduceAdd, Nat.reduceMul, Nat.reduceLeDiff, aLoad, aStore, show upd s5.ob (s5.nx + 2) (.mp []) cid = _ from (upd_ne _ _ (by have := hJ5.cl.hi; omega)).trans hJ5.cl.c, lenC hx, ← hnn]; exact rfl) (h := ?_) | fail)
      refine awOps_nil (hK _ _ ?_)
      refine AW.less (sl' := [(6, .av (.ptr cid 0)), (7, .av (.sc SZ0)), (9, .av (.map (s5.nx + 2))), (38, .av (.sc x)), (39, vI nn), (40, vI 0)]) (AllIn.less ⟨rfl, rfl, rfl, rfl, rfl, rfl, trivial⟩) ?_
      clear hK K
      refine aw_block ?_
      refine AW.less (sl' := [(6, .av (.ptr cid 0)), (7, .av (.sc SZ0)), (9, .av (.map (s5.nx + 2))), (38, .av (.sc x)), (39, vI nn), (40, vI (0))]) (AllIn.less ⟨rfl, rfl, rfl, rfl, rfl, rfl, trivial⟩) (aw_loop (fun k sl1 s1 => ∃ (i : Nat) (ml : List (Int × Av)), k = nn - i ∧ sl1 = [(6, .av (.ptr cid 0)), (7, .av (.sc SZ0)), (9, .av (.map (s5.nx + 2))), (38, .av (.sc x)), (39, vI nn), (40, vI (i))] ∧ (MJ s x cid iu id iN nn (s3.nx + 4) st.p D1 N1 s1 ∧ s1.ob (s5.nx + 2) = .mp (mapA ml) ∧ s5.nx + 2 < s1.nx) ∧ (i ≤ nn) ∧ (LastM t i ml)) (k := nn - (0)) ⟨0, [], rfl, rfl, ⟨hJ5.frame (by first | omega | (dsimp only; omega) | (dsimp only at *; omega)) (fun j hj => upd_ne _ _ (by have := hJ5.kp.1; omega)), upd_same _ _ _, (by first | omega | (dsimp only; omega) | (dsimp only at *; omega))⟩, Nat.zero_le _, fun n => rfl⟩ ?_)
      rintro k1 _ s1 ⟨i, ml, hk1, rfl, hs1, hb2, hf⟩
      refine aw_region_seq C (pb := false) rfl fun K hK => ?_
      repeat' (first | refine wy0 (h := ?_) | fail)
      refine awOps_nil (hK _ _ ?_)
      clear hK K
      refine aw_seq ?_
      refine aw_cond (by rfl) ?_ ?_
      · intro hc2
        try simp only [decide_eq_true_eq, decide_eq_false_iff_not] at hc2
        have hi2 : i < t.length := by omega
        have hm1 := hs1.2.2
        refine aw_skip ?_
        simp only [thenA_normal, thenA_ret, thenA_exit, blockA_normal, blockA_ret, blockA_exit, ↓reduceIte, Nat.reduceEqDiff]
        refine aw_seq ?_
        refine aw_block ?_
        refine aw_region_seq C (pb := false) rfl fun K hK => ?_
        repeat' (first | refine wy1 (a := by simp (disch := omega) only [go_sem, ↓reduceIte, Nat.reduceEqDiff, reduceCtorEq, Nat.reduceAdd, Nat.reduceMul, Nat.reduceLeDiff, aLoad, aStore, idxC hx hi2]; exact rfl) (h := ?_) | refine wz1 (a := by simp (disch := omega) only [go_sem, ↓reduceIte, Nat.reduceEqDiff, reduceCtorEq, Nat.reduceAdd, Nat.reduceMul, Nat.reduceLeDiff, aLoad, aStore, idxC hx hi2]; exact rfl) (h := ?_) | fail)
        refine awOps_nil (hK _ _ ?_)
        refine AW.less (sl' := [(6, .av (.ptr cid 0)), (7, .av (.sc SZ0)), (9, .av (.map (s5.nx + 2))), (38, .av (.sc x)), (39, vI nn), (40, vI i), (10, vI i), (11, .av (.ptr (s1.nx + 4) 0))]) (AllIn.less ⟨rfl, rfl, rfl, rfl, rfl, rfl, rfl, rfl, trivial⟩) ?_
        refine aw_state (J := fun s6 => MJ s x cid iu id iN nn (s3.nx + 4) st.p D1 N1 s6 ∧ s6.ob (s5.nx + 2) = .mp (mapA ml) ∧ s6.ob (s1.nx + 4) = .cs [.sc (.int .i64 t[i].kind), .sc (.str t[i].name), .sc (.int .i64 t[i].n)] 0 ∧ s1.nx + 4 < s6.nx) ⟨hs1.1.frame (by first | omega | (dsimp only; omega) | (dsimp only at *; omega)) (fun j hj => (upd_ne _ _ (by omega)).trans (upd_ne _ _ (by omega))), (upd_ne _ _ (by omega)).trans ((upd_ne _ _ (by omega)).trans hs1.2.1), upd_same _ _ _, (by first | omega | (dsimp only; omega) | (dsimp only at *; omega))⟩ fun s6 hJ6 => ?_
        obtain ⟨hJ6, hm6, hx6, hn6⟩ := hJ6
        clear hK K
        refine aw_region_seq C (pb := false) rfl fun K hK => ?_
        repeat' (first | refine wy1 (a := by simp only [go_sem, ↓reduceIte, Nat.reduceEqDiff, reduceCtorEq, Nat.reduceAdd, Nat.reduceMul, Nat.reduceLeDiff, aLoad, aStore, hx6]; exact rfl) (h := ?_) | fail)
        refine awOps_nil (hK _ _ ?_)
        clear hK K
        refine aw_cond (by rfl) ?_ ?_
        · intro hc3
          try simp only [beq_iff_eq, beq_eq_false_iff_ne, ne_eq] at hc3
          refine aw_region C (pb := false) rfl ?_
          repeat' (first | refine wy1 (a := by simp (disch := omega) only [go_sem, ↓reduceIte, Nat.reduceEqDiff, reduceCtorEq, Nat.reduceAdd, Nat.reduceMul, Nat.reduceLeDiff, aLoad, aStore, hx6, mapUpdA T61 rfl T3 rfl hm6]; exact rfl) (h := ?_) | refine wz1 (a := by simp (disch := omega) only [go_sem, ↓reduceIte, Nat.reduceEqDiff, reduceCtorEq, Nat.reduceAdd, Nat.reduceMul, Nat.reduceLeDiff, aLoad, aStore, hx6, mapUpdA T61 rfl T3 rfl hm6]; exact rfl) (h := ?_) | fail)
          refine awOps_nil ?_
          refine aw_state (J := fun s7 => MJ s x cid iu id iN nn (s3.nx + 4) st.p D1 N1 s7 ∧ s7.ob (s5.nx + 2) = .mp (mapA (setA ml t[i].n (.sc (.int .i64 (i : Int))))) ∧ s5.nx + 2 < s7.nx) ⟨hJ6.frame (by first | omega | (dsimp only; omega) | (dsimp only at *; omega)) (fun j hj => upd_ne _ _ (by omega)), upd_same _ _ _, (by first | omega | (dsimp only; omega) | (dsimp only at *; omega))⟩ fun s7 hJ7 => ?_
          try simp only [thenA_normal, thenA_ret, thenA_exit, blockA_normal, blockA_ret, blockA_exit]
          refine aw_region C (pb := false) rfl ?_
          repeat' (first | refine wy1 (a := by simp only [go_sem, ↓reduceIte, Nat.reduceEqDiff, reduceCtorEq, Nat.reduceAdd, Nat.reduceMul, Nat.reduceLeDiff, aLoad, aStore, wrap_small ((i : Int) + 1) (by omega) (by omega)]; exact rfl) (h := ?_) | fail)
          refine awOps_nil ?_
          try simp only [thenA_normal, thenA_ret, thenA_exit, blockA_normal, blockA_ret, blockA_exit]
          -- end of round 0 at 0f1f2t3t
          refine ⟨nn - (i + 1), [(6, .av (.ptr cid 0)), (7, .av (.sc SZ0)), (9, .av (.map (s5.nx + 2))), (38, .av (.sc x)), (39, vI nn), (40, vI (i + 1))], by omega, AllIn.less ⟨rfl, rfl, rfl, rfl, rfl, rfl, trivial⟩, i + 1, setA ml t[i].n (.sc (.int .i64 (i : Int))), rfl, rfl, ?_, ?_, ?_⟩
          · exact ⟨hJ7.1.frame (by first | omega | (dsimp only; omega) | (dsimp only at *; omega)) (fun _ _ => rfl), hJ7.2.1, by have := hJ7.2.2; exact (by first | omega | (dsimp only; omega) | (dsimp only at *; omega))⟩
          · omega
          · intro n
            rw [lk_setA, hf n, lastB, List.getElem?_eq_getElem hi2]
            dsimp only
            by_cases h : n = t[i].n
            · rw [if_pos h, if_pos ⟨hc3, h.symm⟩]; rfl
            · rw [if_neg h, if_neg (fun h' => h h'.2.symm)]
        · intro hc3
          try simp only [beq_iff_eq, beq_eq_false_iff_ne, ne_eq] at hc3
          refine aw_skip ?_
          simp only [thenA_normal, thenA_ret, thenA_exit, blockA_normal, blockA_ret, blockA_exit, ↓reduceIte, Nat.reduceEqDiff]
          refine aw_region C (pb := false) rfl ?_
          repeat' (first | refine wy1 (a := by simp only [go_sem, ↓reduceIte, Nat.reduceEqDiff, reduceCtorEq, Nat.reduceAdd, Nat.reduceMul, Nat.reduceLeDiff, aLoad, aStore, wrap_small ((i : Int) + 1) (by omega) (by omega)]; exact rfl) (h := ?_) | fail)
          refine awOps_nil ?_
          try simp only [thenA_normal, thenA_ret, thenA_exit, blockA_normal, blockA_ret, blockA_exit]
          -- end of round 0 at 0f1f2t3f
          refine ⟨nn - (i + 1), [(6, .av (.ptr cid 0)), (7, .av (.sc SZ0)), (9, .av (.map (s5.nx + 2))), (38, .av (.sc x)), (39, vI nn), (40, vI (i + 1))], by omega, AllIn.less ⟨rfl, rfl, rfl, rfl, rfl, rfl, trivial⟩, i + 1, ml, rfl, rfl, ?_, ?_, ?_⟩
          · exact ⟨hJ6.frame (by first | omega | (dsimp only; omega) | (dsimp only at *; omega)) (fun _ _ => rfl), hm6, (by first | omega | (dsimp only; omega) | (dsimp only at *; omega))⟩
          · omega
          · intro n
            rw [hf n, lastB, List.getElem?_eq_getElem hi2]
            dsimp only
            rw [if_neg (fun h' => hc3 h'.1)]
      · intro hc2
        try simp only [decide_eq_true_eq, decide_eq_false_iff_not] at hc2
        have hin : i = nn := by omega
        rw [hin] at hf
        have hm1 := hs1.2.2
        refine aw_exit ?_
        simp only [thenA_normal, thenA_ret, thenA_exit, blockA_normal, blockA_ret, blockA_exit, ↓reduceIte, Nat.reduceEqDiff]
        refine aw_region_seq C (pb := false) rfl fun K hK => ?_
        repeat' (first | refine wy0 (h := ?_) | fail)
        refine awOps_nil (hK _ _ ?_)
        clear hK K
        refine aw_seq ?_
        refine aw_region_seq C (pb := false) rfl fun K hK => ?_
        repeat' (first | refine wy0 (h := ?_) | fail)
        refine awOps_nil (hK _ _ ?_)
        clear hK K
        refine aw_block ?_
        obtain ⟨B2, hB2e⟩ : ∃ k, k = s1.nx := ⟨_, rfl⟩
        have hB2l : s5.nx + 2 < B2 := by omega
        refine AW.less (sl' := [(6, .av (.ptr cid 0)), (7, .av (.sc SZ0)), (9, .av (.map (s5.nx + 2))), (12, (_)), (53, vI (0))]) (AllIn.less ⟨rfl, rfl, rfl, rfl, rfl, trivial⟩) (aw_loop (fun k sl1 s1 => ∃ (kc : Nat) (p : Nat → Nat) (xo : Va) (outl : List (Nat × List Cell)), k = 1000 - kc ∧ sl1 = [(6, .av (.ptr cid 0)), (7, .av (.sc SZ0)), (9, .av (.map (s5.nx + 2))), (12, (xo)), (53, vI (kc))] ∧ (MJ s x cid iu id iN nn (s3.nx + 4) p D1 N1 s1 ∧ s1.ob (s5.nx + 2) = .mp (mapA ml) ∧ Acc B2 s1.nx s1.ob xo outl.length 2 ((outl.flatMap fun b => encB (bndOf b)).map .sc) ∧ B2 ≤ s1.nx) ∧ (kc ≤ 1000 ∧ (∀ i, i < nn → p i < nn) ∧ outl.length ≤ kc) ∧ (bindL t D1 N1 st.sz F ((List.range 1000).drop kc) p outl = some (out, e)) ∧ (outl = [] → xo = .av (.sc .nilsl))) (k := 1000 - (0)) ⟨0, st.p, _, [], rfl, rfl, ⟨hs1.1.frame (by first | omega | (dsimp only; omega) | (dsimp only at *; omega)) (fun _ _ => rfl), hs1.2.1, .inl ⟨rfl, rfl, rfl⟩, (by first | omega | (dsimp only; omega) | (dsimp only at *; omega))⟩, ⟨Nat.zero_le _, hps, Nat.zero_le _⟩, by rw [List.drop_zero]; exact ho, fun _ => rfl⟩ ?_)
        rintro k2 _ s2 ⟨kc, p, xo, outl, hk2, rfl, hs2, hb3, h3, hxn⟩
        refine aw_region_seq C (pb := false) rfl fun K hK => ?_
        repeat' (first | refine wy0 (h := ?_) | fail)
        refine awOps_nil (hK _ _ ?_)
        clear hK K
        refine aw_seq ?_
        refine aw_cond (by rfl) ?_ ?_
        · intro hc4
          try simp only [decide_eq_true_eq, decide_eq_false_iff_not] at hc4
          have hk4 : kc < 1000 := by omega
          rw [List.drop_eq_getElem_cons (by rw [List.length_range]; exact hk4), List.getElem_range, bindL, ← hnn] at h3
          have hB2 := hs2.2.2.2
          refine aw_skip ?_
          simp only [thenA_normal, thenA_ret, thenA_exit, blockA_normal, blockA_ret, blockA_exit, ↓reduceIte, Nat.reduceEqDiff]
          refine aw_seq ?_
          refine aw_block ?_
          refine aw_region_seq C (pb := false) rfl fun K hK => ?_
          repeat' (first | refine wy0 (h := ?_) | fail)
          refine awOps_nil (hK _ _ ?_)
          clear hK K
          refine aw_region_seq C (pb := false) rfl fun K hK => ?_
          repeat' (first | refine wy1 (a := by simp only [go_sem, ↓reduceIte, Nat.reduceEqDiff, reduceCtorEq, Nat.reduceAdd, Nat.reduceMul, Nat.reduceLeDiff, aLoad, aStore, lookA T61 rfl T3 rfl T3 rfl rfl hs2.2.1]; exact rfl) (h := ?_) | fail)
          refine awOps_nil (hK _ _ ?_)
          clear hK K
          refine aw_seq ?_
          refine aw_region_seq C (pb := false) rfl fun K hK => ?_
          repeat' (first | refine wy0 (h := ?_) | fail)
          refine awOps_nil (hK _ _ ?_)
          clear hK K
          refine aw_cond (by rfl) ?_ ?_
          · intro hc5
            have hnone : lastB t nn kc = none := by
              have := hf kc
              cases h : lastB t nn kc with
              | none => rfl
              | some k => rw [h] at this; rw [this] at hc5; cases hc5
            rw [hnone] at h3
            dsimp only at h3
            refine aw_exit ?_
            simp only [thenA_normal, thenA_ret, thenA_exit, blockA_normal, blockA_ret, blockA_exit, ↓reduceIte, Nat.reduceEqDiff]
            refine aw_region C (pb := false) rfl ?_
            repeat' (first | refine wy1 (a := by simp only [go_sem, ↓reduceIte, Nat.reduceEqDiff, reduceCtorEq, Nat.reduceAdd, Nat.reduceMul, Nat.reduceLeDiff, aLoad, aStore, wrap_small ((kc : Int) + 1) (by omega) (by omega)]; exact rfl) (h := ?_) | fail)
            refine awOps_nil ?_
            try simp only [thenA_normal, thenA_ret, thenA_exit, blockA_normal, blockA_ret, blockA_exit]
            -- end of round 1 at 0f1f2f.x04t5t.x3
            refine ⟨1000 - (kc + 1), [(6, .av (.ptr cid 0)), (7, .av (.sc SZ0)), (9, .av (.map (s5.nx + 2))), (12, (xo)), (53, vI (kc + 1))], by omega, AllIn.less ⟨rfl, rfl, rfl, rfl, rfl, trivial⟩, kc + 1, p, xo, outl, rfl, rfl, ?_, ?_, ?_, ?_⟩
            · exact ⟨hs2.1.frame (by first | omega | (dsimp only; omega) | (dsimp only at *; omega)) (fun _ _ => rfl), hs2.2.1, hs2.2.2.1.up (by first | omega | (dsimp only; omega) | (dsimp only at *; omega)) fun _ _ _ => rfl, (by first | omega | (dsimp only; omega) | (dsimp only at *; omega))⟩
            · exact ⟨by omega, hb3.2.1, by omega⟩
            · exact h3
            · exact hxn
          · intro hc5
            obtain ⟨ar, har⟩ : ∃ k, lastB t nn kc = some k := by
              have := hf kc
              cases h : lastB t nn kc with
              | none => rw [h] at this; rw [this] at hc5; cases hc5
              | some k => exact ⟨k, rfl⟩
            have hlk : lkA ml (kc : Int) = some (.sc (.int .i64 (ar : Int))) := by rw [hf kc, har]; rfl
            have har1 : ar < nn := (lastB_lt har).1
            rw [har] at h3
            dsimp only at h3
            obtain ⟨⟨orr, p2⟩, ho2⟩ : ∃ r, own1 F p ar = some r := by
              cases h : own1 F p ar with
              | none => rw [h] at h3; cases h3
              | some r => exact ⟨r, rfl⟩
            rw [ho2] at h3
            dsimp only at h3
            obtain ⟨ho1, hp2⟩ := own1_lt ho2 har1 hb3.2.1
            refine aw_skip ?_
            simp only [thenA_normal, thenA_ret, thenA_exit, blockA_normal, blockA_ret, blockA_exit, ↓reduceIte, Nat.reduceEqDiff]
            refine aw_region_seq C (pb := false) rfl fun K hK => ?_
            repeat' (first | refine wy1 (a := by simp only [go_sem, ↓reduceIte, Nat.reduceEqDiff, reduceCtorEq, Nat.reduceAdd, Nat.reduceMul, Nat.reduceLeDiff, aLoad, aStore, hlk, Option.getD_some]; exact rfl) (h := ?_) | fail)
            refine wc (And.intro Try.call38 (fn38 L F nn ar orr p p2 cid iu (.sc x) (.own id 0 nn 1) (.own iN 0 nn 1) _ (by have := hs2.1.cl.hi; have := hs2.1.lo; dsimp only; omega) (by have := hs2.1.cl.hi; have := hs2.1.lo; dsimp only; omega) hs2.1.cl.dist.1 hs2.1.cl.c hs2.1.cl.u har1 hb3.2.1 ho2)) ?_
            rintro _ _ ⟨rfl, rfl⟩
            repeat' (first | refine wy1 (a := by simp only [go_sem, ↓reduceIte, Nat.reduceEqDiff, reduceCtorEq, Nat.reduceAdd, Nat.reduceMul, Nat.reduceLeDiff, aLoad, aStore, hlk, Option.getD_some]; exact rfl) (h := ?_) | fail)
            refine awOps_nil (hK _ _ ?_)
            refine AW.less (sl' := [(6, .av (.ptr cid 0)), (7, .av (.sc SZ0)), (9, .av (.map (s5.nx + 2))), (12, xo), (53, vI kc), (13, vI kc), (16, vI orr)]) (AllIn.less ⟨rfl, rfl, rfl, rfl, rfl, rfl, rfl, trivial⟩) ?_
            refine aw_state (J := fun s8 => MJ s x cid iu id iN nn (s3.nx + 4) p2 D1 N1 s8 ∧ s8.ob (s5.nx + 2) = .mp (mapA ml) ∧ Acc B2 s8.nx s8.ob xo outl.length 2 ((outl.flatMap fun b => encB (bndOf b)).map .sc) ∧ B2 ≤ s8.nx) ⟨hs2.1.setU (by first | omega | (dsimp only; omega) | (dsimp only at *; omega)) p2, (upd_ne _ _ (by omega)).trans hs2.2.1, hs2.2.2.1.up (by first | omega | (dsimp only; omega) | (dsimp only at *; omega)) (fun j h1 h2 => upd_ne _ _ (by omega)), (by first | omega | (dsimp only; omega) | (dsimp only at *; omega))⟩ fun s8 hJ8 => ?_
            obtain ⟨hJ8, hm8, hac8, hn8⟩ := hJ8
            have lo8 := hJ8.lo
            clear hK K
            refine aw_seq ?_
            refine aw_block ?_
            refine aw_cut_seq C (pb := false) [(6, .av (.ptr cid 0)), (7, .av (.sc SZ0)), (9, .av (.map (s5.nx + 2))), (12, xo), (53, vI kc), (13, vI kc), (16, vI orr), (67, vB ((decide (D1 orr < 0)) && (N1 orr == (kc : Int))))] rfl ?_ fun n21 hn21 => ?_
            · cases hA0 : (decide (D1 orr < 0) : Bool) <;> cases hA1 : (N1 orr == (kc : Int) : Bool)
              all_goals (repeat' (first | refine wy1 (a := by simp only [go_sem, ↓reduceIte, Nat.reduceEqDiff, reduceCtorEq, Nat.reduceAdd, Nat.reduceMul, Nat.reduceLeDiff, ldA hJ8.cl.c, ixO ho1, ldO hJ8.cl.d ho1, ldO hJ8.cl.n ho1, hA0, hA1]; exact rfl) (h := ?_) | refine wn (h := ?_) | fail))
              all_goals (exact awOps_nil ⟨⟨rfl, rfl, rfl, rfl, rfl, rfl, rfl, rfl, trivial⟩, rfl, (by first | omega | (dsimp only; omega)), rfl⟩)
            refine aw_cond (by rfl) ?_ ?_
            · intro hc6
              try simp only [Bool.and_eq_true, decide_eq_true_eq, beq_iff_eq, Bool.and_eq_false_imp, beq_eq_false_iff_ne, ne_eq] at hc6
              have hc6' : D1 orr < 0 ∧ N1 orr = kc := ⟨hc6.1, hc6.2⟩
              rw [if_pos hc6'] at h3
              refine aw_exit ?_
              simp only [thenA_normal, thenA_ret, thenA_exit, blockA_normal, blockA_ret, blockA_exit, ↓reduceIte, Nat.reduceEqDiff]
              refine aw_region C (pb := false) rfl ?_
              repeat' (first | refine wy1 (a := by simp only [go_sem, ↓reduceIte, Nat.reduceEqDiff, reduceCtorEq, Nat.reduceAdd, Nat.reduceMul, Nat.reduceLeDiff, aLoad, aStore, wrap_small ((kc : Int) + 1) (by omega) (by omega)]; exact rfl) (h := ?_) | fail)
              refine awOps_nil ?_
              try simp only [thenA_normal, thenA_ret, thenA_exit, blockA_normal, blockA_ret, blockA_exit]
              -- end of round 1 at 0f1f2f.x04t5f6t.x3
              refine ⟨1000 - (kc + 1), [(6, .av (.ptr cid 0)), (7, .av (.sc SZ0)), (9, .av (.map (s5.nx + 2))), (12, (xo)), (53, vI (kc + 1))], by omega, AllIn.less ⟨rfl, rfl, rfl, rfl, rfl, trivial⟩, kc + 1, p2, xo, outl, rfl, rfl, ?_, ?_, ?_, ?_⟩
              · exact ⟨hJ8.frame (by first | omega | (dsimp only; omega) | (dsimp only at *; omega)) (fun _ _ => rfl), hm8, hac8.up (by first | omega | (dsimp only; omega) | (dsimp only at *; omega)) fun _ _ _ => rfl, (by first | omega | (dsimp only; omega) | (dsimp only at *; omega))⟩
              · exact ⟨by omega, hp2, by omega⟩
              · exact h3
              · exact hxn
            · intro hc6
              try simp only [Bool.and_eq_true, decide_eq_true_eq, beq_iff_eq, Bool.and_eq_false_imp, beq_eq_false_iff_ne, ne_eq] at hc6
              have hc6' : ¬ (D1 orr < 0 ∧ N1 orr = kc) := fun h => hc6 h.1 h.2
              rw [if_neg hc6'] at h3
              have hszo : ((List.range nn).map fun i => (st.sz i : Int))[orr]'(by rw [List.length_map, List.length_range]; exact ho1) = (st.sz orr : Int) := by simp
              refine aw_region_seq C (pb := false) rfl fun K hK => ?_
              repeat' (first | refine wy1 (a := by simp only [go_sem, ↓reduceIte, Nat.reduceEqDiff, reduceCtorEq, Nat.reduceAdd, Nat.reduceMul, Nat.reduceLeDiff, aLoad, aStore, idxI hgz (i := orr) (by rw [List.length_map, List.length_range]; exact ho1), hszo]; exact rfl) (h := ?_) | fail)
              refine awOps_nil (hK _ _ ?_)
              clear hK K
              refine aw_cond (by rfl) ?_ ?_
              · intro hc7
                try simp only [decide_eq_true_eq, decide_eq_false_iff_not] at hc7
                have hc7' : 200 < st.sz orr := by omega
                rw [if_pos hc7'] at h3
                refine aw_region_seq C (pb := false) rfl fun K hK => ?_
                repeat' (first | refine wy0 (h := ?_) | fail)
                refine awOps_nil (hK _ _ ?_)
                clear hK K
                refine aw_ret ?_
                try simp only [thenA_normal, thenA_ret, thenA_exit, blockA_normal, blockA_ret, blockA_exit]
                simp only [go_sem, ↓reduceIte, Nat.reduceEqDiff, reduceCtorEq, Nat.reduceAdd, Nat.reduceMul, Nat.reduceLeDiff, aLoad, aStore, FnQ, resA]
                -- 0f1f2f.x04t5f6f7t.ret
                simp only [Option.some.injEq, Prod.mk.injEq] at h3
                obtain ⟨rfl, rfl⟩ := h3
                exact fun _ => ⟨rfl, hJ8.kp.2.1, hJ8.kp.2.2, .nilsl, rfl, .inl ⟨rfl, rfl⟩, fun _ => rfl, fun _ => rfl⟩
              · intro hc7
                try simp only [decide_eq_true_eq, decide_eq_false_iff_not] at hc7
                have hc7' : ¬ 200 < st.sz orr := by omega
                rw [if_neg hc7'] at h3
                obtain ⟨⟨cc, p3⟩, ho3⟩ : ∃ r, termF t D1 N1 F p2 orr = some r := by
                  cases h : termF t D1 N1 F p2 orr with
                  | none => rw [h] at h3; cases h3
                  | some r => exact ⟨r, rfl⟩
                rw [ho3] at h3
                dsimp only at h3
                have hcl : ¬ 1000000 < cc.length := by intro h; rw [if_pos h] at h3; cases h3
                rw [if_neg hcl] at h3
                have hp3 := termF_inv ht hnn hD1 ho3 ho1 hp2
                refine aw_skip ?_
                simp only [thenA_normal, thenA_ret, thenA_exit, blockA_normal, blockA_ret, blockA_exit, ↓reduceIte, Nat.reduceEqDiff]
                refine aw_region C (pb := false) rfl ?_
                repeat' (first | refine wy1 (a := by simp only [go_sem, ↓reduceIte, Nat.reduceEqDiff, reduceCtorEq, Nat.reduceAdd, Nat.reduceMul, Nat.reduceLeDiff, aLoad, aStore, pl38]; exact rfl) (h := ?_) | fail)
                refine wc (And.intro Try.call39 (fn39 hx (by omega) hnn ht hD1 F L _ cid iu id iN orr p2 p3 cc (hJ8.cl.congr (fun _ _ => rfl) ((by first | omega | (dsimp only; omega) | (dsimp only at *; omega)))) ho1 hp2 (by omega) ho3)) ?_
                rintro _ _ ⟨rfl, rfl⟩
                repeat' (first | refine wy1 (a := by simp only [go_sem, ↓reduceIte, Nat.reduceEqDiff, reduceCtorEq, Nat.reduceAdd, Nat.reduceMul, Nat.reduceLeDiff, aLoad, aStore, pl38]; exact rfl) (h := ?_) | fail)
                refine awOps_append (by rfl) (by rfl) (by rfl) (by rfl) (hac8.up (hi' := s8.nx) (Nat.le_refl _) (fun j h1 h2 => (upd_ne _ _ (by omega)).trans (upd_ne _ _ (by omega)))) T25 rfl T39 rfl (by simp) (by simp [y39]) (k := 1) (new := (encB (bndOf (kc, cc))).map .sc) (by simp [aSrc, evA, get, upd, zeroA, zerosA, encB, bndOf, storeL, List.range, List.range.loop]) (by simp [encB]) (by first | omega | (dsimp only; omega) | (dsimp only at *; omega)) (by first | omega | (dsimp only; omega) | (dsimp only at *; omega)) (by first | omega | (dsimp only; omega) | (dsimp only at *; omega)) fun x9 ob9 hacc9 hlow9 _ => ?_
                repeat' (first | refine wy1 (a := by simp only [go_sem, ↓reduceIte, Nat.reduceEqDiff, reduceCtorEq, Nat.reduceAdd, Nat.reduceMul, Nat.reduceLeDiff, aLoad, aStore, pl38]; exact rfl) (h := ?_) | fail)
                refine awOps_nil ?_
                try simp only [thenA_normal, thenA_ret, thenA_exit, blockA_normal, blockA_ret, blockA_exit]
                refine aw_region C (pb := false) rfl ?_
                repeat' (first | refine wy1 (a := by simp only [go_sem, ↓reduceIte, Nat.reduceEqDiff, reduceCtorEq, Nat.reduceAdd, Nat.reduceMul, Nat.reduceLeDiff, aLoad, aStore, wrap_small ((kc : Int) + 1) (by omega) (by omega)]; exact rfl) (h := ?_) | fail)
                refine awOps_nil ?_
                try simp only [thenA_normal, thenA_ret, thenA_exit, blockA_normal, blockA_ret, blockA_exit]
                -- end of round 1 at 0f1f2f.x04t5f6f7f
                refine ⟨1000 - (kc + 1), [(6, .av (.ptr cid 0)), (7, .av (.sc SZ0)), (9, .av (.map (s5.nx + 2))), (12, (x9)), (53, vI (kc + 1))], by omega, AllIn.less ⟨rfl, rfl, rfl, rfl, rfl, trivial⟩, kc + 1, p3, x9, outl ++ [(kc, cc)], rfl, rfl, ?_, ?_, ?_, ?_⟩
                · exact ⟨(hJ8.setU (m := s8.nx) (Nat.le_refl _) p3).frame (by first | omega | (dsimp only; omega) | (dsimp only at *; omega)) (fun j hj => (hlow9 j (by omega)).trans (upd_ne _ _ (by omega))), (hlow9 _ (by omega)).trans ((upd_ne _ _ (by omega)).trans ((upd_ne _ _ (by omega)).trans hm8)), (by simp only [List.length_append, List.length_cons, List.length_nil, List.flatMap_append, List.flatMap_cons, List.flatMap_nil, List.append_nil, List.map_append]; exact hacc9.up (by first | omega | (dsimp only; omega) | (dsimp only at *; omega)) fun _ _ _ => rfl), (by first | omega | (dsimp only; omega) | (dsimp only at *; omega))⟩
                · exact ⟨by omega, hp3, by simp only [List.length_append, List.length_cons, List.length_nil]; omega⟩
                · exact h3
                · exact fun h => by simp at h
        · intro hc4
          try simp only [decide_eq_true_eq, decide_eq_false_iff_not] at hc4
          refine aw_exit ?_
          simp only [thenA_normal, thenA_ret, thenA_exit, blockA_normal, blockA_ret, blockA_exit, ↓reduceIte, Nat.reduceEqDiff]
          have hk : kc = 1000 := by omega
          rw [hk, List.drop_of_length_le (by rw [List.length_range]; exact Nat.le_refl _), bindL] at h3
          have hB2 := hs2.2.2.2
          have hac := hs2.2.2.1
          rw [show (outl.flatMap fun b => encB (bndOf b)) = (outl.map bndOf).flatMap encB by rw [List.flatMap_map], show outl.length = (outl.map bndOf).length by rw [List.length_map]] at hac
          obtain ⟨ty, ob7, hpv7, hty, hacc7, hlow7, _⟩ := Acc.pure (enc := encB) (k := 2) (fun _ => rfl) hac
          have hyn : outl = [] → ty = .nilsl := fun h => by
            rw [hxn h] at hpv7
            rw [show purV s2.ob (.av (.sc .nilsl)) = some (.av (.sc .nilsl), s2.ob) from by simp [purV, pur, purD]] at hpv7
            have h := congrArg Prod.fst (Option.some.inj hpv7)
            simp only [Va.av.injEq, Av.sc.injEq] at h
            exact h.symm
          refine aw_pur 12 hpv7 ?_
          refine aw_region_seq C (pb := false) rfl fun K hK => ?_
          repeat' (first | refine wy0 (h := ?_) | fail)
          refine awOps_nil (hK _ _ ?_)
          clear hK K
          refine aw_ret ?_
          simp only [go_sem, ↓reduceIte, Nat.reduceEqDiff, reduceCtorEq, Nat.reduceAdd, Nat.reduceMul, Nat.reduceLeDiff, aLoad, aStore, FnQ, resA]
          -- 0f1f2f.x04f.x2.ret
          simp only [Option.some.injEq, Prod.mk.injEq] at h3
          obtain ⟨rfl, rfl⟩ := h3
          exact fun _ => ⟨rfl, fun j hj => (hlow7 j (by have := hs2.1.kp.1; omega)).trans (hs2.1.kp.2.1 j hj), hs2.1.kp.2.2, ty, rfl, hty, fun h => absurd rfl h, hyn⟩
end Go.Am.Seat
/-
  MADE BY PROGRAM (am.py): the walks of functions 17.
-/
namespace Go.Am.Seat
open Go.Proofs

/-- Two rows of bindings, alike? -/
def sameB : List Bnd → List Bnd → (Bnd → List Cell) → Bool
  | [], [], _ => true
  | a :: l, b :: r, val => (a.v == b.v) && sameL (val a) (val b) && sameB l r val
  | _, _, _ => false
theorem sameB_len : ∀ {a b : List Bnd} {val : Bnd → List Cell}, sameB a b val = true → a.length = b.length
  | [], [], _, _ => rfl
  | [], _ :: _, _, h => by simp [sameB] at h
  | _ :: _, [], _, h => by simp [sameB] at h
  | x :: a, y :: b, val, h => by
    simp only [sameB, Bool.and_eq_true] at h
    simp [sameB_len h.2]

theorem bod17 : Try.f17.body = some (Try.f17.body.getD .skip) := rfl
theorem fn17 (L : Loops) (a b : List Bnd) (val : Bnd → List Cell) (s : Me) (x y : Sc) (hx : GSl encB x a) (hy : GSl encB y b) (hva : ∀ c ∈ a, GSl encC c.t (val c) ∧ (val c).length ≤ 1000000) (hvb : ∀ c ∈ b, GSl encC c.t (val c)) (hl : a.length ≤ 1000000000) : FnL Try.prog L 17 [.av (.sc x), .av (.sc y)] s fun r s' => (r = vB (sameB a b val)) ∧ s' = s := by
  refine FnL.pure (R := fun r => r = vB (sameB a b val)) ?_
  refine fn_of_body (ts := [4]) Try.func17 bod17 rfl (by simp) (by simp [Try.ntmps17]) fun D0 => ?_
  unfold Try.f17
  simp only [Option.getD_some, initSl]
  refine aw_region_seq C (pb := false) rfl fun K hK => ?_
  repeat' (first | refine wy0 (h := ?_) | fail)
  refine awOps_nil (hK _ _ ?_)
  clear hK K
  refine aw_seq ?_
  refine aw_region_seq C (pb := false) rfl fun K hK => ?_
  repeat' (first | refine wy1 (a := by simp only [go_sem, ↓reduceIte, Nat.reduceEqDiff, reduceCtorEq, Nat.reduceAdd, Nat.reduceMul, Nat.reduceLeDiff, aLoad, aStore, lenB hx, lenB hy]; exact rfl) (h := ?_) | fail)
  refine awOps_nil (hK _ _ ?_)
  clear hK K
  refine aw_cond (by rfl) ?_ ?_
  · intro hc0
    try simp only [bne_iff_ne, ne_eq, bne_eq_false_iff_eq] at hc0
    refine aw_region_seq C (pb := false) rfl fun K hK => ?_
    repeat' (first | refine wy0 (h := ?_) | fail)
    refine awOps_nil (hK _ _ ?_)
    clear hK K
    refine aw_ret ?_
    try simp only [thenA_normal, thenA_ret, thenA_exit, blockA_normal, blockA_ret, blockA_exit]
    simp only [go_sem, ↓reduceIte, Nat.reduceEqDiff, reduceCtorEq, Nat.reduceAdd, Nat.reduceMul, Nat.reduceLeDiff, aLoad, aStore, FnQ, resA]
    -- 0t.ret
    have hne : sameB a b val = false := by
      cases h : sameB a b val
      · rfl
      · exact absurd (sameB_len h) (by omega)
    exact fun _ => ⟨by first | rfl | trivial, by first | exact fun _ _ => rfl | trivial, by first | rfl | trivial, by rw [hne]⟩
  · intro hc0
    try simp only [bne_iff_ne, ne_eq, bne_eq_false_iff_eq] at hc0
    refine aw_skip ?_
    simp only [thenA_normal, thenA_ret, thenA_exit, blockA_normal, blockA_ret, blockA_exit, ↓reduceIte, Nat.reduceEqDiff]
    refine aw_seq ?_
    refine aw_region_seq C (pb := false) rfl fun K hK => ?_
    repeat' (first | refine wy0 (h := ?_) | fail)
    refine awOps_nil (hK _ _ ?_)
    clear hK K
    refine aw_block ?_
    refine AW.less (sl' := [(0, .av (.sc x)), (1, .av (.sc y)), (5, vI (0))]) (AllIn.less ⟨rfl, rfl, rfl, trivial⟩) (aw_loop (fun k sl1 s1 => ∃ (i : Nat), k = a.length - i ∧ sl1 = [(0, .av (.sc x)), (1, .av (.sc y)), (5, vI (i))] ∧ (Kp s s1) ∧ (i ≤ a.length) ∧ (sameB (a.drop i) (b.drop i) val = sameB a b val)) (k := a.length - (0)) ⟨0, rfl, rfl, (Kp.refl s).up (by omega), Nat.zero_le _, by simp⟩ ?_)
    rintro k1 _ s1 ⟨i, hk1, rfl, hs1, hb, h3⟩
    refine aw_seq ?_
    refine aw_region_seq C (pb := false) rfl fun K hK => ?_
    repeat' (first | refine wy1 (a := by simp only [go_sem, ↓reduceIte, Nat.reduceEqDiff, reduceCtorEq, Nat.reduceAdd, Nat.reduceMul, Nat.reduceLeDiff, aLoad, aStore, lenB hx]; exact rfl) (h := ?_) | fail)
    refine awOps_nil (hK _ _ ?_)
    clear hK K
    refine aw_cond (by rfl) ?_ ?_
    · intro hc1
      try simp only [decide_eq_true_eq, decide_eq_false_iff_not] at hc1
      have hi2 : i < a.length := by omega
      have hi3 : i < b.length := by omega
      have ga := (hva a[i] (List.getElem_mem hi2))
      have gb := (hvb b[i] (List.getElem_mem hi3))
      refine aw_skip ?_
      simp only [thenA_normal, thenA_ret, thenA_exit, blockA_normal, blockA_ret, blockA_exit, ↓reduceIte, Nat.reduceEqDiff]
      refine aw_seq ?_
      refine aw_block ?_
      refine aw_silcut_seq C (pb := false) 25 _ [(0, .av (.sc x)), (1, .av (.sc y)), (5, vI i), (41, vB (!((a[i].v == b[i].v) && sameL (val a[i]) (val b[i]))))] rfl (by kernel_rfl) rfl (fun _ _ => rfl) ?_ ?_
      · cases hA0 : (a[i].v == b[i].v : Bool)
        all_goals (repeat' (first | refine ws1 (a := by simp only [go_sem, ↓reduceIte, Nat.reduceEqDiff, reduceCtorEq, Nat.reduceAdd, Nat.reduceMul, Nat.reduceLeDiff, aLoad, aStore, idxB hx hi2, idxB hy hi3, bne, hA0]; exact rfl) (h := ?_) | refine wsn (h := ?_) | fail))
        all_goals (try (first | refine wsc (And.intro Try.call20 (fn20 L (val a[i]) (val b[i]) _ _ _ ga.1 gb (by omega))) ?_ | refine wsn (h := ?_) | fail))
        all_goals (repeat' (first | refine ws1 (a := by simp only [go_sem, ↓reduceIte, Nat.reduceEqDiff, reduceCtorEq, Nat.reduceAdd, Nat.reduceMul, Nat.reduceLeDiff, aLoad, aStore, idxB hx hi2, idxB hy hi3, bne, hA0]; exact rfl) (h := ?_) | refine wsn (h := ?_) | fail))
        all_goals (exact sil_nil ⟨rfl, rfl, rfl, rfl, trivial⟩)
      refine aw_cond (by rfl) ?_ ?_
      · intro hc2
        have hq : ((a[i].v == b[i].v) && sameL (val a[i]) (val b[i])) = false := by
          simpa only [Bool.not_eq_true'] using hc2
        refine aw_region_seq C (pb := false) rfl fun K hK => ?_
        repeat' (first | refine wy0 (h := ?_) | fail)
        refine awOps_nil (hK _ _ ?_)
        clear hK K
        refine aw_ret ?_
        try simp only [thenA_normal, thenA_ret, thenA_exit, blockA_normal, blockA_ret, blockA_exit]
        simp only [go_sem, ↓reduceIte, Nat.reduceEqDiff, reduceCtorEq, Nat.reduceAdd, Nat.reduceMul, Nat.reduceLeDiff, aLoad, aStore, FnQ, resA]
        -- 0f1t2t.ret
        have hne : sameB a b val = false := by
          rw [← h3, List.drop_eq_getElem_cons hi2, List.drop_eq_getElem_cons hi3, sameB, hq]
          rfl
        exact fun _ => ⟨by first | rfl | trivial, hs1.2.1, hs1.2.2, by rw [hne]⟩
      · intro hc2
        have hq : ((a[i].v == b[i].v) && sameL (val a[i]) (val b[i])) = true := by
          simpa only [Bool.not_eq_false'] using hc2
        refine aw_skip ?_
        simp only [thenA_normal, thenA_ret, thenA_exit, blockA_normal, blockA_ret, blockA_exit, ↓reduceIte, Nat.reduceEqDiff]
        refine aw_region C (pb := false) rfl ?_
        repeat' (first | refine wy1 (a := by simp only [go_sem, ↓reduceIte, Nat.reduceEqDiff, reduceCtorEq, Nat.reduceAdd, Nat.reduceMul, Nat.reduceLeDiff, aLoad, aStore, wrap_small ((i : Int) + 1) (by omega) (by omega)]; exact rfl) (h := ?_) | fail)
        refine awOps_nil ?_
        try simp only [thenA_normal, thenA_ret, thenA_exit, blockA_normal, blockA_ret, blockA_exit]
        -- end of round 0 at 0f1t2f
        refine ⟨a.length - (i + 1), [(0, .av (.sc x)), (1, .av (.sc y)), (5, vI (i + 1))], by omega, AllIn.less ⟨rfl, rfl, rfl, trivial⟩, i + 1, rfl, rfl, ?_, ?_, ?_⟩
        · exact hs1.up (by omega)
        · omega
        · rw [← h3, List.drop_eq_getElem_cons hi2, List.drop_eq_getElem_cons hi3, sameB, hq]
          rfl
    · intro hc1
      try simp only [decide_eq_true_eq, decide_eq_false_iff_not] at hc1
      refine aw_exit ?_
      simp only [thenA_normal, thenA_ret, thenA_exit, blockA_normal, blockA_ret, blockA_exit, ↓reduceIte, Nat.reduceEqDiff]
      refine aw_region_seq C (pb := false) rfl fun K hK => ?_
      repeat' (first | refine wy0 (h := ?_) | fail)
      refine awOps_nil (hK _ _ ?_)
      clear hK K
      refine aw_ret ?_
      simp only [go_sem, ↓reduceIte, Nat.reduceEqDiff, reduceCtorEq, Nat.reduceAdd, Nat.reduceMul, Nat.reduceLeDiff, aLoad, aStore, FnQ, resA]
      -- 0f1f.x0.ret
      have hne : sameB a b val = true := by
        rw [← h3, List.drop_of_length_le (by omega), List.drop_of_length_le (by omega)]; rfl
      exact fun _ => ⟨by first | rfl | trivial, hs1.2.1, hs1.2.2, by rw [hne]⟩
end Go.Am.Seat
/-
  THE PLAIN LAW, part B: rows of bindings, and how they are held against each other.
-/
namespace Go.Am.Seat
open Go.Proofs
open Classical in
noncomputable def valT (t : Sc) : List Cell := if h : ∃ l, GSl encC t l then h.choose else []
theorem valT_eq {t : Sc} {l : List Cell} (h : GSl encC t l) : valT t = l := by
  have hx : ∃ l, GSl encC t l := ⟨l, h⟩
  unfold valT
  rw [dif_pos hx]
  exact gsl_inj hx.choose_spec h
theorem bndI_t (b : Int × List Cell) : GSl encC (bndI b).t b.2 := .inr rfl
theorem sameB_iff : ∀ {a b : List (Int × List Cell)}, sameB (a.map bndI) (b.map bndI) (fun c => valT c.t) = decide (a = b)
  | [], [] => by simp [sameB]
  | [], _ :: _ => by simp [sameB]
  | _ :: _, [] => by simp [sameB]
  | x :: a, y :: b => by
    simp only [List.map_cons, sameB]
    rw [sameB_iff, valT_eq (bndI_t x), valT_eq (bndI_t y), Bool.eq_iff_iff]
    simp only [Bool.and_eq_true, beq_iff_eq, sameL_iff, decide_eq_true_eq, List.cons.injEq]
    constructor
    · rintro ⟨⟨h1, h2⟩, h3⟩
      exact ⟨Prod.ext h1 h2, h3⟩
    · rintro ⟨rfl, rfl⟩
      exact ⟨⟨rfl, rfl⟩, rfl⟩
theorem fnSame (L : Loops) (a b : List (Int × List Cell)) (s : Me) (x y : Sc) (hx : GSl encB x (a.map bndI)) (hy : GSl encB y (b.map bndI)) (hl : a.length ≤ 1000000) (hc : ∀ c ∈ a, c.2.length ≤ 1000000) : FnL Try.prog L 17 [.av (.sc x), .av (.sc y)] s fun r s' => r = vB (decide (a = b)) ∧ s' = s := by
  refine (fn17 L (a.map bndI) (b.map bndI) (fun c => valT c.t) s x y hx hy (fun c hc' => ?_) (fun c hc' => ?_) (by rw [List.length_map]; omega)).mono fun r s' ⟨h1, h2⟩ => ⟨by rw [h1, sameB_iff], h2⟩
  · obtain ⟨d, hd, rfl⟩ := List.mem_map.1 hc'
    have h := bndI_t d
    exact ⟨(valT_eq h).symm ▸ h, by rw [valT_eq h]; exact hc d hd⟩
  · obtain ⟨d, hd, rfl⟩ := List.mem_map.1 hc'
    have h := bndI_t d
    exact (valT_eq h).symm ▸ h
/-- A binding told by Mgu, its number as it is written. -/
def toI (b : Nat × List Cell) : Int × List Cell := ((b.1 : Int), b.2)
theorem map_bndOf (out : List (Nat × List Cell)) : out.map bndOf = (out.map toI).map bndI := by
  rw [List.map_map]
  exact List.map_congr_left fun b _ => rfl
end Go.Am.Seat
/-
  THE PLAIN LAW of classes: ways up to a class's own place, halved on the way; two classes made one.
-/
namespace Go.Am.Seat
/-- The ways up: each within the row, shorter at each step; an own place's is zero. -/
structure UF (n m : Nat) (p d : Nat → Nat) : Prop where
  lt : ∀ i, i < n → p i < n
  own : ∀ i, i < n → p i = i → d i = 0
  up : ∀ i, i < n → p i ≠ i → d (p i) < d i
  le : ∀ i, i < n → d i ≤ m
inductive Root (p : Nat → Nat) : Nat → Nat → Prop
  | here {a : Nat} (h : p a = a) : Root p a a
  | step {a r : Nat} (h : p a ≠ a) (k : Root p (p a) r) : Root p a r
theorem Root.fix {p : Nat → Nat} {a r : Nat} (h : Root p a r) : p r = r := by
  induction h with
  | here h => exact h
  | step _ _ ih => exact ih
theorem Root.uniq {p : Nat → Nat} {a r s : Nat} (h : Root p a r) (k : Root p a s) : r = s := by
  induction h with
  | here h =>
    cases k with
    | here => rfl
    | step h' _ => exact absurd h h'
  | step h _ ih =>
    cases k with
    | here h' => exact absurd h' h
    | step _ k => exact ih k
theorem Root.self {p : Nat → Nat} {a r : Nat} (h : Root p a r) (ha : p a = a) : r = a := (h.uniq (.here ha))
theorem Root.next {p : Nat → Nat} {a r : Nat} : Root p (p a) r ↔ Root p a r := by
  by_cases h : p a = a
  · rw [h]
  · exact ⟨.step h, fun k => by
      cases k with
      | here h' => exact absurd h' h
      | step _ k => exact k⟩
section
variable {n m : Nat} {p d : Nat → Nat}
theorem UF.root (h : UF n m p d) : ∀ (k a : Nat), d a ≤ k → a < n → ∃ r, Root p a r ∧ r < n
  | 0, a, hk, ha => by
    by_cases hp : p a = a
    · exact ⟨a, .here hp, ha⟩
    · have := h.up a ha hp; omega
  | k + 1, a, hk, ha => by
    by_cases hp : p a = a
    · exact ⟨a, .here hp, ha⟩
    · have := h.up a ha hp
      obtain ⟨r, h1, h2⟩ := UF.root h k (p a) (by omega) (h.lt a ha)
      exact ⟨r, .step hp h1, h2⟩
theorem UF.halve (h : UF n m p d) {a : Nat} (ha : a < n) : UF n m (upd p a (p (p a))) d := by
  have hpa := h.lt a ha
  have hpp := h.lt _ hpa
  refine ⟨fun i hi => ?_, fun i hi hf => ?_, fun i hi hf => ?_, h.le⟩
  · by_cases e : i = a
    · rw [e, upd_same]; exact hpp
    · rw [upd_ne _ _ e]; exact h.lt i hi
  · by_cases e : i = a
    · subst e
      rw [upd_same] at hf
      by_cases hp : p i = i
      · exact h.own i hi hp
      · have h1 := h.up i hi hp
        by_cases hp2 : p (p i) = p i
        · rw [hp2] at hf; exact absurd hf hp
        · have := h.up _ hpa hp2
          rw [hf] at this; omega
    · rw [upd_ne _ _ e] at hf; exact h.own i hi hf
  · by_cases e : i = a
    · subst e
      rw [upd_same] at hf ⊢
      by_cases hp : p i = i
      · rw [hp, hp] at hf; exact absurd rfl hf
      · have h1 := h.up i hi hp
        by_cases hp2 : p (p i) = p i
        · rw [hp2]; exact h1
        · have := h.up _ hpa hp2; omega
    · rw [upd_ne _ _ e] at hf ⊢; exact h.up i hi hf
/-- Halving a way turns no class. -/
theorem UF.halve_root (h : UF n m p d) {a : Nat} (ha : a < n) : ∀ (k i : Nat), d i ≤ k → i < n → ∀ r, Root p i r → Root (upd p a (p (p a))) i r
  | k, i, hk, hi, r, hr => by
    have hpa := h.lt a ha
    by_cases e : i = a
    · subst e
      by_cases hp : p i = i
      · have : r = i := hr.self hp
        subst this
        exact .here (by rw [upd_same, hp, hp])
      · have h1 := h.up i hi hp
        have hne : upd p i (p (p i)) i ≠ i := by
          rw [upd_same]
          intro hf
          by_cases hp2 : p (p i) = p i
          · rw [hp2] at hf; exact hp hf
          · have := h.up _ hpa hp2
            rw [hf] at this; omega
        refine .step hne ?_
        rw [upd_same]
        have hr2 : Root p (p (p i)) r := Root.next.2 (Root.next.2 hr)
        have hd2 : d (p (p i)) < d i := by
          by_cases hp2 : p (p i) = p i
          · rw [hp2]; exact h1
          · have := h.up _ hpa hp2; omega
        cases k with
        | zero => omega
        | succ k => exact UF.halve_root h hi k (p (p i)) (by omega) (h.lt _ hpa) r hr2
    · by_cases hp : p i = i
      · have : r = i := hr.self hp
        subst this
        exact .here (by rw [upd_ne _ _ e]; exact hp)
      · have h1 := h.up i hi hp
        refine .step (by rw [upd_ne _ _ e]; exact hp) ?_
        rw [upd_ne _ _ e]
        cases k with
        | zero => omega
        | succ k => exact UF.halve_root h ha k (p i) (by omega) (h.lt i hi) r (Root.next.2 hr)
/-- The classes are the same. -/
def SameC (n : Nat) (p q : Nat → Nat) : Prop := ∀ i, i < n → ∀ r, Root p i r ↔ Root q i r
theorem SameC.refl (n : Nat) (p : Nat → Nat) : SameC n p p := fun _ _ _ => .rfl
theorem SameC.trans {n : Nat} {p q r : Nat → Nat} (h : SameC n p q) (k : SameC n q r) : SameC n p r := fun i hi s => (h i hi s).trans (k i hi s)
theorem UF.halve_same (h : UF n m p d) {a : Nat} (ha : a < n) : SameC n p (upd p a (p (p a))) := fun i hi r =>
  ⟨h.halve_root ha (d i) i (Nat.le_refl _) hi r, fun k => by
    obtain ⟨s, h1, _⟩ := h.root (d i) i (Nat.le_refl _) hi
    have := (h.halve_root ha (d i) i (Nat.le_refl _) hi s h1).uniq k
    exact this ▸ h1⟩
theorem own1_law : ∀ {F : Nat} {p : Nat → Nat} {a : Nat}, UF n m p d → a < n → d a < F → ∃ r p', own1 F p a = some (r, p') ∧ Root p a r ∧ r < n ∧ UF n m p' d ∧ SameC n p p'
  | 0, p, a, _, _, hF => by omega
  | F + 1, p, a, h, ha, hF => by
    rw [own1]
    by_cases hp : p a = a
    · rw [if_pos hp]
      exact ⟨a, p, rfl, .here hp, ha, h, SameC.refl n p⟩
    · rw [if_neg hp]
      have hpa := h.lt a ha
      have h1 := h.up a ha hp
      have hd2 : d (p (p a)) < d a := by
        by_cases hp2 : p (p a) = p a
        · rw [hp2]; exact h1
        · have := h.up _ hpa hp2; omega
      obtain ⟨r, p', k1, k2, k3, k4, k5⟩ := own1_law (F := F) (h.halve ha) (h.lt _ hpa) (by omega)
      have hs := h.halve_same ha
      exact ⟨r, p', k1, Root.next.1 (Root.next.1 ((hs _ (h.lt _ hpa) r).2 k2)), k3, k4, hs.trans k5⟩
open Classical in
theorem UF.union (h : UF n m p d) {x y : Nat} (hx : x < n) (hy : y < n) (hxy : x ≠ y) (px : p x = x) (py : p y = y) : ∃ d', UF n (m + 1) (upd p y x) d' := by
  refine ⟨fun i => if Root p i y then d i + 1 else d i, fun i hi => ?_, fun i hi hf => ?_, fun i hi hf => ?_, fun i hi => ?_⟩
  · by_cases e : i = y
    · rw [e, upd_same]; exact hx
    · rw [upd_ne _ _ e]; exact h.lt i hi
  · by_cases e : i = y
    · subst e; rw [upd_same] at hf; exact absurd hf hxy
    · rw [upd_ne _ _ e] at hf
      rw [if_neg (fun k => e (k.self hf).symm)]
      exact h.own i hi hf
  · by_cases e : i = y
    · subst e
      rw [upd_same, if_neg (fun k => hxy (k.self px).symm), if_pos (.here py), h.own x hx px]
      omega
    · rw [upd_ne _ _ e] at hf ⊢
      have h1 := h.up i hi hf
      by_cases k : Root p i y
      · rw [if_pos (Root.next.2 k), if_pos k]; omega
      · rw [if_neg (fun k' => k (Root.next.1 k')), if_neg k]; exact h1
  · have := h.le i hi
    split <;> omega
theorem union_root {x y : Nat} (hxy : x ≠ y) (px : p x = x) (py : p y = y) {i r : Nat} (hr : Root p i r) : Root (upd p y x) i (if r = y then x else r) := by
  induction hr with
  | @here a ha =>
    by_cases e : a = y
    · subst e
      rw [if_pos rfl]
      refine .step (by rw [upd_same]; exact hxy) ?_
      rw [upd_same]
      exact .here (by rw [upd_ne _ _ hxy]; exact px)
    · rw [if_neg e]
      exact .here (by rw [upd_ne _ _ e]; exact ha)
  | @step a r ha k ih =>
    have e : a ≠ y := fun e => ha (by rw [e]; exact py)
    refine .step (by rw [upd_ne _ _ e]; exact ha) ?_
    rw [upd_ne _ _ e]
    exact ih
end
/-- How many classes there are. -/
def roots (p : Nat → Nat) : Nat → Nat
  | 0 => 0
  | n + 1 => roots p n + if p n = n then 1 else 0
theorem roots_le (p : Nat → Nat) : ∀ n, roots p n ≤ n
  | 0 => Nat.le_refl _
  | n + 1 => by
    have := roots_le p n
    rw [roots]
    split <;> omega
theorem roots_congr {p q : Nat → Nat} : ∀ {n : Nat}, (∀ i, i < n → (p i = i ↔ q i = i)) → roots p n = roots q n
  | 0, _ => rfl
  | n + 1, h => by
    rw [roots, roots, roots_congr fun i hi => h i (by omega)]
    by_cases e : p n = n
    · rw [if_pos e, if_pos ((h n (by omega)).1 e)]
    · rw [if_neg e, if_neg fun k => e ((h n (by omega)).2 k)]
theorem SameC.fix {n : Nat} {p q : Nat → Nat} (h : SameC n p q) {i : Nat} (hi : i < n) : p i = i ↔ q i = i :=
  ⟨fun k => ((h i hi i).1 (.here k)).fix, fun k => ((h i hi i).2 (.here k)).fix⟩
theorem roots_union {p : Nat → Nat} {x y : Nat} (hxy : x ≠ y) (py : p y = y) : ∀ {n : Nat}, y < n → roots (upd p y x) n + 1 = roots p n
  | 0, h => by omega
  | n + 1, h => by
    rw [roots, roots]
    by_cases e : n = y
    · subst e
      rw [upd_same, if_neg hxy, if_pos py, roots_congr (q := p) fun i hi => by rw [upd_ne _ _ (by omega)]]
    · rw [upd_ne _ _ e, ← roots_union hxy py (show y < n by omega)]
      omega
end Go.Am.Seat
/-
  THE PLAIN LAW of variants and of matching.
-/
namespace Go.Am.Seat
/-! ### Numbering -/
theorem contains_map {g : Int → Int} {l : List Int} {n : Int} (hg : ∀ a ∈ l, g a = g n → a = n) : (l.map g).contains (g n) = l.contains n := by
  rw [Bool.eq_iff_iff, List.contains_iff_mem, List.contains_iff_mem]
  constructor
  · intro h
    obtain ⟨a, h1, h2⟩ := List.mem_map.1 h
    rw [← hg a h1 h2]; exact h1
  · exact fun h => List.mem_map_of_mem h
theorem varsG_map {g : Int → Int} {S : Int → Prop} (hg : ∀ a b, S a → S b → g a = g b → a = b) : ∀ {l : List Cell} {out : List Int}, (∀ c ∈ l, c.kind = 1 → S c.n) → (∀ n ∈ out, S n) → varsG (l.map (mapC g)) (out.map g) = (varsG l out).map g
  | [], out, _, _ => rfl
  | c :: l, out, hl, ho => by
    rw [List.map_cons, varsG, varsG]
    by_cases hk : c.kind = 1
    · have e1 : mapC g c = ⟨c.kind, c.name, g c.n⟩ := by rw [mapC, if_pos hk]
      have hc := hl c (by simp) hk
      rw [e1]
      dsimp only
      rw [contains_map fun a ha h => hg a c.n (ho a ha) hc h, hk]
      by_cases hm : out.contains c.n = true
      · rw [hm]
        simp only [beq_self_eq_true, Bool.not_true, Bool.and_false, Bool.false_eq_true, if_false]
        exact varsG_map hg (fun d hd => hl d (by simp [hd])) ho
      · rw [Bool.not_eq_true] at hm
        rw [hm]
        simp only [beq_self_eq_true, Bool.not_false, Bool.and_true, if_true]
        rw [show out.map g ++ [g c.n] = (out ++ [c.n]).map g by simp]
        refine varsG_map hg (fun d hd => hl d (by simp [hd])) fun n hn => ?_
        rcases List.mem_append.1 hn with h | h
        · exact ho n h
        · rw [List.mem_singleton.1 h]; exact hc
    · have e1 : mapC g c = c := by rw [mapC, if_neg hk]
      have e2 : (c.kind == 1) = false := by simpa using hk
      rw [e1, e2]
      simp only [Bool.false_and, Bool.false_eq_true, if_false]
      exact varsG_map hg (fun d hd => hl d (by simp [hd])) ho
theorem varsG_mem {c : Cell} : ∀ {l : List Cell} {out : List Int}, (c ∈ l ∧ c.kind = 1) ∨ c.n ∈ out → c.n ∈ varsG l out
  | [], out, h => by simpa [varsG] using h
  | d :: l, out, h => by
    rw [varsG]
    refine varsG_mem ?_
    rcases h with ⟨h1, h2⟩ | h
    · rcases List.mem_cons.1 h1 with rfl | h1
      · right
        rw [h2]
        by_cases hm : out.contains c.n = true
        · rw [hm]; simpa using hm
        · rw [Bool.not_eq_true] at hm
          rw [hm]; simp
      · exact .inl ⟨h1, h2⟩
    · right
      split
      · exact List.mem_append_left _ h
      · exact h
theorem varsG_nodup : ∀ {l : List Cell} {out : List Int}, out.Nodup → (varsG l out).Nodup
  | [], out, h => h
  | c :: l, out, h => by
    rw [varsG]
    refine varsG_nodup ?_
    split
    · rename_i hc
      simp only [Bool.and_eq_true, Bool.not_eq_true'] at hc
      refine List.nodup_append.2 ⟨h, by simp, fun a ha b hb => ?_⟩
      rw [List.mem_singleton.1 hb]
      rintro rfl
      have := hc.2
      rw [← Bool.not_eq_true, List.contains_iff_mem] at this
      exact this ha
    · exact h
theorem placeI_map {g : Int → Int} {n : Int} : ∀ {l : List Int} {i : Nat}, (∀ a ∈ l, g a = g n → a = n) → placeI (l.map g) (g n) i = placeI l n i
  | [], i, _ => rfl
  | a :: l, i, h => by
    rw [List.map_cons]
    simp only [placeI]
    by_cases ha : a = n
    · subst ha; simp
    · have : g a ≠ g n := fun e => ha (h a (by simp) e)
      have e1 : (g a == g n) = false := by simpa using this
      have e2 : (a == n) = false := by simpa using ha
      rw [e1, e2]
      exact placeI_map fun a ha => h a (by simp [ha])
theorem numG_ren {g : Int → Int} {t : List Cell} (hg : ∀ c ∈ t, ∀ d ∈ t, c.kind = 1 → d.kind = 1 → g c.n = g d.n → c.n = d.n) : numG (t.map (mapC g)) = numG t := by
  have hS : varsG (t.map (mapC g)) [] = (varsG t []).map g := by
    refine varsG_map (S := fun n => ∃ c ∈ t, c.kind = 1 ∧ c.n = n) ?_ (fun c hc hk => ⟨c, hc, hk, rfl⟩) (out := []) (by simp)
    rintro _ _ ⟨c, hc, hk, rfl⟩ ⟨d, hd, hk', rfl⟩ h
    exact hg c hc d hd hk hk' h
  unfold numG
  rw [hS, List.map_map]
  refine List.map_congr_left fun c hc => ?_
  simp only [Function.comp]
  by_cases hk : c.kind = 1
  · have e1 : mapC g c = ⟨c.kind, c.name, g c.n⟩ := by rw [mapC, if_pos hk]
    rw [e1, mapC, if_pos hk, mapC, if_pos hk]
    dsimp only
    rw [placeI_map]
    intro n hn h
    rcases varsG_kind hn with h1 | ⟨d, h1, h2, h3⟩
    · simp at h1
    · rw [← h3] at h ⊢
      exact hg d h1 c hc h2 hk h
  · rw [mapC, mapC, if_neg hk, mapC, if_neg hk, if_neg hk]
theorem placeI_get {n : Int} : ∀ {l : List Int} {i : Nat}, n ∈ l → ∃ j : Nat, placeI l n i = ((i + j : Nat) : Int) ∧ l[j]? = some n
  | [], i, h => by simp at h
  | a :: l, i, h => by
    rw [placeI]
    by_cases ha : a = n
    · subst ha
      exact ⟨0, by simp, by simp⟩
    · have e2 : (a == n) = false := by simpa using ha
      rw [e2]
      rcases List.mem_cons.1 h with h | h
      · exact absurd h.symm ha
      · obtain ⟨j, h1, h2⟩ := placeI_get (i := i + 1) h
        exact ⟨j + 1, by simp only [Bool.false_eq_true, if_false]; rw [h1]; omega, by simpa using h2⟩
theorem placeI_inj {l : List Int} {n m : Int} (hn : n ∈ l) (hm : m ∈ l) (h : placeI l n 0 = placeI l m 0) : n = m := by
  obtain ⟨j, h1, h2⟩ := placeI_get (i := 0) hn
  obtain ⟨k, h3, h4⟩ := placeI_get (i := 0) hm
  have : j = k := by omega
  subst this
  rw [h2] at h4
  exact Option.some.inj h4
theorem numG_idem (t : List Cell) : numG (numG t) = numG t := by
  refine numG_ren fun c hc d hd hk hk' h => placeI_inj (varsG_mem (.inl ⟨hc, hk⟩)) (varsG_mem (.inl ⟨hd, hk'⟩)) h
theorem numG_shift (t : List Cell) (k : Int) : numG (t.map (mapC (· + k))) = numG t := numG_ren fun c hc d hd hk hk' h => by
  have : c.n + k = d.n + k := h
  omega
/-- Alike but for numbers: one is the other one with its variables renamed. -/
theorem numG_eq {a b : List Cell} (h : numG a = numG b) : ∃ g : Int → Int, b = a.map (mapC g) ∧ ∀ c ∈ a, ∀ d ∈ a, c.kind = 1 → d.kind = 1 → g c.n = g d.n → c.n = d.n := by
  have hl : a.length = b.length := by
    have := congrArg List.length h
    rwa [numG, numG, List.length_map, List.length_map] at this
  have hi : ∀ i (h1 : i < a.length) (h2 : i < b.length), mapC (fun n => placeI (varsG a []) n 0) a[i] = mapC (fun n => placeI (varsG b []) n 0) b[i] := by
    intro i h1 h2
    have := congrArg (fun l : List Cell => l[i]?) h
    simpa [numG, List.getElem?_eq_getElem h1, List.getElem?_eq_getElem h2] using this
  have hk : ∀ (f : Int → Int) (c : Cell), (mapC f c).kind = c.kind ∧ (mapC f c).name = c.name := by
    intro f c; unfold mapC; split <;> exact ⟨rfl, rfl⟩
  have hv : ∀ i (h1 : i < a.length) (h2 : i < b.length), a[i].kind = 1 → placeI (varsG a []) a[i].n 0 = placeI (varsG b []) b[i].n 0 := by
    intro i h1 h2 hk1
    have e := hi i h1 h2
    have hk2 : b[i].kind = 1 := by rw [← (hk _ b[i]).1, ← e, (hk _ a[i]).1, hk1]
    rw [mapC, if_pos hk1, mapC, if_pos hk2] at e
    exact congrArg Cell.n e
  refine ⟨fun n => (varsG b []).getD (placeI (varsG a []) n 0).toNat 0, ?_, ?_⟩
  · refine List.ext_getElem (by rw [List.length_map, hl]) fun i h2 h1' => ?_
    have h1 : i < a.length := by rw [hl]; exact h2
    rw [List.getElem_map]
    have e := hi i h1 h2
    by_cases hk1 : a[i].kind = 1
    · have hk2 : b[i].kind = 1 := by rw [← (hk _ b[i]).1, ← e, (hk _ a[i]).1, hk1]
      obtain ⟨j, h3, h4⟩ := placeI_get (i := 0) (varsG_mem (out := []) (.inl ⟨List.getElem_mem h2, hk2⟩))
      rw [mapC, if_pos hk1, hv i h1 h2 hk1, h3]
      have hnm : b[i].name = a[i].name := by rw [← (hk _ b[i]).2, ← e, (hk _ a[i]).2]
      rw [Nat.zero_add, Int.toNat_natCast, List.getD_eq_getElem?_getD, h4, Option.getD_some, ← hnm, hk1, ← hk2]
    · have hk2 : ¬ b[i].kind = 1 := by rw [← (hk (fun n => placeI (varsG b []) n 0) b[i]).1, ← e, (hk _ a[i]).1]; exact hk1
      rw [mapC, if_neg hk1, mapC, if_neg hk2] at e
      rw [mapC, if_neg hk1, e]
  · intro c hc d hd hk1 hk2 h
    obtain ⟨i, h1, rfl⟩ := List.getElem_of_mem hc
    obtain ⟨j, h2, rfl⟩ := List.getElem_of_mem hd
    have h1' : i < b.length := by omega
    have h2' : j < b.length := by omega
    have k1 : b[i].kind = 1 := by rw [← (hk (fun n => placeI (varsG b []) n 0) b[i]).1, ← hi i h1 h1', (hk _ a[i]).1, hk1]
    have k2 : b[j].kind = 1 := by rw [← (hk (fun n => placeI (varsG b []) n 0) b[j]).1, ← hi j h2 h2', (hk _ a[j]).1, hk2]
    obtain ⟨x, h3, h4⟩ := placeI_get (i := 0) (varsG_mem (out := []) (.inl ⟨List.getElem_mem h1', k1⟩))
    obtain ⟨y, h5, h6⟩ := placeI_get (i := 0) (varsG_mem (out := []) (.inl ⟨List.getElem_mem h2', k2⟩))
    dsimp only at h
    rw [hv i h1 h1' hk1, hv j h2 h2' hk2, h3, h5, Nat.zero_add, Nat.zero_add, Int.toNat_natCast, Int.toNat_natCast, List.getD_eq_getElem?_getD, List.getD_eq_getElem?_getD, h4, h6, Option.getD_some, Option.getD_some] at h
    refine placeI_inj (varsG_mem (out := []) (.inl ⟨List.getElem_mem h1, hk1⟩)) (varsG_mem (out := []) (.inl ⟨List.getElem_mem h2, hk2⟩)) ?_
    rw [hv i h1 h1' hk1, hv j h2 h2' hk2, h]
end Go.Am.Seat
/-
  THE PLAIN LAW of matching.
-/
namespace Go.Am.Seat
/-- A term that stands in another one. -/
structure TermOf (b t : List Cell) : Prop where
  tk : takes t 1 = some t.length
  pos : 1 ≤ t.length
  len : t.length ≤ b.length
  mem : ∀ c ∈ t, c ∈ b
def appL (M : Int → Option (List Cell)) (t : List Cell) : List Cell := t.flatMap fun c => if c.kind = 1 then (M c.n).getD [c] else [c]
theorem appL_cons (M : Int → Option (List Cell)) (c : Cell) (l : List Cell) : appL M (c :: l) = (if c.kind = 1 then (M c.n).getD [c] else [c]) ++ appL M l := by simp [appL]
theorem takes_take : ∀ {l : List Cell} {n e : Nat}, takes l n = some e → takes (l.take e) n = some e
  | l, 0, e, h => by rw [takes_zero h]; cases l <;> rfl
  | [], n + 1, e, h => (takes_nil (by omega) h).elim
  | c :: l, n + 1, e, h => by
    obtain ⟨p, rfl, h1⟩ := takes_cons (by omega) h
    simp only [Nat.add_sub_cancel] at h1
    rw [List.take_succ_cons, takes, takes_take h1]
    rfl
theorem slice_take {b : List Cell} {k e : Nat} : (b.take (k + e)).drop k = (b.drop k).take e := by
  rw [List.drop_take, Nat.add_sub_cancel_left]
theorem termOf_slice {b : List Cell} {k e : Nat} (h : takes (b.drop k) 1 = some e) : TermOf b ((b.take (k + e)).drop k) := by
  have hle := takes_le h
  have hl : ((b.drop k).take e).length = e := by rw [List.length_take]; omega
  rw [List.length_drop] at hle
  rw [slice_take]
  refine ⟨by rw [hl]; exact takes_take h, ?_, by rw [hl]; omega, fun c hc => List.mem_of_mem_drop (List.mem_of_mem_take hc)⟩
  rw [hl]
  rcases Nat.eq_zero_or_pos e with h0 | h0
  · subst h0; exact absurd h (takes_pos0 _)
  · exact h0
theorem matG_sound {b : List Cell} : ∀ {l : List Cell} {k : Nat} {M M' : Int → Option (List Cell)}, matG b l k M = some M' → (∀ n t, M n = some t → TermOf b t) →
    (∀ n t, M n = some t → M' n = some t) ∧ (∀ n t, M' n = some t → TermOf b t) ∧ (∀ c ∈ l, c.kind = 1 → (M' c.n).isSome) ∧ ∃ e, e ≤ b.length - k ∧ appL M' l = (b.drop k).take e
  | [], k, M, M', h, hM => by
    simp only [matG, Option.some.injEq] at h
    subst h
    exact ⟨fun _ _ h => h, hM, fun c hc => by simp at hc, 0, Nat.zero_le _, by simp [appL]⟩
  | c :: l, k, M, M', h, hM => by
    rw [matG] at h
    split at h
    · cases h
    rename_i d hd
    obtain ⟨hk, hdk⟩ := List.getElem?_eq_some_iff.1 hd
    split at h
    · rename_i hk1
      split at h
      · cases h
      rename_i e he
      have hT := termOf_slice he
      have hle := takes_le he
      rw [List.length_drop] at hle
      have key : (∀ t, M c.n = some t → t = (b.take (k + e)).drop k) → matG b l (k + e) (updI M c.n ((b.take (k + e)).drop k)) = some M' → (∀ n t, M n = some t → M' n = some t) ∧ (∀ n t, M' n = some t → TermOf b t) ∧ (∀ d ∈ c :: l, d.kind = 1 → (M' d.n).isSome) ∧ ∃ e, e ≤ b.length - k ∧ appL M' (c :: l) = (b.drop k).take e := by
        intro h0 h
        obtain ⟨h1, h2, h3, e2, h4, h5⟩ := matG_sound h fun n t hn => by
          unfold updI at hn
          split at hn
          · cases hn; exact hT
          · exact hM n t hn
        have hc : M' c.n = some ((b.take (k + e)).drop k) := h1 c.n _ (by simp [updI])
        refine ⟨fun n t hn => h1 n t ?_, h2, fun d hd hk => ?_, e + e2, by omega, ?_⟩
        · unfold updI
          split
          · rename_i hnc
            subst hnc
            rw [h0 t hn]
          · exact hn
        · rcases List.mem_cons.1 hd with rfl | hd
          · rw [hc]; rfl
          · exact h3 d hd hk
        · rw [appL_cons, if_pos hk1, hc, Option.getD_some, h5, slice_take, List.take_add, List.drop_drop]
      split at h
      · rename_i u hu
        split at h
        · rename_i hs
          exact key (fun t ht => by rw [hu] at ht; cases ht; exact sameL_iff.1 hs) h
        · cases h
      · rename_i hu
        exact key (fun t ht => by rw [hu] at ht; cases ht) h
    · rename_i hk1
      split at h
      · rename_i hs
        obtain ⟨h1, h2, h3, e2, h4, h5⟩ := matG_sound h hM
        refine ⟨h1, h2, fun d hd hk => ?_, 1 + e2, by omega, ?_⟩
        · rcases List.mem_cons.1 hd with rfl | hd
          · exact absurd hk hk1
          · exact h3 d hd hk
        · rw [appL_cons, if_neg hk1, h5, List.take_add, List.drop_drop, List.drop_eq_getElem_cons hk, cellEq_iff.1 hs, hdk]
          rfl
      · cases h
theorem sortI_perm (l : List Int) : (sortI l).Perm l := List.mergeSort_perm _ _
theorem sortI_le (l : List Int) : (sortI l).Pairwise (· ≤ ·) := by
  have := List.pairwise_mergeSort (le := fun x y : Int => decide (x ≤ y)) (fun a b c h1 h2 => by simp only [decide_eq_true_eq] at *; omega) (fun a b => by simp only [Bool.or_eq_true, decide_eq_true_eq]; omega) l
  exact this.imp fun h => by simpa using h
theorem sortI_lt {l : List Int} (h : l.Nodup) : (sortI l).Pairwise (· < ·) := by
  have h1 := sortI_le l
  have h2 : (sortI l).Nodup := (sortI_perm l).nodup_iff.2 h
  exact (List.pairwise_and_iff.2 ⟨h1, h2⟩).imp fun ⟨h3, h4⟩ => by omega
theorem outG_mem {M : Int → Option (List Cell)} {p : Int × List Cell} : ∀ {l : List Int}, p ∈ outG M l → p.1 ∈ l ∧ M p.1 = some p.2 ∧ headV p.2 p.1 = false
  | [], h => by simp [outG] at h
  | n :: l, h => by
    rw [outG] at h
    split at h
    · rename_i t ht
      split at h
      · obtain ⟨h1, h2⟩ := outG_mem h
        exact ⟨by simp [h1], h2⟩
      · rename_i hv
        rcases List.mem_cons.1 h with rfl | h
        · exact ⟨by simp, ht, by simpa using hv⟩
        · obtain ⟨h1, h2⟩ := outG_mem h
          exact ⟨by simp [h1], h2⟩
    · obtain ⟨h1, h2⟩ := outG_mem h
      exact ⟨by simp [h1], h2⟩
theorem outG_lt {M : Int → Option (List Cell)} : ∀ {l : List Int}, l.Pairwise (· < ·) → (outG M l).Pairwise fun a b => a.1 < b.1
  | [], h => by simp [outG]
  | n :: l, h => by
    obtain ⟨h1, h2⟩ := List.pairwise_cons.1 h
    rw [outG]
    split
    · split
      · exact outG_lt h2
      · exact List.pairwise_cons.2 ⟨fun p hp => h1 _ (outG_mem hp).1, outG_lt h2⟩
    · exact outG_lt h2
theorem headV_false {t : List Cell} {n : Int} (h : headV t n = false) (hl : 0 < t.length) : ¬ (t.length = 1 ∧ t[0].kind = 1 ∧ t[0].n = n) := by
  cases t with
  | nil => simp at hl
  | cons c t =>
    rintro ⟨_, h1, h2⟩
    simp only [List.getElem_cons_zero] at h1 h2
    simp [headV, h1, h2] at h
theorem matR_some {a b : List Cell} {out : List (Int × List Cell)} (h : matR a b = some out) : ∃ M, matG b a 0 (fun _ => none) = some M ∧ out = outG M (sortI (varsG a [])) := by
  unfold matR at h
  obtain ⟨M, h1, h2⟩ := Option.map_eq_some_iff.1 h
  exact ⟨M, h1, h2.symm⟩
theorem matR_right {a b : List Cell} (ha : RTm a) (hb : RTm b) {out : List (Int × List Cell)} (h : matR a b = some out) : RightB out := by
  obtain ⟨M, hM, rfl⟩ := matR_some h
  obtain ⟨_, h2, h3, _⟩ := matG_sound hM fun n t h => by cases h
  refine ⟨fun p hp => ?_, outG_lt (sortI_lt (varsG_nodup (by simp)))⟩
  obtain ⟨p1, p2, p3⟩ := outG_mem hp
  have ht := h2 _ _ p2
  have hlen := hb.len
  have htl := ht.len
  have htp := ht.pos
  rcases varsG_kind (sortI_mem p1) with h | ⟨c, hc, hk, hn⟩
  · simp at h
  · have hv := (ok_var (ha.ok c hc) hk).2
    rw [hn] at hv
    exact ⟨hv.1, hv.2, ht.pos, by omega, fun c hc => hb.ok c (ht.mem c hc), ht.tk, fun hl => headV_false p3 hl⟩
/-- One of which each variable is turned into another one is matched. -/
theorem matG_ren {g : Int → Int} : ∀ {l : List Cell} {pre : List Cell} {M : Int → Option (List Cell)}, (∀ c ∈ l, c.kind = 1 → c.name = .empty) → (∀ n t, M n = some t → t = [⟨1, .empty, g n⟩]) → ∃ M', matG (pre ++ l.map (mapC g)) l pre.length M = some M'
  | [], pre, M, _, _ => ⟨M, rfl⟩
  | c :: l, pre, M, hl, hM => by
    have e0 : (pre ++ (c :: l).map (mapC g))[pre.length]? = some (mapC g c) := by simp
    have e1 : (pre ++ (c :: l).map (mapC g)).drop pre.length = mapC g c :: l.map (mapC g) := by simp
    have e2 : pre ++ (c :: l).map (mapC g) = (pre ++ [mapC g c]) ++ l.map (mapC g) := by simp
    have e3 : (pre ++ [mapC g c]).length = pre.length + 1 := by simp
    rw [matG, e0]
    dsimp only
    split
    · rename_i hk
      have ec : mapC g c = ⟨1, .empty, g c.n⟩ := by rw [mapC, if_pos hk, hk, hl c (by simp) hk]
      have et : takes ((pre ++ (c :: l).map (mapC g)).drop pre.length) 1 = some 1 := by
        rw [e1, ec]
        simp [takes, arC]
      have es : (((pre ++ (c :: l).map (mapC g)).take (pre.length + 1)).drop pre.length) = [⟨1, .empty, g c.n⟩] := by
        rw [slice_take, e1, ec]
        rfl
      rw [et]
      dsimp only
      rw [es]
      have hgo : ∃ M', matG (pre ++ (c :: l).map (mapC g)) l (pre.length + 1) (updI M c.n [⟨1, .empty, g c.n⟩]) = some M' := by
        rw [e2, ← e3]
        refine matG_ren (fun d hd => hl d (by simp [hd])) fun n t h => ?_
        unfold updI at h
        split at h
        · rename_i hn; cases h; rw [hn]
        · exact hM n t h
      split
      · rename_i u hu
        rw [hM _ _ hu, sameL_iff.2 rfl, if_pos rfl]
        exact hgo
      · exact hgo
    · rename_i hk
      have ec : mapC g c = c := by rw [mapC, if_neg hk]
      rw [ec, cellEq_iff.2 rfl, if_pos rfl]
      have := matG_ren (g := g) (l := l) (pre := pre ++ [mapC g c]) (M := M) (fun d hd => hl d (by simp [hd])) hM
      rw [e3, ec] at this
      rw [show pre ++ (c :: l).map (mapC g) = (pre ++ [c]) ++ l.map (mapC g) by rw [e2, ec]]
      exact this
theorem takes_appL {M : Int → Option (List Cell)} (hM : ∀ n t, M n = some t → takes t 1 = some t.length) : ∀ {l : List Cell} {n : Nat}, takes l n = some l.length → takes (appL M l) n = some (appL M l).length
  | [], n, h => by simpa [appL] using h
  | c :: l, n, h => by
    have hn : 0 < n := by
      rcases Nat.eq_zero_or_pos n with h0 | h0
      · subst h0; have := takes_zero h; simp at this
      · exact h0
    obtain ⟨p, hp, h1⟩ := takes_cons hn h
    simp only [List.length_cons] at hp
    obtain rfl : l.length = p := by omega
    have ih := takes_appL hM h1
    have hcell : takes (c :: appL M l) n = some (c :: appL M l).length := by
      obtain ⟨n, rfl⟩ : ∃ p, n = p + 1 := ⟨n - 1, by omega⟩
      simp only [Nat.add_sub_cancel] at ih
      rw [takes, ih]; simp
    rw [appL_cons]
    split
    · rename_i hk
      cases hc : M c.n with
      | none => exact hcell
      | some t =>
        have ha : arC c = 0 := by unfold arC; rw [if_neg (by omega)]
        rw [ha, Nat.add_zero] at ih
        have := takes_cat (hM _ _ hc) ih
        rw [show 1 + (n - 1) = n by omega] at this
        exact this
    · exact hcell
theorem appL_len {M : Int → Option (List Cell)} (hM : ∀ n t, M n = some t → 1 ≤ t.length) : ∀ (l : List Cell), l.length ≤ (appL M l).length
  | [] => by simp
  | c :: l => by
    have ih := appL_len hM l
    rw [appL_cons, List.length_append, List.length_cons]
    split
    · cases hc : M c.n with
      | none => simp only [Option.getD_none, List.length_cons, List.length_nil]; omega
      | some t => have := hM _ _ hc; simp only [Option.getD_some]; omega
    · simp only [List.length_cons, List.length_nil]; omega
def hd1 (M : Int → Option (List Cell)) (n : Int) : Cell := ((M n).getD []).headD ⟨1, .empty, n⟩
theorem appL_one {M : Int → Option (List Cell)} (hM : ∀ n t, M n = some t → 1 ≤ t.length) : ∀ {l : List Cell}, (∀ c ∈ l, c.kind = 1 → (M c.n).isSome) → (appL M l).length ≤ l.length → appL M l = l.map fun c => if c.kind = 1 then hd1 M c.n else c
  | [], _, _ => rfl
  | c :: l, hs, hl => by
    have ih := appL_len hM l
    rw [appL_cons, List.length_append, List.length_cons] at hl
    rw [appL_cons, List.map_cons]
    by_cases hk : c.kind = 1
    · rw [if_pos hk] at hl ⊢
      rw [if_pos hk]
      obtain ⟨t, ht⟩ := Option.isSome_iff_exists.1 (hs c (by simp) hk)
      have := hM _ _ ht
      rw [ht, Option.getD_some] at hl ⊢
      have h1 : t.length = 1 := by omega
      obtain ⟨x, rfl⟩ := List.length_eq_one_iff.1 h1
      rw [appL_one hM (fun d hd => hs d (by simp [hd])) (by simp only [List.length_cons, List.length_nil] at hl; omega)]
      simp [hd1, ht]
    · rw [if_neg hk] at hl ⊢
      rw [if_neg hk, appL_one hM (fun d hd => hs d (by simp [hd])) (by simp only [List.length_cons, List.length_nil] at hl; omega)]
      rfl
/-- What is matched is made of the first one. -/
theorem matR_app {a b : List Cell} (ha : RTm a) (hb : RTm b) {M : Int → Option (List Cell)} (h : matG b a 0 (fun _ => none) = some M) : appL M a = b := by
  obtain ⟨_, h2, h3, e, h4, h5⟩ := matG_sound h fun n t h => by cases h
  rw [List.drop_zero] at h5
  have h6 := takes_appL (fun n t h => (h2 n t h).tk) ha.tk
  rw [h5] at h6
  have h7 := takes_app (r := b.drop e) h6
  rw [List.take_append_drop, hb.tk] at h7
  have h8 := Option.some.inj h7
  rw [h5]
  rw [List.length_take] at h8
  exact List.take_of_length_le (by omega)
theorem variant_match {a b : List Cell} (ha : RTm a) (hb : RTm b) : sameL (numG a) (numG b) = ((matR a b).isSome && (matR b a).isSome) := by
  have one : ∀ {a b : List Cell}, RTm a → RTm b → numG a = numG b → (matR a b).isSome = true := by
    intro a b ha hb h
    obtain ⟨g, h1, _⟩ := numG_eq h
    obtain ⟨M', h2⟩ := matG_ren (g := g) (l := a) (pre := []) (M := fun _ => none) (fun c hc hk => (ok_var (ha.ok c hc) hk).1) (fun n t h => by cases h)
    rw [List.nil_append, ← h1] at h2
    unfold matR
    rw [show ([] : List Cell).length = 0 from rfl] at h2
    rw [h2]; rfl
  rw [Bool.eq_iff_iff, sameL_iff, Bool.and_eq_true]
  constructor
  · exact fun h => ⟨one ha hb h, one hb ha h.symm⟩
  · rintro ⟨h1, h2⟩
    obtain ⟨o1, h1⟩ := Option.isSome_iff_exists.1 h1
    obtain ⟨o2, h2⟩ := Option.isSome_iff_exists.1 h2
    obtain ⟨M, hM, _⟩ := matR_some h1
    obtain ⟨N, hN, _⟩ := matR_some h2
    have eM := matR_app ha hb hM
    have eN := matR_app hb ha hN
    obtain ⟨_, m2, m3, _⟩ := matG_sound hM fun n t h => by cases h
    obtain ⟨_, n2, n3, _⟩ := matG_sound hN fun n t h => by cases h
    have l1 := appL_len (fun n t h => (m2 n t h).pos) a
    have l2 := appL_len (fun n t h => (n2 n t h).pos) b
    rw [eM] at l1
    rw [eN] at l2
    have f1 := appL_one (fun n t h => (m2 n t h).pos) m3 (by rw [eM]; exact l2)
    have f2 := appL_one (fun n t h => (n2 n t h).pos) n3 (by rw [eN]; exact l1)
    rw [eM] at f1
    rw [eN] at f2
    have hl : a.length = b.length := by omega
    have g1 : ∀ i (h1 : i < a.length) (h2 : i < b.length), b[i] = if a[i].kind = 1 then hd1 M a[i].n else a[i] := by
      intro i h1 h2
      have := congrArg (fun l : List Cell => l[i]?) f1
      simpa [List.getElem?_eq_getElem h1, List.getElem?_eq_getElem h2] using this
    have g2 : ∀ i (h1 : i < a.length) (h2 : i < b.length), a[i] = if b[i].kind = 1 then hd1 N b[i].n else b[i] := by
      intro i h1 h2
      have := congrArg (fun l : List Cell => l[i]?) f2
      simpa [List.getElem?_eq_getElem h1, List.getElem?_eq_getElem h2] using this
    have hv : ∀ i (h1 : i < a.length) (h2 : i < b.length), a[i].kind = 1 → b[i].kind = 1 ∧ b[i] = ⟨1, .empty, (hd1 M a[i].n).n⟩ := by
      intro i h1 h2 hk
      have e1 := g1 i h1 h2
      rw [if_pos hk] at e1
      have hkb : b[i].kind = 1 := by
        by_cases h : b[i].kind = 1
        · exact h
        · have e2 := g2 i h1 h2
          rw [if_neg h] at e2
          rw [e2] at hk; exact absurd hk h
      refine ⟨hkb, ?_⟩
      have hn := (ok_var (hb.ok _ (List.getElem_mem h2)) hkb).1
      have : b[i] = ⟨b[i].kind, b[i].name, b[i].n⟩ := rfl
      rw [this, hkb, hn, e1]
    have hb' : b = a.map (mapC fun n => (hd1 M n).n) := by
      refine List.ext_getElem (by rw [List.length_map, hl]) fun i h2 h1' => ?_
      have h1 : i < a.length := by rw [hl]; exact h2
      rw [List.getElem_map]
      by_cases hk : a[i].kind = 1
      · rw [(hv i h1 h2 hk).2, mapC, if_pos hk, hk, (ok_var (ha.ok _ (List.getElem_mem h1)) hk).1]
      · rw [mapC, if_neg hk, g1 i h1 h2, if_neg hk]
    rw [hb']
    refine (numG_ren fun c hc d hd hk1 hk2 h => ?_).symm
    obtain ⟨i, h1, rfl⟩ := List.getElem_of_mem hc
    obtain ⟨j, h2, rfl⟩ := List.getElem_of_mem hd
    have h1' : i < b.length := by omega
    have h2' : j < b.length := by omega
    have e1 := hv i h1 h1' hk1
    have e2 := hv j h2 h2' hk2
    have e3 := g2 i h1 h1'
    have e4 := g2 j h2 h2'
    rw [if_pos e1.1, e1.2] at e3
    rw [if_pos e2.1, e2.2] at e4
    dsimp only at h e3 e4
    rw [e3, e4, h]
theorem sameL_comm (a b : List Cell) : sameL a b = sameL b a := by
  rw [Bool.eq_iff_iff, sameL_iff, sameL_iff]
  exact ⟨Eq.symm, Eq.symm⟩
end Go.Am.Seat
/-
  THE PLAIN LAW of subterms: the term at a place, and what becomes of it when its variables are put terms for.
-/
namespace Go.Am.Seat
/-- The term at a place. -/
def subT (t : List Cell) (i : Nat) : List Cell := (t.drop i).take ((takes (t.drop i) 1).getD 0)
theorem subT_of {t : List Cell} {i k : Nat} (h : takes (t.drop i) 1 = some k) : subT t i = (t.drop i).take k := by rw [subT, h]; rfl
/-- Terms one behind the other, at their places. -/
theorem posT {t : List Cell} : ∀ {m to q : Nat}, takes (t.drop to) m = some q → (t.drop to).take q = (((posG t to m).map Int.toNat).map (subT t)).flatten
  | 0, to, q, h => by rw [takes_zero h]; simp [posG]
  | m + 1, to, q, h => by
    obtain ⟨p, hp, hpq0, hpq1⟩ := takes_add (a := 1) (b := m) (by rw [show 1 + m = m + 1 by omega]; exact h)
    rw [List.drop_drop] at hpq1
    have ih := posT hpq1
    rw [posG, List.map_cons, List.map_cons, List.flatten_cons, Int.toNat_natCast, subT_of hp]
    have hn : nextG t to = to + p := by rw [nextG, hp]; rfl
    rw [hn, ← ih, ← List.drop_drop, ← List.take_add, show p + (q - p) = q by omega]
theorem subT_fun {t : List Cell} (ht : TOK t) {i : Nat} (hi : i < t.length) : subT t i = t[i] :: ((partsN t i).map (subT t)).flatten := by
  obtain ⟨k, hk⟩ := ht.1 i hi
  rw [subT_of hk]
  rw [List.drop_eq_getElem_cons hi] at hk ⊢
  obtain ⟨p, rfl, h1⟩ := takes_cons (by omega) hk
  rw [List.take_succ_cons]
  congr 1
  rw [partsN, partsG, List.getElem?_eq_getElem hi]
  dsimp only
  unfold arC at h1
  split
  · rename_i hk3
    rw [if_pos hk3, show 1 - 1 + t[i].n.toNat = t[i].n.toNat by omega] at h1
    exact posT h1
  · rename_i hk3
    rw [if_neg hk3] at h1
    rw [takes_zero h1]
    rfl
theorem subT_one {t : List Cell} (ht : TOK t) {i : Nat} (hi : i < t.length) (hk : ¬ t[i].kind = 3) : subT t i = [t[i]] := by
  rw [subT_fun ht hi, partsN, partsG, List.getElem?_eq_getElem hi]
  dsimp only
  rw [if_neg hk]
  rfl
theorem subT_tk {t : List Cell} (ht : TOK t) {i : Nat} (hi : i < t.length) : takes (subT t i) 1 = some (subT t i).length := by
  obtain ⟨k, hk⟩ := ht.1 i hi
  rw [subT_of hk, List.length_take, Nat.min_eq_left (takes_le hk)]
  exact takes_take hk
/-- Terms put for all variables. -/
def appT (s : Int → List Cell) (l : List Cell) : List Cell := l.flatMap fun c => if c.kind = 1 then s c.n else [c]
/-- All that is put is a term. -/
def Terms (s : Int → List Cell) : Prop := ∀ n, takes (s n) 1 = some (s n).length
theorem appT_eq (s : Int → List Cell) (l : List Cell) : appT s l = appL (fun n => some (s n)) l := rfl
theorem appT_tk {s : Int → List Cell} (hs : Terms s) {l : List Cell} {n : Nat} (h : takes l n = some l.length) : takes (appT s l) n = some (appT s l).length :=
  takes_appL (M := fun n => some (s n)) (fun n t h => by cases h; exact hs n) h
theorem appT_append (s : Int → List Cell) (a b : List Cell) : appT s (a ++ b) = appT s a ++ appT s b := by simp [appT]
theorem appT_flatten (s : Int → List Cell) (l : List (List Cell)) : appT s l.flatten = (l.map (appT s)).flatten := by
  induction l with
  | nil => rfl
  | cons a l ih => rw [List.flatten_cons, appT_append, ih, List.map_cons, List.flatten_cons]
/-- What a place becomes. -/
def valS (t : List Cell) (s : Int → List Cell) (i : Nat) : List Cell := appT s (subT t i)
theorem valS_fun {t : List Cell} (ht : TOK t) {s : Int → List Cell} {i : Nat} (hi : i < t.length) (hk : ¬ t[i].kind = 1) : valS t s i = t[i] :: ((partsN t i).map (valS t s)).flatten := by
  rw [valS, subT_fun ht hi]
  have : appT s (t[i] :: ((partsN t i).map (subT t)).flatten) = t[i] :: appT s ((partsN t i).map (subT t)).flatten := by
    simp [appT, hk]
  rw [this, appT_flatten, List.map_map]
  rfl
theorem valS_var {t : List Cell} (ht : TOK t) {s : Int → List Cell} {i : Nat} (hi : i < t.length) (hk : t[i].kind = 1) : valS t s i = s t[i].n := by
  rw [valS, subT_one ht hi (by omega)]
  simp [appT, hk]
theorem valS_tk {t : List Cell} (ht : TOK t) {s : Int → List Cell} (hs : Terms s) {i : Nat} (hi : i < t.length) : takes (valS t s i) 1 = some (valS t s i).length := appT_tk hs (subT_tk ht hi)
/-- Terms one behind the other are told apart. -/
theorem flat_inj : ∀ {a b : List (List Cell)}, (∀ x ∈ a, takes x 1 = some x.length) → (∀ x ∈ b, takes x 1 = some x.length) → a.length = b.length → a.flatten = b.flatten → a = b
  | [], [], _, _, _, _ => rfl
  | [], _ :: _, _, _, h, _ => by simp at h
  | _ :: _, [], _, _, h, _ => by simp at h
  | x :: a, y :: b, ha, hb, hl, h => by
    rw [List.flatten_cons, List.flatten_cons] at h
    have h1 := takes_app (r := a.flatten) (ha x (by simp))
    have h2 := takes_app (r := b.flatten) (hb y (by simp))
    rw [h, h2] at h1
    have hxy : x.length = y.length := (Option.some.inj h1).symm
    obtain ⟨e1, e2⟩ := List.append_inj h hxy
    rw [e1, flat_inj (fun z hz => ha z (by simp [hz])) (fun z hz => hb z (by simp [hz])) (by simpa using hl) e2]
end Go.Am.Seat
/-
  THE PLAIN LAW of joining: what the classes are when two places are made one, and so their parts.
-/
namespace Go.Am.Seat
/-- Two places are of one class. -/
def Cl (n : Nat) (p : Nat → Nat) (i j : Nat) : Prop := i < n ∧ j < n ∧ ∃ r, Root p i r ∧ Root p j r
theorem Cl.symm {n : Nat} {p : Nat → Nat} {i j : Nat} (h : Cl n p i j) : Cl n p j i := let ⟨h1, h2, r, h3, h4⟩ := h; ⟨h2, h1, r, h4, h3⟩
theorem Cl.trans {n : Nat} {p : Nat → Nat} {i j k : Nat} (h : Cl n p i j) (h' : Cl n p j k) : Cl n p i k :=
  let ⟨h1, h2, r, h3, h4⟩ := h; let ⟨_, k2, s, k3, k4⟩ := h'; ⟨h1, k2, r, h3, by rw [h4.uniq k3]; exact k4⟩
theorem Cl.same {n : Nat} {p q : Nat → Nat} (hs : SameC n p q) {i j : Nat} (h : Cl n p i j) : Cl n q i j :=
  let ⟨h1, h2, r, h3, h4⟩ := h; ⟨h1, h2, r, (hs i h1 r).1 h3, (hs j h2 r).1 h4⟩
theorem SameC.symm {n : Nat} {p q : Nat → Nat} (h : SameC n p q) : SameC n q p := fun i hi r => (h i hi r).symm
theorem Cl.union {n : Nat} {p : Nat → Nat} {x y : Nat} (hxy : x ≠ y) (px : p x = x) (py : p y = y) {i j : Nat} (h : Cl n p i j) : Cl n (upd p y x) i j :=
  let ⟨h1, h2, r, h3, h4⟩ := h; ⟨h1, h2, _, union_root hxy px py h3, union_root hxy px py h4⟩
/-- What must be of one class in the end. -/
inductive Con (n : Nat) (p : Nat → Nat) (td : List (Nat × Nat)) : Nat → Nat → Prop
  | cls {i j : Nat} (h : Cl n p i j) : Con n p td i j
  | pair {a b : Nat} (h : (a, b) ∈ td) : Con n p td a b
  | symm {a b : Nat} (h : Con n p td a b) : Con n p td b a
  | trans {a b c : Nat} (h : Con n p td a b) (k : Con n p td b c) : Con n p td a c
theorem Con.mono {n : Nat} {p q : Nat → Nat} {td td' : List (Nat × Nat)} (h1 : ∀ i j, Cl n p i j → Con n q td' i j) (h2 : ∀ a b, (a, b) ∈ td → Con n q td' a b) {i j : Nat} (h : Con n p td i j) : Con n q td' i j := by
  induction h with
  | cls h => exact h1 _ _ h
  | pair h => exact h2 _ _ h
  | symm _ ih => exact .symm ih
  | trans _ _ ih1 ih2 => exact .trans ih1 ih2
theorem Con.nil {n : Nat} {p : Nat → Nat} {i j : Nat} (h : Con n p [] i j) : Cl n p i j := by
  induction h with
  | cls h => exact h
  | pair h => simp at h
  | symm _ ih => exact ih.symm
  | trans _ _ ih1 ih2 => exact ih1.trans ih2
/-- What the classes' own places tell. -/
structure JS (t : List Cell) (p : Nat → Nat) (D N : Nat → Int) : Prop where
  dpos : ∀ r, r < t.length → p r = r → 0 ≤ D r → ∃ (j : Nat) (h : j < t.length), D r = (j : Int) ∧ Root p j r ∧ ¬ t[j].kind = 1
  dneg : ∀ r, r < t.length → p r = r → D r < 0 → ∀ i (h : i < t.length), Root p i r → t[i].kind = 1
  nle : ∀ r, r < t.length → p r = r → ∀ i (h : i < t.length), Root p i r → t[i].kind = 1 → N r ≤ t[i].n
  nin : ∀ r, r < t.length → p r = r → N r = 1000 ∨ ∃ (i : Nat) (h : i < t.length), Root p i r ∧ t[i].kind = 1 ∧ t[i].n = N r
  vars : ∀ i j (hi : i < t.length) (hj : j < t.length), t[i].kind = 1 → t[j].kind = 1 → t[i].n = t[j].n → Cl t.length p i j
theorem JS.same {t : List Cell} {p q : Nat → Nat} {D N : Nat → Int} (h : JS t p D N) (hs : SameC t.length p q) : JS t q D N := by
  refine ⟨fun r hr hf h0 => ?_, fun r hr hf h0 i hi hR => ?_, fun r hr hf i hi hR hk => ?_, fun r hr hf => ?_, fun i j hi hj k1 k2 e => (h.vars i j hi hj k1 k2 e).same hs⟩
  · obtain ⟨j, hj, h1, h2, h3⟩ := h.dpos r hr ((hs.fix hr).2 hf) h0
    exact ⟨j, hj, h1, (hs j hj r).1 h2, h3⟩
  · exact h.dneg r hr ((hs.fix hr).2 hf) h0 i hi ((hs i hi r).2 hR)
  · exact h.nle r hr ((hs.fix hr).2 hf) i hi ((hs i hi r).2 hR) hk
  · rcases h.nin r hr ((hs.fix hr).2 hf) with h1 | ⟨i, hi, h1, h2⟩
    · exact .inl h1
    · exact .inr ⟨i, hi, (hs i hi r).1 h1, h2⟩
/-- Alike: one class's places that are no variables bear the same cell, and their parts are, or must be, of one class. -/
def Coh (t : List Cell) (p : Nat → Nat) (td : List (Nat × Nat)) : Prop := ∀ i j (hi : i < t.length) (hj : j < t.length), Cl t.length p i j → ¬ t[i].kind = 1 → ¬ t[j].kind = 1 →
  t[i] = t[j] ∧ ∀ ab ∈ (partsN t i).zip (partsN t j), Con t.length p td ab.1 ab.2
/-- All that is put makes what is of one class the same. -/
def Resp (t : List Cell) (p : Nat → Nat) (s : Int → List Cell) : Prop := ∀ i j, Cl t.length p i j → valS t s i = valS t s j
theorem union_inv {n m : Nat} {p d : Nat → Nat} (h : UF n m p d) {x y : Nat} (hx : x < n) (hy : y < n) (hxy : x ≠ y) (px : p x = x) (py : p y = y) {i r : Nat} (hi : i < n) (hr : Root (upd p y x) i r) : (r = x ∧ (Root p i x ∨ Root p i y)) ∨ (r ≠ x ∧ r ≠ y ∧ Root p i r) := by
  obtain ⟨s, h1, _⟩ := h.root (d i) i (Nat.le_refl _) hi
  have h2 := (union_root hxy px py h1).uniq hr
  by_cases e : s = y
  · rw [if_pos e] at h2
    exact .inl ⟨h2.symm, .inr (e ▸ h1)⟩
  · rw [if_neg e] at h2
    subst h2
    by_cases ex : s = x
    · exact .inl ⟨ex, .inl (ex ▸ h1)⟩
    · exact .inr ⟨ex, e, h1⟩
theorem JS.union {t : List Cell} {m : Nat} {p d : Nat → Nat} {D N D' : Nat → Int} (h : JS t p D N) (uf : UF t.length m p d) {x y : Nat} (hx : x < t.length) (hy : y < t.length) (hxy : x ≠ y) (px : p x = x) (py : p y = y)
    (hD : ∀ r, r ≠ x → D' r = D r) (hDx : (D' x = D x ∧ 0 ≤ D x) ∨ (D' x = D y ∧ 0 ≤ D y) ∨ (D' x < 0 ∧ D x < 0 ∧ D y < 0)) : JS t (upd p y x) D' (upd N x (minI (N x) (N y))) := by
  have hfix : ∀ r, upd p y x r = r → r ≠ y ∧ p r = r := by
    intro r hf
    by_cases e : r = y
    · subst e; rw [upd_same] at hf; exact absurd hf hxy
    · rw [upd_ne _ _ e] at hf; exact ⟨e, hf⟩
  have toX : ∀ {i}, Root p i x → Root (upd p y x) i x := fun k => by
    have := union_root hxy px py k
    rwa [if_neg hxy] at this
  have toY : ∀ {i}, Root p i y → Root (upd p y x) i x := fun k => by
    have := union_root hxy px py k
    rwa [if_pos rfl] at this
  have toR : ∀ {i r}, r ≠ y → Root p i r → Root (upd p y x) i r := fun hr k => by
    have := union_root hxy px py k
    rwa [if_neg hr] at this
  have hmin : (minI (N x) (N y) = N x ∨ minI (N x) (N y) = N y) ∧ minI (N x) (N y) ≤ N x ∧ minI (N x) (N y) ≤ N y := by
    unfold minI
    split <;> omega
  refine ⟨fun r hr hf h0 => ?_, fun r hr hf h0 i hi hR => ?_, fun r hr hf i hi hR hk => ?_, fun r hr hf => ?_, fun i j hi hj k1 k2 e => (h.vars i j hi hj k1 k2 e).union hxy px py⟩
  · obtain ⟨hry, hf⟩ := hfix r hf
    by_cases e : r = x
    · subst e
      rcases hDx with ⟨e1, e2⟩ | ⟨e1, e2⟩ | ⟨e1, _⟩
      · obtain ⟨j, hj, h1, h2, h3⟩ := h.dpos r hr px e2
        exact ⟨j, hj, e1.trans h1, toX h2, h3⟩
      · obtain ⟨j, hj, h1, h2, h3⟩ := h.dpos y hy py e2
        exact ⟨j, hj, e1.trans h1, toY h2, h3⟩
      · omega
    · rw [hD r e] at h0 ⊢
      obtain ⟨j, hj, h1, h2, h3⟩ := h.dpos r hr hf h0
      exact ⟨j, hj, h1, toR hry h2, h3⟩
  · obtain ⟨hry, hf⟩ := hfix r hf
    rcases union_inv uf hx hy hxy px py hi hR with ⟨rfl, h1⟩ | ⟨h1, h2, h3⟩
    · rcases hDx with ⟨e1, e2⟩ | ⟨e1, e2⟩ | ⟨_, e1, e2⟩
      · omega
      · omega
      · rcases h1 with h1 | h1
        · exact h.dneg r hr px e1 i hi h1
        · exact h.dneg y hy py e2 i hi h1
    · rw [hD r h1] at h0
      exact h.dneg r hr hf h0 i hi h3
  · obtain ⟨hry, hf⟩ := hfix r hf
    rcases union_inv uf hx hy hxy px py hi hR with ⟨rfl, h1⟩ | ⟨h1, h2, h3⟩
    · rw [upd_same]
      rcases h1 with h1 | h1
      · have := h.nle r hr px i hi h1 hk; omega
      · have := h.nle y hy py i hi h1 hk; omega
    · rw [upd_ne _ _ h1]
      exact h.nle r hr hf i hi h3 hk
  · obtain ⟨hry, hf⟩ := hfix r hf
    by_cases e : r = x
    · subst e
      rw [upd_same]
      rcases hmin.1 with e1 | e1
      · rcases h.nin r hr px with h1 | ⟨i, hi, h1, h2, h3⟩
        · exact .inl (e1.trans h1)
        · exact .inr ⟨i, hi, toX h1, h2, h3.trans e1.symm⟩
      · rcases h.nin y hy py with h1 | ⟨i, hi, h1, h2, h3⟩
        · exact .inl (e1.trans h1)
        · exact .inr ⟨i, hi, toY h1, h2, h3.trans e1.symm⟩
    · rw [upd_ne _ _ e]
      rcases h.nin r hr hf with h1 | ⟨i, hi, h1, h2, h3⟩
      · exact .inl h1
      · exact .inr ⟨i, hi, toR hry h1, h2, h3⟩
theorem zip_get {α β : Type} {a : List α} {b : List β} {x : α × β} (h : x ∈ a.zip b) : ∃ k : Nat, a[k]? = some x.1 ∧ b[k]? = some x.2 := by
  obtain ⟨k, hk, e⟩ := List.getElem_of_mem h
  rw [List.getElem_zip] at e
  rw [List.length_zip] at hk
  refine ⟨k, ?_, ?_⟩
  · rw [List.getElem?_eq_getElem (by omega), ← e]
  · rw [List.getElem?_eq_getElem (by omega), ← e]
theorem get_zip {α β : Type} {a : List α} {b : List β} {k : Nat} {x : α} {y : β} (h1 : a[k]? = some x) (h2 : b[k]? = some y) : (x, y) ∈ a.zip b := by
  obtain ⟨k1, e1⟩ := List.getElem?_eq_some_iff.1 h1
  obtain ⟨k2, e2⟩ := List.getElem?_eq_some_iff.1 h2
  refine List.mem_iff_getElem.2 ⟨k, by rw [List.length_zip]; omega, ?_⟩
  rw [List.getElem_zip, e1, e2]
theorem parts_eqlen {t : List Cell} {i j : Nat} (hi : i < t.length) (hj : j < t.length) (h : t[i] = t[j]) : (partsN t i).length = (partsN t j).length := by
  rw [partsN_length hi, partsN_length hj, h]
theorem Coh.union {t : List Cell} {m : Nat} {p d : Nat → Nat} {D N : Nat → Int} {td td' : List (Nat × Nat)} (h : Coh t p td) (hj : JS t p D N) (uf : UF t.length m p d) {x y : Nat} (hx : x < t.length) (hy : y < t.length) (hxy : x ≠ y) (px : p x = x) (py : p y = y)
    (hc : ∀ i j, Con t.length p td i j → Con t.length (upd p y x) td' i j)
    (hD : ∀ i j (hi : i < t.length) (hj : j < t.length), D x = (i : Int) → D y = (j : Int) → t[i] = t[j] ∧ ∀ ab ∈ (partsN t i).zip (partsN t j), ab ∈ td') : Coh t (upd p y x) td' := by
  -- one of each class
  have cross : ∀ i j (hi : i < t.length) (hj : j < t.length), Root p i x → Root p j y → ¬ t[i].kind = 1 → ¬ t[j].kind = 1 → t[i] = t[j] ∧ ∀ ab ∈ (partsN t i).zip (partsN t j), Con t.length (upd p y x) td' ab.1 ab.2 := by
    intro i j hi hj' ri rj ki kj
    have dx : 0 ≤ D x := by
      rcases Int.lt_or_le (D x) 0 with h0 | h0
      · exact absurd (hj.dneg x hx px h0 i hi ri) ki
      · exact h0
    have dy : 0 ≤ D y := by
      rcases Int.lt_or_le (D y) 0 with h0 | h0
      · exact absurd (hj.dneg y hy py h0 j hj' rj) kj
      · exact h0
    obtain ⟨u, hu, eu, ru, ku⟩ := hj.dpos x hx px dx
    obtain ⟨v, hv, ev, rv, kv⟩ := hj.dpos y hy py dy
    obtain ⟨e0, hz⟩ := hD u v hu hv eu ev
    obtain ⟨e1, h1⟩ := h i u hi hu ⟨hi, hu, x, ri, ru⟩ ki ku
    obtain ⟨e2, h2⟩ := h v j hv hj' ⟨hv, hj', y, rv, rj⟩ kv kj
    refine ⟨e1.trans (e0.trans e2), fun ab hab => ?_⟩
    obtain ⟨k, k1, k2⟩ := zip_get hab
    have lu := parts_eqlen hi hu e1
    have lv := parts_eqlen hv hj' e2
    have luv := parts_eqlen hu hv e0
    have hk1 := (List.getElem?_eq_some_iff.1 k1).1
    have hk2 : k < (partsN t u).length := by omega
    have hk3 : k < (partsN t v).length := by omega
    have g1 := List.getElem?_eq_getElem hk2
    have g2 := List.getElem?_eq_getElem hk3
    have c1 := hc _ _ (h1 (ab.1, (partsN t u)[k]) (get_zip k1 g1))
    have c2 := hc _ _ (h2 ((partsN t v)[k], ab.2) (get_zip g2 k2))
    exact c1.trans ((Con.pair (hz _ (get_zip g1 g2))).trans c2)
  have flip : ∀ {i j : Nat} {td : List (Nat × Nat)} {p : Nat → Nat}, (∀ ab ∈ (partsN t i).zip (partsN t j), Con t.length p td ab.1 ab.2) → ∀ ab ∈ (partsN t j).zip (partsN t i), Con t.length p td ab.1 ab.2 := by
    intro i j td p h ab hab
    obtain ⟨k, k1, k2⟩ := zip_get hab
    exact (h (ab.2, ab.1) (get_zip k2 k1)).symm
  intro i j hi hj' hcl ki kj
  obtain ⟨_, _, r, r1, r2⟩ := hcl
  have old : ∀ {r}, Root p i r → Root p j r → t[i] = t[j] ∧ ∀ ab ∈ (partsN t i).zip (partsN t j), Con t.length (upd p y x) td' ab.1 ab.2 := fun k1 k2 => by
    obtain ⟨e1, h1⟩ := h i j hi hj' ⟨hi, hj', _, k1, k2⟩ ki kj
    exact ⟨e1, fun ab hab => hc _ _ (h1 ab hab)⟩
  rcases union_inv uf hx hy hxy px py hi r1 with ⟨e1, h1⟩ | ⟨h1, h2, h3⟩
  · rcases union_inv uf hx hy hxy px py hj' r2 with ⟨_, h4⟩ | ⟨h4, _, _⟩
    · rcases h1 with h1 | h1 <;> rcases h4 with h4 | h4
      · exact old h1 h4
      · exact cross i j hi hj' h1 h4 ki kj
      · obtain ⟨e5, h5⟩ := cross j i hj' hi h4 h1 kj ki
        exact ⟨e5.symm, flip h5⟩
      · exact old h1 h4
    · exact absurd e1 h4
  · rcases union_inv uf hx hy hxy px py hj' r2 with ⟨e4, h4⟩ | ⟨h4, _, h6⟩
    · exact absurd e4 h1
    · exact old h3 h6
end Go.Am.Seat
/-
  THE PLAIN LAW of joining: it ends, and what it tells.
-/
namespace Go.Am.Seat
theorem Coh.to {t : List Cell} {p q : Nat → Nat} {td td' : List (Nat × Nat)} (h : Coh t p td) (h1 : ∀ i j, Cl t.length q i j → Cl t.length p i j) (h2 : ∀ i j, Con t.length p td i j → Con t.length q td' i j) : Coh t q td' := fun i j hi hj hc ki kj =>
  ⟨(h i j hi hj (h1 i j hc) ki kj).1, fun ab hab => h2 _ _ ((h i j hi hj (h1 i j hc) ki kj).2 ab hab)⟩
theorem Resp.to {t : List Cell} {p q : Nat → Nat} {s : Int → List Cell} (h : Resp t p s) (h1 : ∀ i j, Cl t.length q i j → Cl t.length p i j) : Resp t q s := fun i j hc => h i j (h1 i j hc)
theorem Resp.union {t : List Cell} {m : Nat} {p d : Nat → Nat} {s : Int → List Cell} (h : Resp t p s) (uf : UF t.length m p d) {x y : Nat} (hx : x < t.length) (hy : y < t.length) (hxy : x ≠ y) (px : p x = x) (py : p y = y) (hv : valS t s x = valS t s y) : Resp t (upd p y x) s := by
  rintro i j ⟨hi, hj, r, r1, r2⟩
  have toX : ∀ {k}, k < t.length → (Root p k x ∨ Root p k y) → valS t s k = valS t s x := by
    intro k hk h'
    rcases h' with h' | h'
    · exact h k x ⟨hk, hx, x, h', .here px⟩
    · rw [hv]; exact h k y ⟨hk, hy, y, h', .here py⟩
  rcases union_inv uf hx hy hxy px py hi r1 with ⟨e1, h1⟩ | ⟨h1, h2, h3⟩
  · rcases union_inv uf hx hy hxy px py hj r2 with ⟨_, h4⟩ | ⟨h4, _, _⟩
    · rw [toX hi h1, toX hj h4]
    · exact absurd e1 h4
  · rcases union_inv uf hx hy hxy px py hj r2 with ⟨e4, _⟩ | ⟨_, _, h6⟩
    · exact absurd e4 h1
    · exact h i j ⟨hi, hj, r, h3, h6⟩
theorem valS_parts {t : List Cell} (ht : TOK t) {s : Int → List Cell} (hs : Terms s) {i j : Nat} (hi : i < t.length) (hj : j < t.length) (ki : ¬ t[i].kind = 1) (kj : ¬ t[j].kind = 1) (h : valS t s i = valS t s j) : t[i] = t[j] ∧ ∀ ab ∈ (partsN t i).zip (partsN t j), valS t s ab.1 = valS t s ab.2 := by
  rw [valS_fun ht hi ki, valS_fun ht hj kj] at h
  obtain ⟨e1, e2⟩ := List.cons.inj h
  have hl := parts_eqlen hi hj e1
  have e3 := flat_inj (fun x hx => by
    obtain ⟨k, hk, rfl⟩ := List.mem_map.1 hx
    exact valS_tk ht hs (partsN_lt ht hi k hk).1) (fun x hx => by
    obtain ⟨k, hk, rfl⟩ := List.mem_map.1 hx
    exact valS_tk ht hs (partsN_lt ht hj k hk).1) (by rw [List.length_map, List.length_map, hl]) e2
  refine ⟨e1, fun ab hab => ?_⟩
  obtain ⟨k, k1, k2⟩ := zip_get hab
  have := congrArg (fun l : List (List Cell) => l[k]?) e3
  simpa [k1, k2] using this
theorem takes_ge : ∀ {l : List Cell} {m q : Nat}, takes l m = some q → m ≤ q
  | l, 0, q, _ => Nat.zero_le _
  | [], m + 1, q, h => (takes_nil (by omega) h).elim
  | c :: l, m + 1, q, h => by
    obtain ⟨p, rfl, h1⟩ := takes_cons (by omega) h
    have := takes_ge h1
    omega
theorem parts_le {t : List Cell} (ht : TOK t) {i : Nat} (hi : i < t.length) : (partsN t i).length ≤ t.length := by
  obtain ⟨k, hk⟩ := ht.1 i hi
  have hle := takes_le hk
  rw [List.drop_eq_getElem_cons hi] at hk
  obtain ⟨p, rfl, h1⟩ := takes_cons (by omega) hk
  have := takes_ge h1
  rw [partsN_length hi]
  rw [List.length_drop] at hle
  unfold arC at this
  split
  · rename_i h3
    rw [if_pos h3] at this
    omega
  · omega
theorem joinF_law {t : List Cell} (ht : TOK t) : ∀ (F : Nat) {m : Nat} {p d : Nat → Nat} {D N : Nat → Int} {td : List (Nat × Nat)}, UF t.length m p d → JS t p D N → Coh t p td → (∀ ab ∈ td, ab.1 < t.length ∧ ab.2 < t.length) → m + roots p t.length ≤ t.length → roots p t.length * (t.length + 1) + td.length + t.length + 2 ≤ F →
    ∃ ok p' D' N', joinF t F p D N td = some (ok, p', D', N') ∧
      (ok = true → ∃ m' d', UF t.length m' p' d' ∧ m' ≤ t.length ∧ JS t p' D' N' ∧ Coh t p' [] ∧ ∀ i j, Con t.length p td i j → Cl t.length p' i j) ∧
      ∀ s, Terms s → Resp t p s → (∀ ab ∈ td, valS t s ab.1 = valS t s ab.2) → ok = true ∧ Resp t p' s
  | 0, m, p, d, D, N, td, _, _, _, _, _, hF => by omega
  | F + 1, m, p, d, D, N, td, uf, js, co, hlt, hm, hF => by
    rcases List.eq_nil_or_concat td with rfl | ⟨td0, ⟨a, b⟩, rfl⟩
    · exact ⟨true, p, D, N, rfl, fun _ => ⟨m, d, uf, by omega, js, co, fun i j h => h.nil⟩, fun s _ h _ => ⟨rfl, h⟩⟩
    rw [List.concat_eq_append] at *
    obtain ⟨ha, hb⟩ := hlt (a, b) (by simp)
    dsimp only at ha hb
    have hlt0 : ∀ ab ∈ td0, ab.1 < t.length ∧ ab.2 < t.length := fun ab h => hlt ab (by simp [h])
    rw [List.length_append, List.length_cons, List.length_nil] at hF
    obtain ⟨x, p1, e1, x1, x2, uf1, s1⟩ := own1_law (F := F) uf ha (by have := uf.le a ha; omega)
    obtain ⟨y, p2, e2, y1, y2, uf2, s2⟩ := own1_law (F := F) uf1 hb (by have := uf.le b hb; omega)
    have hs := s1.trans s2
    have rx : Root p2 a x := (hs a ha x).1 x1
    have ry : Root p2 b y := (s2 b hb y).1 y1
    have px := rx.fix
    have py := ry.fix
    have js2 := js.same hs
    have hr2 : roots p2 t.length = roots p t.length := (roots_congr fun i hi => hs.fix hi).symm
    simp only [joinF, List.getLast?_append, List.getLast?_singleton, Option.some_or, List.dropLast_concat, e1, e2]
    have hcl : ∀ i j, Cl t.length p i j → Cl t.length p2 i j := fun i j h => h.same hs
    have hcl' : ∀ i j, Cl t.length p2 i j → Cl t.length p i j := fun i j h => h.same hs.symm
    by_cases hxy : x = y
    · rw [if_pos hxy]
      have hab : Cl t.length p2 a b := ⟨ha, hb, x, rx, hxy ▸ ry⟩
      have hcon : ∀ i j, Con t.length p (td0 ++ [(a, b)]) i j → Con t.length p2 td0 i j := fun i j h => h.mono (fun i j h => .cls (hcl i j h)) fun c e h => by
        rcases List.mem_append.1 h with h | h
        · exact .pair h
        · simp only [List.mem_singleton, Prod.mk.injEq] at h
          rw [h.1, h.2]; exact .cls hab
      obtain ⟨ok, p', D', N', k1, k2, k3⟩ := joinF_law ht F (td := td0) uf2 js2 (co.to hcl' hcon) hlt0 (by omega) (by rw [hr2]; omega)
      refine ⟨ok, p', D', N', k1, fun h => ?_, fun s h1 h2 h3 => k3 s h1 (h2.to hcl') fun ab h => h3 ab (by simp [h])⟩
      obtain ⟨m', d', q1, q2, q3, q4, q5⟩ := k2 h
      exact ⟨m', d', q1, q2, q3, q4, fun i j h => q5 i j (hcon i j h)⟩
    rw [if_neg hxy]
    obtain ⟨d3, uf3⟩ := uf2.union x2 y2 hxy px py
    have hr3 := roots_union (p := p2) hxy py y2
    have cx := union_root hxy px py rx
    have cy := union_root hxy px py ry
    rw [if_neg hxy] at cx
    rw [if_pos rfl] at cy
    have hab : Cl t.length (upd p2 y x) a b := ⟨ha, hb, x, cx, cy⟩
    have hcon2 : ∀ i j, Con t.length p (td0 ++ [(a, b)]) i j → Con t.length p2 (td0 ++ [(a, b)]) i j := fun i j h => h.mono (fun i j h => .cls (hcl i j h)) fun c e h => .pair h
    have co2 : Coh t p2 (td0 ++ [(a, b)]) := co.to hcl' hcon2
    have hcu : ∀ td', (∀ ab ∈ td0, ab ∈ td') → ∀ i j, Con t.length p2 (td0 ++ [(a, b)]) i j → Con t.length (upd p2 y x) td' i j := fun td' hsub i j h => h.mono (fun i j h => .cls (h.union hxy px py)) fun c e h => by
      rcases List.mem_append.1 h with h | h
      · exact .pair (hsub _ h)
      · simp only [List.mem_singleton, Prod.mk.injEq] at h
        rw [h.1, h.2]; exact .cls hab
    have hvxy : ∀ s, Resp t p s → valS t s a = valS t s b → valS t s x = valS t s y := fun s h e => by
      have h1 := h a x (hcl' _ _ ⟨ha, x2, x, rx, .here px⟩)
      have h2 := h b y (hcl' _ _ ⟨hb, y2, y, ry, .here py⟩)
      rw [← h1, ← h2, e]
    have go : ∀ {D'' : Nat → Int} {td' : List (Nat × Nat)}, (∀ ab ∈ td0, ab ∈ td') → JS t (upd p2 y x) D'' (upd N x (minI (N x) (N y))) → Coh t (upd p2 y x) td' → (∀ ab ∈ td', ab.1 < t.length ∧ ab.2 < t.length) → td'.length ≤ td0.length + t.length →
        (∀ s, Terms s → Resp t p s → valS t s a = valS t s b → (∀ ab ∈ td0, valS t s ab.1 = valS t s ab.2) → ∀ ab ∈ td', valS t s ab.1 = valS t s ab.2) →
        ∃ ok p' D' N', joinF t F (upd p2 y x) D'' (upd N x (minI (N x) (N y))) td' = some (ok, p', D', N') ∧
          (ok = true → ∃ m' d', UF t.length m' p' d' ∧ m' ≤ t.length ∧ JS t p' D' N' ∧ Coh t p' [] ∧ ∀ i j, Con t.length p (td0 ++ [(a, b)]) i j → Cl t.length p' i j) ∧
          ∀ s, Terms s → Resp t p s → (∀ ab ∈ td0 ++ [(a, b)], valS t s ab.1 = valS t s ab.2) → ok = true ∧ Resp t p' s := by
      intro D'' td' hsub js3 co3 hlt' hlen hval
      have hfuel : roots (upd p2 y x) t.length * (t.length + 1) + td'.length + t.length + 2 ≤ F := by
        have e : roots p t.length * (t.length + 1) = roots (upd p2 y x) t.length * (t.length + 1) + (t.length + 1) := by
          rw [← hr2, ← hr3, Nat.add_mul, Nat.one_mul]
        omega
      obtain ⟨ok, p', D', N', k1, k2, k3⟩ := joinF_law ht F (td := td') uf3 js3 co3 hlt' (by omega) hfuel
      refine ⟨ok, p', D', N', k1, fun h => ?_, fun s h1 h2 h3 => ?_⟩
      · obtain ⟨m', d', q1, q2, q3, q4, q5⟩ := k2 h
        exact ⟨m', d', q1, q2, q3, q4, fun i j h => q5 i j (hcu td' hsub i j (hcon2 i j h))⟩
      · have e := h3 (a, b) (by simp)
        exact k3 s h1 ((h2.to hcl').union uf2 x2 y2 hxy px py (hvxy s h2 e)) (hval s h1 h2 e fun ab h => h3 ab (by simp [h]))
    by_cases dy : D y < 0
    · rw [if_pos dy]
      refine go (fun _ h => h) (js2.union uf2 x2 y2 hxy px py (fun _ _ => rfl) ?_) (co2.union js2 uf2 x2 y2 hxy px py (hcu td0 fun _ h => h) fun i j hi hj e1 e2 => by omega) hlt0 (by omega) (fun s _ _ _ h => h)
      rcases Int.lt_or_le (D x) 0 with h0 | h0
      · exact .inr (.inr ⟨h0, h0, dy⟩)
      · exact .inl ⟨rfl, h0⟩
    rw [if_neg dy]
    by_cases dx : D x < 0
    · rw [if_pos dx]
      refine go (fun _ h => h) (js2.union uf2 x2 y2 hxy px py (fun r h => upd_ne _ _ h) (.inr (.inl ⟨upd_same _ _ _, by omega⟩))) (co2.union js2 uf2 x2 y2 hxy px py (hcu td0 fun _ h => h) fun i j hi hj e1 e2 => by omega) hlt0 (by omega) (fun s _ _ _ h => h)
    rw [if_neg dx]
    obtain ⟨u, hu, eu, ru, ku⟩ := js2.dpos x x2 px (by omega)
    obtain ⟨v, hv, ev, rv, kv⟩ := js2.dpos y y2 py (by omega)
    rw [eu, ev, Int.toNat_natCast, Int.toNat_natCast, List.getElem?_eq_getElem hu, List.getElem?_eq_getElem hv]
    dsimp only
    have hval : ∀ s, Terms s → Resp t p s → valS t s a = valS t s b → t[u] = t[v] ∧ ∀ ab ∈ (partsN t u).zip (partsN t v), valS t s ab.1 = valS t s ab.2 := fun s h1 h2 e => by
      refine valS_parts ht h1 hu hv ku kv ?_
      have h3 := h2 u x (hcl' _ _ ⟨hu, x2, x, ru, .here px⟩)
      have h4 := h2 v y (hcl' _ _ ⟨hv, y2, y, rv, .here py⟩)
      rw [h3, h4, hvxy s h2 e]
    by_cases hc : cellEq t[u] t[v] = true
    · rw [if_pos hc]
      have hce := cellEq_iff.1 hc
      have hlz : ((partsN t u).zip (partsN t v)).length ≤ t.length := by
        have := parts_le ht hu
        rw [List.length_zip]; omega
      refine go (fun _ h => by simp [h]) (js2.union uf2 x2 y2 hxy px py (fun _ _ => rfl) (.inl ⟨rfl, by omega⟩)) (co2.union js2 uf2 x2 y2 hxy px py (hcu _ fun _ h => by simp [h]) fun i j hi hj e1 e2 => ?_) (fun ab h => ?_) (by rw [List.length_append]; omega) (fun s h1 h2 e h ab hab => ?_)
      · have : i = u := by omega
        have : j = v := by omega
        subst i j
        exact ⟨hce, fun ab h => by simp [h]⟩
      · rcases List.mem_append.1 h with h | h
        · exact hlt0 ab h
        · have := List.of_mem_zip (a := ab.1) (b := ab.2) h
          exact ⟨(partsN_lt ht hu _ this.1).1, (partsN_lt ht hv _ this.2).1⟩
      · rcases List.mem_append.1 hab with h' | h'
        · exact h ab h'
        · exact (hval s h1 h2 e).2 ab h'
    · rw [if_neg hc]
      exact ⟨false, _, _, _, rfl, fun h => absurd h (by decide), fun s h1 h2 h3 => absurd (cellEq_iff.2 (hval s h1 h2 (h3 (a, b) (by simp))).1) hc⟩
end Go.Am.Seat
/-
  MADE BY PROGRAM (am.py): the walks of functions 66.
-/
namespace Go.Am.Seat
open Go.Proofs

/-- The row of classes, as a value. -/
def scN (n : Nat) (c : Nat → Nat) : Sc := .sl n ((List.range n).map fun i => .int .i64 (c i : Int))
theorem scN_gsl (n : Nat) (c : Nat → Nat) : GSl encI (scN n c) ((List.range n).map fun i => (c i : Int)) := arr_gsl
theorem idxN {n : Nat} {c : Nat → Nat} {i : Nat} (hi : i < n) : ∃ r, aIndex T 36 (.av (.sc (scN n c))) (vI i) = some (.av (.sc (.cptr (.int .i64 (c i : Int) :: r)))) := by
  have := idxI (scN_gsl n c) (i := i) (by simpa using hi)
  rw [List.getElem_map, List.getElem_range] at this
  exact ⟨_, this⟩
theorem lenN (n : Nat) (c : Nat → Nat) (ob : Nat → Obj) : aLen T ob 36 (.av (.sc (scN n c))) = some (vI n) := by
  have := lenI (scN_gsl n c) ob
  simpa using this
theorem lenO36 {ob : Nat → Obj} {id n : Nat} : aLen T ob 36 (.av (.own id 0 n 1)) = some (vI n) := by simp [aLen, T36, y36, vI]
theorem appN0 {ob : Nat → Obj} {nid id n : Nat} {c : Nat → Nat} (h : ob id = .cs [] 0) (hl : 0 < n) (hn : n ≤ 1000000000) : aAppend T ob nid 36 (.av (.own id 0 0 1)) (.av (.sc (scN n c))) = some (.av (.own nid 0 n 1), upd (upd ob id .dead) nid (.cs (arrN n c) 0)) := by
  unfold aAppend
  simp only [T36, Option.bind_some, y36, T3, aSrc, scN]
  rw [if_pos (by simp [y3])]
  simp only [Option.bind_some]
  rw [if_neg (by simp [y3])]
  simp only [h]
  rw [if_pos ⟨by simp [y3], by simp, by omega, by omega⟩, if_neg (by omega)]
  simp [arrN, arr]
  rfl
def oneG (c : Nat → Nat) (a b : Nat) (i : Nat) : Nat := if c i = a then b else c i
theorem scN_congr {n : Nat} {c f : Nat → Nat} (h : ∀ j, j < n → f j = c j) : scN n c = scN n f := by
  unfold scN
  congr 1
  exact List.map_congr_left fun i hi => by rw [h i (List.mem_range.1 hi)]

theorem bod66 : Try.f66.body = some (Try.f66.body.getD .skip) := rfl
theorem fn66 (L : Loops) (n a b : Nat) (c : Nat → Nat) (s : Me) (hn : 0 < n ∧ n ≤ 1000000) : FnL Try.prog L 66 [.av (.sc (scN n c)), vI a, vI b] s fun r s' => (r = .av (.sc (scN n (oneG c a b)))) ∧ s' = s := by
  refine FnL.pure (R := fun r => r = .av (.sc (scN n (oneG c a b)))) ?_
  refine fn_of_body (ts := [6]) Try.func66 bod66 rfl (by simp) (by simp [Try.ntmps66]) fun D0 => ?_
  unfold Try.f66
  simp only [Option.getD_some, initSl]
  refine aw_region_seq C (pb := false) rfl fun K hK => ?_
  repeat' (first | refine wy1 (a := by simp only [go_sem, ↓reduceIte, Nat.reduceEqDiff, reduceCtorEq, Nat.reduceAdd, Nat.reduceMul, Nat.reduceLeDiff]; exact rfl) (h := ?_) | fail)
  refine awOps_nil (hK _ _ ?_)
  clear hK K
  refine aw_region_seq C (pb := false) rfl fun K hK => ?_
  repeat' (first | refine wy1 (a := by simp only [go_sem, ↓reduceIte, Nat.reduceEqDiff, reduceCtorEq, Nat.reduceAdd, Nat.reduceMul, Nat.reduceLeDiff]; exact rfl) (h := ?_) | fail)
  refine wy2 ((show aop C false _ _ _ _ = aAppend T _ _ 36 _ _ from rfl).trans (appN0 (upd_same _ _ _) hn.1 (by omega))) ?_
  repeat' (first | refine wy1 (a := by simp only [go_sem, ↓reduceIte, Nat.reduceEqDiff, reduceCtorEq, Nat.reduceAdd, Nat.reduceMul, Nat.reduceLeDiff]; exact rfl) (h := ?_) | fail)
  refine awOps_nil (hK _ _ ?_)
  refine AW.less (sl' := [(1, vI a), (2, vI b), (7, .av (.own (s.nx + 1 + 1 + 1) 0 n 1))]) (AllIn.less ⟨rfl, rfl, rfl, trivial⟩) ?_
  obtain ⟨id, hid⟩ : ∃ id, id = s.nx + 3 := ⟨_, rfl⟩
  refine aw_state (J := fun s2 => Kp s s2 ∧ id < s2.nx ∧ s2.ob id = .cs (arrN n c) 0) ⟨⟨(by first | omega | (dsimp only; omega) | (dsimp only at *; omega)), fun j hj => (upd_ne _ _ (by omega)).trans ((upd_ne _ _ (by omega)).trans (upd_ne _ _ (by omega))), rfl⟩, (by first | omega | (dsimp only; omega) | (dsimp only at *; omega)), by rw [hid]; exact upd_same _ _ _⟩ fun s2 hJ => ?_
  rw [show s.nx + 1 + 1 + 1 = id from hid.symm]
  clear hK K
  refine aw_seq ?_
  refine aw_region_seq C (pb := false) rfl fun K hK => ?_
  repeat' (first | refine wy1 (a := by simp only [go_sem, ↓reduceIte, Nat.reduceEqDiff, reduceCtorEq, Nat.reduceAdd, Nat.reduceMul, Nat.reduceLeDiff]; exact rfl) (h := ?_) | fail)
  refine awOps_nil (hK _ _ ?_)
  clear hK K
  refine aw_block ?_
  refine AW.less (sl' := [(1, vI a), (2, vI b), (7, .av (.own id 0 n 1)), (8, vI (0))]) (AllIn.less ⟨rfl, rfl, rfl, rfl, trivial⟩) (aw_loop (fun k sl1 s1 => ∃ (i : Nat) (f : Nat → Nat), k = n - i ∧ sl1 = [(1, vI a), (2, vI b), (7, .av (.own id 0 n 1)), (8, vI (i))] ∧ (Kp s s1 ∧ id < s1.nx ∧ s1.ob id = .cs (arrN n f) 0) ∧ (i ≤ n) ∧ (∀ j, j < n → f j = if j < i then oneG c a b j else c j)) (k := n - (0)) ⟨0, c, rfl, rfl, ⟨hJ.1.up (by first | omega | (dsimp only; omega) | (dsimp only at *; omega)), by have := hJ.2.1; exact (by first | omega | (dsimp only; omega) | (dsimp only at *; omega)), hJ.2.2⟩, Nat.zero_le _, fun j hj => by rw [if_neg (by omega)]⟩ ?_)
  rintro k1 _ s1 ⟨i, f, hk1, rfl, hs1, hb, hf⟩
  refine aw_seq ?_
  refine aw_region_seq C (pb := false) rfl fun K hK => ?_
  repeat' (first | refine wy1 (a := by simp only [go_sem, ↓reduceIte, Nat.reduceEqDiff, reduceCtorEq, Nat.reduceAdd, Nat.reduceMul, Nat.reduceLeDiff, lenO36]; exact rfl) (h := ?_) | fail)
  refine awOps_nil (hK _ _ ?_)
  clear hK K
  refine aw_cond (by rfl) ?_ ?_
  · intro hc0
    try simp only [decide_eq_true_eq, decide_eq_false_iff_not] at hc0
    have hi2 : i < n := by omega
    refine aw_skip ?_
    simp only [thenA_normal, thenA_ret, thenA_exit, blockA_normal, blockA_ret, blockA_exit, ↓reduceIte, Nat.reduceEqDiff]
    refine aw_seq ?_
    refine aw_block ?_
    refine aw_region_seq C (pb := false) rfl fun K hK => ?_
    repeat' (first | refine wy1 (a := by simp only [go_sem, ↓reduceIte, Nat.reduceEqDiff, reduceCtorEq, Nat.reduceAdd, Nat.reduceMul, Nat.reduceLeDiff, ixO hi2, ldN hs1.2.2 hi2]; exact rfl) (h := ?_) | fail)
    refine awOps_nil (hK _ _ ?_)
    clear hK K
    refine aw_cond (by rfl) ?_ ?_
    · intro hc1
      try simp only [beq_iff_eq, beq_eq_false_iff_ne, ne_eq] at hc1
      refine aw_region C (pb := false) rfl ?_
      repeat' (first | refine wy1 (a := by simp only [go_sem, ↓reduceIte, Nat.reduceEqDiff, reduceCtorEq, Nat.reduceAdd, Nat.reduceMul, Nat.reduceLeDiff, ixO hi2, stN hs1.2.2 hi2 (Nat.zero_le _) b]; exact rfl) (h := ?_) | refine wz1 (a := by simp only [go_sem, ↓reduceIte, Nat.reduceEqDiff, reduceCtorEq, Nat.reduceAdd, Nat.reduceMul, Nat.reduceLeDiff, ixO hi2, stN hs1.2.2 hi2 (Nat.zero_le _) b]; exact rfl) (h := ?_) | fail)
      refine awOps_nil ?_
      try simp only [thenA_normal, thenA_ret, thenA_exit, blockA_normal, blockA_ret, blockA_exit]
      refine aw_region C (pb := false) rfl ?_
      repeat' (first | refine wy1 (a := by simp only [go_sem, ↓reduceIte, Nat.reduceEqDiff, reduceCtorEq, Nat.reduceAdd, Nat.reduceMul, Nat.reduceLeDiff, wrap_small ((i : Int) + 1) (by omega) (by omega)]; exact rfl) (h := ?_) | fail)
      refine awOps_nil ?_
      try simp only [thenA_normal, thenA_ret, thenA_exit, blockA_normal, blockA_ret, blockA_exit]
      -- end of round 0 at 0t1t
      refine ⟨n - (i + 1), [(1, vI a), (2, vI b), (7, .av (.own id 0 n 1)), (8, vI (i + 1))], by omega, AllIn.less ⟨rfl, rfl, rfl, rfl, trivial⟩, i + 1, upd f i b, rfl, rfl, ?_, ?_, ?_⟩
      · exact ⟨⟨by have := hs1.1.1; exact (by first | omega | (dsimp only; omega) | (dsimp only at *; omega)), fun j hj => (upd_ne _ _ (by omega)).trans (hs1.1.2.1 j hj), hs1.1.2.2⟩, by have := hs1.2.1; exact (by first | omega | (dsimp only; omega) | (dsimp only at *; omega)), upd_same _ _ _⟩
      · omega
      · intro j hj
        by_cases e : j = i
        · subst e; rw [upd_same, if_pos (by omega), oneG, if_pos (by have := hf j hj; rw [if_neg (by omega)] at this; omega)]
        · rw [upd_ne _ _ e, hf j hj]
          by_cases h : j < i
          · rw [if_pos h, if_pos (by omega)]
          · rw [if_neg h, if_neg (by omega)]
    · intro hc1
      try simp only [beq_iff_eq, beq_eq_false_iff_ne, ne_eq] at hc1
      refine aw_skip ?_
      simp only [thenA_normal, thenA_ret, thenA_exit, blockA_normal, blockA_ret, blockA_exit, ↓reduceIte, Nat.reduceEqDiff]
      refine aw_region C (pb := false) rfl ?_
      repeat' (first | refine wy1 (a := by simp only [go_sem, ↓reduceIte, Nat.reduceEqDiff, reduceCtorEq, Nat.reduceAdd, Nat.reduceMul, Nat.reduceLeDiff, wrap_small ((i : Int) + 1) (by omega) (by omega)]; exact rfl) (h := ?_) | fail)
      refine awOps_nil ?_
      try simp only [thenA_normal, thenA_ret, thenA_exit, blockA_normal, blockA_ret, blockA_exit]
      -- end of round 0 at 0t1f
      refine ⟨n - (i + 1), [(1, vI a), (2, vI b), (7, .av (.own id 0 n 1)), (8, vI (i + 1))], by omega, AllIn.less ⟨rfl, rfl, rfl, rfl, trivial⟩, i + 1, f, rfl, rfl, ?_, ?_, ?_⟩
      · exact ⟨hs1.1.up (by first | omega | (dsimp only; omega) | (dsimp only at *; omega)), by have := hs1.2.1; exact (by first | omega | (dsimp only; omega) | (dsimp only at *; omega)), hs1.2.2⟩
      · omega
      · intro j hj
        rw [hf j hj]
        by_cases e : j = i
        · subst e; rw [if_neg (by omega), if_pos (by omega), oneG, if_neg (by have := hf j hj; rw [if_neg (by omega)] at this; omega)]
        · by_cases h : j < i
          · rw [if_pos h, if_pos (by omega)]
          · rw [if_neg h, if_neg (by omega)]
  · intro hc0
    try simp only [decide_eq_true_eq, decide_eq_false_iff_not] at hc0
    refine aw_exit ?_
    simp only [thenA_normal, thenA_ret, thenA_exit, blockA_normal, blockA_ret, blockA_exit, ↓reduceIte, Nat.reduceEqDiff]
    refine aw_pur 7 (arr_pure hs1.2.2) ?_
    refine aw_region_seq C (pb := false) rfl fun K hK => ?_
    repeat' (first | refine wy1 (a := by simp only [go_sem, ↓reduceIte, Nat.reduceEqDiff, reduceCtorEq, Nat.reduceAdd, Nat.reduceMul, Nat.reduceLeDiff]; exact rfl) (h := ?_) | fail)
    refine awOps_nil (hK _ _ ?_)
    clear hK K
    refine aw_ret ?_
    simp only [go_sem, ↓reduceIte, Nat.reduceEqDiff, reduceCtorEq, Nat.reduceAdd, Nat.reduceMul, Nat.reduceLeDiff, FnQ, resA]
    -- 0f.x0.ret
    refine fun _ => ⟨by first | rfl | trivial, fun j hj => (upd_ne _ _ (by omega)).trans (hs1.1.2.1 j hj), hs1.1.2.2, ?_⟩
    rw [scN_congr (f := f) fun j hj => by rw [hf j hj, if_pos (by omega)]]
    rfl
end Go.Am.Seat
/-
  MADE BY PROGRAM (am.py): the walks of functions 67.
-/
namespace Go.Am.Seat
open Go.Proofs

/-- Two places that must be of one class, and are not. -/
def Must (t : List Cell) (c : Nat → Nat) (a b : Nat) : Prop := a < t.length ∧ b < t.length ∧ c a ≠ c b ∧ ((∃ (ha : a < t.length) (hb : b < t.length), t[a].kind = 1 ∧ t[a] = t[b]) ∨ ∃ (i j : Nat) (hi : i < t.length) (hj : j < t.length), c i = c j ∧ t[i] = t[j] ∧ t[i].kind = 3 ∧ (a, b) ∈ (partsN t i).zip (partsN t j))
/-- All that must be of one class with two places is. -/
def Clo (t : List Cell) (c : Nat → Nat) (i j : Nat) : Prop := ∀ (hi : i < t.length) (hj : j < t.length), t[i] = t[j] → (t[i].kind = 1 → c i = c j) ∧ (c i = c j → t[i].kind = 3 → ∀ ab ∈ (partsN t i).zip (partsN t j), c ab.1 = c ab.2)
theorem idxP {t : List Cell} {i k : Nat} {y : Sc} (hy : GSl encI y (partsG t i)) (hk : k < (partsN t i).length) : ∃ r, aIndex T 36 (.av (.sc y)) (vI k) = some (.av (.sc (.cptr (.int .i64 ((partsN t i)[k] : Int) :: r)))) := by
  have hk2 : k < (partsG t i).length := by rw [← partsN_len]; exact hk
  have := idxI hy hk2
  rw [partsN_get hk2] at this
  exact ⟨_, this⟩

theorem get_zip' {α β : Type} {a : List α} {b : List β} {k : Nat} (h1 : k < a.length) (h2 : k < b.length) : (a[k], b[k]) ∈ a.zip b := by
  refine List.mem_iff_getElem.2 ⟨k, by rw [List.length_zip]; omega, ?_⟩
  rw [List.getElem_zip]

-- many steps
theorem bod67 : Try.f67.body = some (Try.f67.body.getD .skip) := rfl
set_option maxHeartbeats 1000000 in
theorem fn67 (L : Loops) (t : List Cell) (n : Nat) (c : Nat → Nat) (s : Me) (x : Sc) (hx : GSl encC x t) (hn : n = t.length) (hl : n ≤ 1000000) (ht : TOK t) : FnL Try.prog L 67 [.av (.sc x), .av (.sc (scN n c))] s fun r s' => (∃ (a b : Nat) (w : Bool), r = .tup [vI a, vI b, vB w] ∧ (w = true → Must t c a b) ∧ (w = false → ∀ i j, j < i → Clo t c i j)) ∧ s' = s := by
  refine FnL.pure (R := fun r => ∃ (a b : Nat) (w : Bool), r = .tup [vI a, vI b, vB w] ∧ (w = true → Must t c a b) ∧ (w = false → ∀ i j, j < i → Clo t c i j)) ?_
  refine fn_of_body (ts := [4, 5, 6]) Try.func67 bod67 rfl (by simp) (by simp [Try.ntmps67]) fun D0 => ?_
  unfold Try.f67
  simp only [Option.getD_some, initSl]
  refine aw_region_seq C (pb := false) rfl fun K hK => ?_
  repeat' (first | refine wy0 (h := ?_) | fail)
  refine awOps_nil (hK _ _ ?_)
  clear hK K
  refine aw_seq ?_
  refine aw_region_seq C (pb := false) rfl fun K hK => ?_
  repeat' (first | refine wy0 (h := ?_) | fail)
  refine awOps_nil (hK _ _ ?_)
  clear hK K
  refine aw_block ?_
  refine AW.less (sl' := [(0, .av (.sc x)), (1, .av (.sc (scN n c))), (7, vI (0))]) (AllIn.less ⟨rfl, rfl, rfl, trivial⟩) (aw_loop (fun k sl1 s1 => ∃ (i : Nat), k = n - i ∧ sl1 = [(0, .av (.sc x)), (1, .av (.sc (scN n c))), (7, vI (i))] ∧ (Kp s s1) ∧ (i ≤ n) ∧ (∀ a b, a < i → b < a → Clo t c a b)) (k := n - (0)) ⟨0, rfl, rfl, (Kp.refl s).up (by omega), Nat.zero_le _, fun a b h => absurd h (by omega)⟩ ?_)
  rintro k1 _ s1 ⟨i, hk1, rfl, hs1, hb, h1⟩
  refine aw_seq ?_
  refine aw_region_seq C (pb := false) rfl fun K hK => ?_
  repeat' (first | refine wy1 (a := by simp only [go_sem, ↓reduceIte, Nat.reduceEqDiff, reduceCtorEq, Nat.reduceAdd, Nat.reduceMul, Nat.reduceLeDiff, aLoad, aStore, lenC hx, ← hn]; exact rfl) (h := ?_) | fail)
  refine awOps_nil (hK _ _ ?_)
  clear hK K
  refine aw_cond (by rfl) ?_ ?_
  · intro hc0
    try simp only [decide_eq_true_eq, decide_eq_false_iff_not] at hc0
    have hi2 : i < t.length := by omega
    have hi3 : i < n := by omega
    obtain ⟨r1, hix⟩ := idxN (c := c) hi3
    refine aw_skip ?_
    simp only [thenA_normal, thenA_ret, thenA_exit, blockA_normal, blockA_ret, blockA_exit, ↓reduceIte, Nat.reduceEqDiff]
    refine aw_seq ?_
    refine aw_block ?_
    refine aw_region_seq C (pb := false) rfl fun K hK => ?_
    repeat' (first | refine wy0 (h := ?_) | fail)
    refine awOps_nil (hK _ _ ?_)
    clear hK K
    refine aw_block ?_
    refine AW.less (sl' := [(0, .av (.sc x)), (1, .av (.sc (scN n c))), (7, vI i), (8, vI (0))]) (AllIn.less ⟨rfl, rfl, rfl, rfl, trivial⟩) (aw_loop (fun k sl1 s1 => ∃ (j : Nat), k = i - j ∧ sl1 = [(0, .av (.sc x)), (1, .av (.sc (scN n c))), (7, vI i), (8, vI (j))] ∧ (Kp s s1) ∧ (j ≤ i) ∧ (∀ b, b < j → Clo t c i b)) (k := i - (0)) ⟨0, rfl, rfl, hs1.up (by omega), Nat.zero_le _, fun b h => absurd h (by omega)⟩ ?_)
    rintro k2 _ s2 ⟨j, hk2, rfl, hs2, hb2, h2⟩
    refine aw_seq ?_
    refine aw_region_seq C (pb := false) rfl fun K hK => ?_
    repeat' (first | refine wy0 (h := ?_) | fail)
    refine awOps_nil (hK _ _ ?_)
    clear hK K
    refine aw_cond (by rfl) ?_ ?_
    · intro hc1
      try simp only [decide_eq_true_eq, decide_eq_false_iff_not] at hc1
      have hj2 : j < t.length := by omega
      have hj3 : j < n := by omega
      obtain ⟨r2, hjx⟩ := idxN (c := c) hj3
      refine aw_skip ?_
      simp only [thenA_normal, thenA_ret, thenA_exit, blockA_normal, blockA_ret, blockA_exit, ↓reduceIte, Nat.reduceEqDiff]
      refine aw_seq ?_
      refine aw_block ?_
      refine aw_seq ?_
      refine aw_silcut_seq C (pb := false) 28 _ [(0, .av (.sc x)), (1, .av (.sc (scN n c))), (7, vI i), (8, vI j), (50, vB (t[i].kind == 1 && (t[i].kind == t[j].kind && (t[i].name == t[j].name && (t[i].n == t[j].n && true))) && ((c i : Int) != (c j : Int))))] rfl (regOk_of [0, 0, 3, 7, 15, 31, 63, 127, 127, 511, 1023, 127, 127, 6271, 14463, 32767, 65535, 131071, 262143, 262143, 1048575, 2097151, 262143, 262143, 12845055, 29622271, 67108863, 134217727] (by kernel_rfl) rfl) rfl (fun _ _ => rfl) ?_ ?_
      · cases hA0 : (t[i].kind == 1 : Bool) <;> cases hA1 : ((t[i].kind == t[j].kind && (t[i].name == t[j].name && (t[i].n == t[j].n && true))) : Bool)
        all_goals (repeat' (first | refine ws1 (a := by simp only [go_sem, ↓reduceIte, Nat.reduceEqDiff, reduceCtorEq, Nat.reduceAdd, Nat.reduceMul, Nat.reduceLeDiff, aLoad, aStore, hix, hjx, idxC hx hi2, idxC hx hj2, hA0, hA1]; exact rfl) (h := ?_) | refine wsn (h := ?_) | fail))
        all_goals (exact sil_nil ⟨rfl, rfl, rfl, rfl, rfl, trivial⟩)
      refine aw_cond (by rfl) ?_ ?_
      · intro hc2
        rw [Bool.and_eq_true, Bool.and_eq_true, bne_iff_ne, beq_iff_eq] at hc2
        have hM : Must t c i j := ⟨hi2, hj2, by have := hc2.2; omega, .inl ⟨hi2, hj2, hc2.1.1, cellEq_iff.1 hc2.1.2⟩⟩
        refine aw_region_seq C (pb := false) rfl fun K hK => ?_
        repeat' (first | refine wy0 (h := ?_) | fail)
        refine awOps_nil (hK _ _ ?_)
        clear hK K
        refine aw_ret ?_
        try simp only [thenA_normal, thenA_ret, thenA_exit, blockA_normal, blockA_ret, blockA_exit]
        simp only [go_sem, ↓reduceIte, Nat.reduceEqDiff, reduceCtorEq, Nat.reduceAdd, Nat.reduceMul, Nat.reduceLeDiff, aLoad, aStore, FnQ, resA]
        -- 0t1t2t.ret
        exact fun _ => ⟨by first | rfl | trivial, hs2.2.1, hs2.2.2, i, j, true, rfl, fun _ => hM, fun h => by cases h⟩
      · intro hc2
        have hV : t[i] = t[j] → t[i].kind = 1 → c i = c j := by
          intro e1 e2
          have e3 : (t[i].kind == t[j].kind && (t[i].name == t[j].name && (t[i].n == t[j].n && true))) = true := cellEq_iff.2 e1
          rw [beq_iff_eq.2 e2, e3, Bool.true_and, Bool.true_and, bne_eq_false_iff_eq] at hc2
          omega
        refine aw_skip ?_
        simp only [thenA_normal, thenA_ret, thenA_exit, blockA_normal, blockA_ret, blockA_exit, ↓reduceIte, Nat.reduceEqDiff]
        refine aw_seq ?_
        refine aw_silcut_seq C (pb := false) 28 _ [(0, .av (.sc x)), (1, .av (.sc (scN n c))), (7, vI i), (8, vI j), (80, vB (((c i : Int) != (c j : Int)) || !(t[i].kind == 3) || !(t[i].kind == t[j].kind && (t[i].name == t[j].name && (t[i].n == t[j].n && true)))))] rfl (regOk_of [0, 0, 3, 7, 0, 0, 48, 112, 255, 511, 1023, 1023, 4095, 8191, 16383, 32767, 65535, 131071, 262143, 262143, 1048575, 2097151, 262143, 262143, 12845055, 29622271, 67108863, 134217727] (by kernel_rfl) rfl) rfl (fun _ _ => rfl) ?_ ?_
        · cases hA0 : ((c i : Int) != (c j : Int) : Bool) <;> cases hA1 : (t[i].kind == 3 : Bool)
          all_goals (repeat' (first | refine ws1 (a := by simp only [go_sem, ↓reduceIte, Nat.reduceEqDiff, reduceCtorEq, Nat.reduceAdd, Nat.reduceMul, Nat.reduceLeDiff, aLoad, aStore, hix, hjx, idxC hx hi2, idxC hx hj2, show (t[i].kind != 3) = !(t[i].kind == 3) from rfl, hA0, hA1]; exact rfl) (h := ?_) | refine wsn (h := ?_) | fail))
          all_goals (exact sil_nil ⟨rfl, rfl, rfl, rfl, rfl, trivial⟩)
        refine aw_cond (by rfl) ?_ ?_
        · intro hc3
          have hOK : Clo t c i j := by
            intro _ _ e
            refine ⟨hV e, fun e1 e2 => ?_⟩
            have e3 : (t[i].kind == t[j].kind && (t[i].name == t[j].name && (t[i].n == t[j].n && true))) = true := cellEq_iff.2 e
            have e4 : ((c i : Int) != (c j : Int)) = false := by rw [bne_eq_false_iff_eq]; omega
            rw [e4, e3, beq_iff_eq.2 e2] at hc3
            cases hc3
          refine aw_exit ?_
          simp only [thenA_normal, thenA_ret, thenA_exit, blockA_normal, blockA_ret, blockA_exit, ↓reduceIte, Nat.reduceEqDiff]
          refine aw_region C (pb := false) rfl ?_
          repeat' (first | refine wy1 (a := by simp only [go_sem, ↓reduceIte, Nat.reduceEqDiff, reduceCtorEq, Nat.reduceAdd, Nat.reduceMul, Nat.reduceLeDiff, aLoad, aStore, wrap_small ((j : Int) + 1) (by omega) (by omega)]; exact rfl) (h := ?_) | fail)
          refine awOps_nil ?_
          try simp only [thenA_normal, thenA_ret, thenA_exit, blockA_normal, blockA_ret, blockA_exit]
          -- end of round 1 at 0t1t2f3t.x3
          refine ⟨i - (j + 1), [(0, .av (.sc x)), (1, .av (.sc (scN n c))), (7, vI i), (8, vI (j + 1))], by omega, AllIn.less ⟨rfl, rfl, rfl, rfl, trivial⟩, j + 1, rfl, rfl, ?_, ?_, ?_⟩
          · exact hs2.up (by omega)
          · omega
          · intro b hb
            by_cases e : b = j
            · subst e; exact hOK
            · exact h2 b (by omega)
        · intro hc3
          have h6 : c i = c j ∧ t[i].kind = 3 ∧ t[i] = t[j] := by
            rw [Bool.or_eq_false_iff, Bool.or_eq_false_iff, bne_eq_false_iff_eq, Bool.not_eq_false', Bool.not_eq_false', beq_iff_eq] at hc3
            exact ⟨by have := hc3.1.1; omega, hc3.1.2, cellEq_iff.1 hc3.2⟩
          obtain ⟨q1, hq1⟩ := ht.1 i hi2
          obtain ⟨q2, hq2⟩ := ht.1 j hj2
          have hpl : (partsN t i).length = (partsN t j).length := by rw [partsN_length hi2, partsN_length hj2, h6.2.2]
          refine aw_skip ?_
          simp only [thenA_normal, thenA_ret, thenA_exit, blockA_normal, blockA_ret, blockA_exit, ↓reduceIte, Nat.reduceEqDiff]
          refine aw_region_seq C (pb := false) rfl fun K hK => ?_
          repeat' (first | refine wy0 (h := ?_) | fail)
          refine wc (And.intro Try.call68 (fn68 L t i q1 _ x hx (by omega) ht.2 hq1 hi2)) ?_
          rintro _ _ ⟨⟨y1, rfl, hy1⟩, rfl⟩
          repeat' (first | refine wy0 (h := ?_) | fail)
          refine wc (And.intro Try.call68 (fn68 L t j q2 _ x hx (by omega) ht.2 hq2 hj2)) ?_
          rintro _ _ ⟨⟨y2, rfl, hy2⟩, rfl⟩
          repeat' (first | refine wy0 (h := ?_) | fail)
          refine awOps_nil (hK _ _ ?_)
          clear hK K
          refine aw_region_seq C (pb := false) rfl fun K hK => ?_
          repeat' (first | refine wy0 (h := ?_) | fail)
          refine awOps_nil (hK _ _ ?_)
          clear hK K
          refine aw_block ?_
          refine AW.less (sl' := [(0, .av (.sc x)), (1, .av (.sc (scN n c))), (7, vI i), (8, vI j), (9, .av (.sc y1)), (10, .av (.sc y2)), (11, vI (0))]) (AllIn.less ⟨rfl, rfl, rfl, rfl, rfl, rfl, rfl, trivial⟩) (aw_loop (fun k sl1 s1 => ∃ (m : Nat), k = (partsN t i).length - m ∧ sl1 = [(0, .av (.sc x)), (1, .av (.sc (scN n c))), (7, vI i), (8, vI j), (9, .av (.sc y1)), (10, .av (.sc y2)), (11, vI (m))] ∧ (Kp s s1) ∧ (m ≤ (partsN t i).length) ∧ (∀ q (ha : q < (partsN t i).length) (hb : q < (partsN t j).length), q < m → c (partsN t i)[q] = c (partsN t j)[q])) (k := (partsN t i).length - (0)) ⟨0, rfl, rfl, hs2.up (by omega), Nat.zero_le _, fun q _ _ h => absurd h (by omega)⟩ ?_)
          rintro k3 _ s3 ⟨m, hk3, rfl, hs3, hb3, h3⟩
          refine aw_seq ?_
          refine aw_region_seq C (pb := false) rfl fun K hK => ?_
          repeat' (first | refine wy1 (a := by simp only [go_sem, ↓reduceIte, Nat.reduceEqDiff, reduceCtorEq, Nat.reduceAdd, Nat.reduceMul, Nat.reduceLeDiff, aLoad, aStore, lenI hy1, ← partsN_len]; exact rfl) (h := ?_) | fail)
          refine awOps_nil (hK _ _ ?_)
          clear hK K
          refine aw_cond (by rfl) ?_ ?_
          · intro hc4
            try simp only [decide_eq_true_eq, decide_eq_false_iff_not] at hc4
            have hm2 : m < (partsN t i).length := by omega
            have hm3 : m < (partsN t j).length := by omega
            obtain ⟨r3, hp1⟩ := idxP hy1 hm2
            obtain ⟨r4, hp2⟩ := idxP hy2 hm3
            have hl1 := (partsN_lt ht hi2 _ (List.getElem_mem hm2)).1
            have hl2 := (partsN_lt ht hj2 _ (List.getElem_mem hm3)).1
            obtain ⟨pa, hpa⟩ : ∃ p, p = (partsN t i)[m] := ⟨_, rfl⟩
            obtain ⟨pb, hpb⟩ : ∃ p, p = (partsN t j)[m] := ⟨_, rfl⟩
            rw [← hpa] at hp1 hl1
            rw [← hpb] at hp2 hl2
            obtain ⟨r5, hca⟩ := idxN (c := c) (i := pa) (n := n) (by omega)
            obtain ⟨r6, hcb⟩ := idxN (c := c) (i := pb) (n := n) (by omega)
            refine aw_skip ?_
            simp only [thenA_normal, thenA_ret, thenA_exit, blockA_normal, blockA_ret, blockA_exit, ↓reduceIte, Nat.reduceEqDiff]
            refine aw_seq ?_
            refine aw_block ?_
            refine aw_silcut_seq C (pb := false) 15 _ [(0, .av (.sc x)), (1, .av (.sc (scN n c))), (7, vI i), (8, vI j), (9, .av (.sc y1)), (10, .av (.sc y2)), (11, vI m), (107, vB ((c pa : Int) != (c pb : Int)))] rfl (regOk_of [0, 0, 0, 6, 14, 31, 63, 0, 0, 0, 768, 1792, 3968, 8064, 16383] (by kernel_rfl) rfl) rfl (fun _ _ => rfl) ?_ ?_
            · skip
              all_goals (repeat' (first | refine ws1 (a := by simp only [go_sem, ↓reduceIte, Nat.reduceEqDiff, reduceCtorEq, Nat.reduceAdd, Nat.reduceMul, Nat.reduceLeDiff, aLoad, aStore, hp1, hp2, hca, hcb]; exact rfl) (h := ?_) | fail))
              all_goals (exact sil_nil ⟨rfl, rfl, rfl, rfl, rfl, rfl, rfl, rfl, trivial⟩)
            refine aw_cond (by rfl) ?_ ?_
            · intro hc5
              have hM : Must t c pa pb := ⟨hl1, hl2, by rw [bne_iff_ne] at hc5; omega, .inr ⟨i, j, hi2, hj2, h6.1, h6.2.2, h6.2.1, by rw [hpa, hpb]; exact get_zip' hm2 hm3⟩⟩
              refine aw_sil_seq C (pb := false) 11 _ rfl (regOk_of [0, 0, 3, 7, 0, 0, 48, 112, 15, 511, 1023] (by kernel_rfl) rfl) rfl (fun _ _ => rfl) fun K hK => ?_
              repeat' (first | refine ws1 (a := by simp only [go_sem, ↓reduceIte, Nat.reduceEqDiff, reduceCtorEq, Nat.reduceAdd, Nat.reduceMul, Nat.reduceLeDiff, aLoad, aStore, hp1, hp2]; exact rfl) (h := ?_) | fail)
              refine sil_nil (hK _ ?_)
              clear hK K
              refine aw_ret ?_
              try simp only [thenA_normal, thenA_ret, thenA_exit, blockA_normal, blockA_ret, blockA_exit]
              simp only [go_sem, ↓reduceIte, Nat.reduceEqDiff, reduceCtorEq, Nat.reduceAdd, Nat.reduceMul, Nat.reduceLeDiff, aLoad, aStore, FnQ, resA]
              -- 0t1t2f3f4t5t.ret
              exact fun _ => ⟨by first | rfl | trivial, hs3.2.1, hs3.2.2, pa, pb, true, rfl, fun _ => hM, fun h => by cases h⟩
            · intro hc5
              have hce : c (partsN t i)[m] = c (partsN t j)[m] := by rw [← hpa, ← hpb]; rw [bne_eq_false_iff_eq] at hc5; omega
              refine aw_skip ?_
              simp only [thenA_normal, thenA_ret, thenA_exit, blockA_normal, blockA_ret, blockA_exit, ↓reduceIte, Nat.reduceEqDiff]
              refine aw_region C (pb := false) rfl ?_
              repeat' (first | refine wy1 (a := by simp only [go_sem, ↓reduceIte, Nat.reduceEqDiff, reduceCtorEq, Nat.reduceAdd, Nat.reduceMul, Nat.reduceLeDiff, aLoad, aStore, wrap_small ((m : Int) + 1) (by have := parts_le ht hi2; omega) (by have := parts_le ht hi2; omega)]; exact rfl) (h := ?_) | fail)
              refine awOps_nil ?_
              try simp only [thenA_normal, thenA_ret, thenA_exit, blockA_normal, blockA_ret, blockA_exit]
              -- end of round 2 at 0t1t2f3f4t5f
              refine ⟨(partsN t i).length - (m + 1), [(0, .av (.sc x)), (1, .av (.sc (scN n c))), (7, vI i), (8, vI j), (9, .av (.sc y1)), (10, .av (.sc y2)), (11, vI (m + 1))], by omega, AllIn.less ⟨rfl, rfl, rfl, rfl, rfl, rfl, rfl, trivial⟩, m + 1, rfl, rfl, ?_, ?_, ?_⟩
              · exact hs3.up (by omega)
              · omega
              · intro q ha hb hq
                by_cases e : q = m
                · subst e; exact hce
                · exact h3 q ha hb (by omega)
          · intro hc4
            try simp only [decide_eq_true_eq, decide_eq_false_iff_not] at hc4
            have hOK : Clo t c i j := by
              intro _ _ e
              refine ⟨hV e, fun e1 e2 ab hab => ?_⟩
              obtain ⟨q, k1, k2⟩ := zip_get hab
              obtain ⟨g1, e3⟩ := List.getElem?_eq_some_iff.1 k1
              obtain ⟨g2, e4⟩ := List.getElem?_eq_some_iff.1 k2
              rw [← e3, ← e4]
              exact h3 q g1 g2 (by omega)
            refine aw_exit ?_
            simp only [thenA_normal, thenA_ret, thenA_exit, blockA_normal, blockA_ret, blockA_exit, ↓reduceIte, Nat.reduceEqDiff]
            refine aw_region C (pb := false) rfl ?_
            repeat' (first | refine wy1 (a := by simp only [go_sem, ↓reduceIte, Nat.reduceEqDiff, reduceCtorEq, Nat.reduceAdd, Nat.reduceMul, Nat.reduceLeDiff, aLoad, aStore, wrap_small ((j : Int) + 1) (by omega) (by omega)]; exact rfl) (h := ?_) | fail)
            refine awOps_nil ?_
            try simp only [thenA_normal, thenA_ret, thenA_exit, blockA_normal, blockA_ret, blockA_exit]
            -- end of round 1 at 0t1t2f3f4f.x4
            refine ⟨i - (j + 1), [(0, .av (.sc x)), (1, .av (.sc (scN n c))), (7, vI i), (8, vI (j + 1))], by omega, AllIn.less ⟨rfl, rfl, rfl, rfl, trivial⟩, j + 1, rfl, rfl, ?_, ?_, ?_⟩
            · exact hs3.up (by omega)
            · omega
            · intro b hb
              by_cases e : b = j
              · subst e; exact hOK
              · exact h2 b (by omega)
    · intro hc1
      try simp only [decide_eq_true_eq, decide_eq_false_iff_not] at hc1
      refine aw_exit ?_
      simp only [thenA_normal, thenA_ret, thenA_exit, blockA_normal, blockA_ret, blockA_exit, ↓reduceIte, Nat.reduceEqDiff]
      refine aw_region C (pb := false) rfl ?_
      repeat' (first | refine wy1 (a := by simp only [go_sem, ↓reduceIte, Nat.reduceEqDiff, reduceCtorEq, Nat.reduceAdd, Nat.reduceMul, Nat.reduceLeDiff, aLoad, aStore, wrap_small ((i : Int) + 1) (by omega) (by omega)]; exact rfl) (h := ?_) | fail)
      refine awOps_nil ?_
      try simp only [thenA_normal, thenA_ret, thenA_exit, blockA_normal, blockA_ret, blockA_exit]
      -- end of round 0 at 0t1f.x2
      refine ⟨n - (i + 1), [(0, .av (.sc x)), (1, .av (.sc (scN n c))), (7, vI (i + 1))], by omega, AllIn.less ⟨rfl, rfl, rfl, trivial⟩, i + 1, rfl, rfl, ?_, ?_, ?_⟩
      · exact hs2.up (by omega)
      · omega
      · intro a b ha hab
        by_cases e : a = i
        · subst e; exact h2 b (by omega)
        · exact h1 a b (by omega) hab
  · intro hc0
    try simp only [decide_eq_true_eq, decide_eq_false_iff_not] at hc0
    refine aw_exit ?_
    simp only [thenA_normal, thenA_ret, thenA_exit, blockA_normal, blockA_ret, blockA_exit, ↓reduceIte, Nat.reduceEqDiff]
    refine aw_region_seq C (pb := false) rfl fun K hK => ?_
    repeat' (first | refine wy0 (h := ?_) | fail)
    refine awOps_nil (hK _ _ ?_)
    clear hK K
    refine aw_ret ?_
    simp only [go_sem, ↓reduceIte, Nat.reduceEqDiff, reduceCtorEq, Nat.reduceAdd, Nat.reduceMul, Nat.reduceLeDiff, aLoad, aStore, FnQ, resA]
    -- 0f.x0.ret
    refine fun _ => ⟨by first | rfl | trivial, hs1.2.1, hs1.2.2, 0, 0, false, rfl, (fun h => by cases h), fun _ a b hab ha hb => ?_⟩
    exact h1 a b (by omega) hab ha hb
end Go.Am.Seat
/-
  MADE BY PROGRAM (am.py): the walks of functions 40.
-/
namespace Go.Am.Seat
open Go.Proofs

/-- The row of classes is in order: each class's number is a place of it. -/
def CI (n : Nat) (c : Nat → Nat) : Prop := ∀ i, i < n → c i < n ∧ c (c i) = c i
/-- What makes the first and the second term the same makes all of one class the same. -/
def CR (t : List Cell) (k : Nat) (c : Nat → Nat) : Prop := ∀ s, Terms s → valS t s 0 = valS t s k → ∀ i j, i < t.length → j < t.length → c i = c j → valS t s i = valS t s j
theorem must_val {t : List Cell} (ht : TOK t) {k : Nat} {c : Nat → Nat} (hc : CR t k c) {a b : Nat} (h : Must t c a b) {s : Int → List Cell} (hs : Terms s) (h0 : valS t s 0 = valS t s k) : valS t s a = valS t s b := by
  obtain ⟨ha, hb, _, h | ⟨i, j, hi, hj, h1, h2, h3, h4⟩⟩ := h
  · obtain ⟨_, _, h1, h2⟩ := h
    rw [valS_var ht ha h1, valS_var ht hb (h2 ▸ h1), h2]
  · have h5 := hc s hs h0 i j hi hj h1
    exact (valS_parts ht hs hi hj (by omega) (by rw [← h2]; omega) h5).2 _ h4
theorem one_ci {n : Nat} {c : Nat → Nat} (h : CI n c) {a b : Nat} (ha : a < n) (hb : b < n) (hne : c a ≠ c b) : CI n (oneG c (c a) (c b)) := by
  intro i hi
  unfold oneG
  by_cases e : c i = c a
  · rw [if_pos e]
    refine ⟨(h b hb).1, ?_⟩
    rw [if_neg (by rw [(h b hb).2]; exact fun k => hne k.symm), (h b hb).2]
  · rw [if_neg e]
    refine ⟨(h i hi).1, ?_⟩
    rw [if_neg (by rw [(h i hi).2]; exact e), (h i hi).2]
theorem roots_mono {c d : Nat → Nat} : ∀ {n : Nat}, (∀ i, i < n → d i = i → c i = i) → roots d n ≤ roots c n
  | 0, _ => Nat.le_refl _
  | n + 1, h => by
    have ih := roots_mono (n := n) fun i hi => h i (by omega)
    rw [roots, roots]
    by_cases e : d n = n
    · rw [if_pos e, if_pos (h n (by omega) e)]; omega
    · rw [if_neg e]
      split <;> omega
theorem roots_less {c d : Nat → Nat} {x : Nat} (hx : c x = x) (hd : d x ≠ x) : ∀ {n : Nat}, x < n → (∀ i, i < n → d i = i → c i = i) → roots d n + 1 ≤ roots c n
  | 0, h, _ => by omega
  | n + 1, h, hm => by
    rw [roots, roots]
    by_cases e : n = x
    · subst e
      rw [if_neg hd, if_pos hx]
      have := roots_mono (n := n) fun i hi => hm i (by omega)
      omega
    · have ih := roots_less hx hd (show x < n by omega) fun i hi => hm i (by omega)
      by_cases e2 : d n = n
      · rw [if_pos e2, if_pos (hm n (by omega) e2)]; omega
      · rw [if_neg e2]
        split <;> omega
theorem one_roots {n : Nat} {c : Nat → Nat} (h : CI n c) {a b : Nat} (ha : a < n) (hb : b < n) (hne : c a ≠ c b) : roots (oneG c (c a) (c b)) n + 1 ≤ roots c n := by
  refine roots_less (x := c a) (h a ha).2 ?_ (h a ha).1 fun i hi e => ?_
  · unfold oneG
    rw [if_pos (h a ha).2]
    exact fun k => hne k.symm
  · unfold oneG at e
    split at e
    · rename_i h1
      rw [← e] at h1
      rw [(h b hb).2] at h1
      exact absurd h1.symm hne
    · exact e
theorem one_cr {t : List Cell} (ht : TOK t) {k : Nat} {c : Nat → Nat} (hc : CR t k c) {a b : Nat} (h : Must t c a b) : CR t k (oneG c (c a) (c b)) := by
  intro s hs h0 i j hi hj e
  have hv := must_val ht hc h hs h0
  have r := hc s hs h0
  unfold oneG at e
  split at e
  · rename_i h1
    split at e
    · rename_i h2; exact r i j hi hj (h1.trans h2.symm)
    · rw [r i a hi h.1 h1, hv, r b j h.2.1 hj e]
  · rename_i h1
    split at e
    · rename_i h2; rw [r i b hi h.2.1 e, ← hv, r a j h.1 hj h2.symm]
    · exact r i j hi hj e
/-- What classes tells. -/
structure Cls (t : List Cell) (k : Nat) (c : Nat → Nat) : Prop where
  ci : CI t.length c
  fst : c 0 = c k
  clo : ∀ i j, j < i → Clo t c i j
  cr : CR t k c
theorem gslN {x : Sc} {n : Nat} {c : Nat → Nat} (h : GSl encI x ((List.range n).map fun i => (c i : Int))) (hn : 0 < n) : x = scN n c := by
  rcases h with ⟨_, h⟩ | h
  · have := congrArg List.length h
    simp only [List.length_map, List.length_range, List.length_nil] at this
    omega
  · rw [h, scN, List.length_map, List.length_range]
    congr 1
    rw [List.flatMap_map]
    induction List.range n with
    | nil => rfl
    | cons a l ih => rw [List.flatMap_cons, ih]; rfl

theorem one0_ci {n k0 : Nat} (h : k0 < n) : CI n (oneG id k0 0) := by
  intro i hi
  unfold oneG
  simp only [id]
  by_cases e : i = k0
  · rw [if_pos e]
    refine ⟨by omega, ?_⟩
    split <;> rfl
  · rw [if_neg e]
    exact ⟨hi, by rw [if_neg e]⟩
theorem one0_fst (k0 : Nat) : oneG id k0 0 0 = oneG id k0 0 k0 := by
  unfold oneG
  simp only [id, if_pos]
  split <;> rfl
theorem one0_cr {t : List Cell} (k0 : Nat) : CR t k0 (oneG id k0 0) := by
  intro s hs h0 i j hi hj e
  unfold oneG at e
  simp only [id] at e
  by_cases h1 : i = k0 <;> by_cases h2 : j = k0 <;> simp only [h1, h2, if_true, if_false] at e
  · rw [h1, h2]
  · rw [h1, ← e, h0]
  · rw [h2, e, h0]
  · rw [e]

-- many steps
theorem bod40 : Try.f40.body = some (Try.f40.body.getD .skip) := rfl
set_option maxHeartbeats 1000000 in
theorem fn40 (L : Loops) (t : List Cell) (n k0 : Nat) (s : Me) (x : Sc) (hx : GSl encC x t) (hn : n = t.length) (hl : n ≤ 1000000) (ht : TOK t) (hk0 : k0 < n) : FnL Try.prog L 40 [.av (.sc x), vI k0] s fun r s' => (∃ c, r = .av (.sc (scN n c)) ∧ Cls t k0 c) ∧ s' = s := by
  refine FnL.pure (R := fun r => ∃ c, r = .av (.sc (scN n c)) ∧ Cls t k0 c) ?_
  refine fn_of_body (ts := [4]) Try.func40 bod40 rfl (by simp) (by simp [Try.ntmps40]) fun D0 => ?_
  unfold Try.f40
  simp only [Option.getD_some, initSl]
  refine aw_region_seq C (pb := false) rfl fun K hK => ?_
  repeat' (first | refine wy0 (h := ?_) | fail)
  refine awOps_nil (hK _ _ ?_)
  clear hK K
  refine aw_region_seq C (pb := false) rfl fun K hK => ?_
  repeat' (first | refine wy0 (h := ?_) | fail)
  refine awOps_nil (hK _ _ ?_)
  clear hK K
  refine aw_seq ?_
  refine aw_region_seq C (pb := false) rfl fun K hK => ?_
  repeat' (first | refine wy0 (h := ?_) | fail)
  refine awOps_nil (hK _ _ ?_)
  clear hK K
  refine aw_block ?_
  refine AW.less (sl' := [(0, .av (.sc x)), (1, vI k0), (5, (_)), (6, vI (0))]) (AllIn.less ⟨rfl, rfl, rfl, rfl, trivial⟩) (aw_loop (fun k sl1 s1 => ∃ (i : Nat) (xo : Va) (out : List Int), k = n - i ∧ sl1 = [(0, .av (.sc x)), (1, vI k0), (5, (xo)), (6, vI (i))] ∧ (Kp s s1) ∧ (i ≤ n) ∧ (Acc s.nx s1.nx s1.ob xo out.length 1 ((out.flatMap encI).map .sc)) ∧ (out = (List.range i).map fun j => ((id j : Nat) : Int))) (k := n - (0)) ⟨0, _, [], rfl, rfl, ⟨by first | omega | (dsimp only; omega), fun j hj => upd_ne _ _ (by omega), rfl⟩, Nat.zero_le _, .inr ⟨_, 0, rfl, (by first | omega | (dsimp only; omega) | (dsimp only at *; omega)), (by first | omega | (dsimp only; omega) | (dsimp only at *; omega)), upd_same _ _ _, by simp, by simp⟩, rfl⟩ ?_)
  rintro k1 _ s1 ⟨i, xo, out, hk1, rfl, hs1, hb, hacc, ho⟩
  refine aw_seq ?_
  refine aw_region_seq C (pb := false) rfl fun K hK => ?_
  repeat' (first | refine wy1 (a := by simp only [go_sem, ↓reduceIte, Nat.reduceEqDiff, reduceCtorEq, Nat.reduceAdd, Nat.reduceMul, Nat.reduceLeDiff, aLoad, aStore, lenC hx, ← hn]; exact rfl) (h := ?_) | fail)
  refine awOps_nil (hK _ _ ?_)
  clear hK K
  refine aw_cond (by rfl) ?_ ?_
  · intro hc0
    try simp only [decide_eq_true_eq, decide_eq_false_iff_not] at hc0
    have hi2 : i < n := by omega
    refine aw_skip ?_
    simp only [thenA_normal, thenA_ret, thenA_exit, blockA_normal, blockA_ret, blockA_exit, ↓reduceIte, Nat.reduceEqDiff]
    refine aw_seq ?_
    refine aw_block ?_
    refine aw_region C (pb := false) rfl ?_
    repeat' (first | refine wy0 (h := ?_) | fail)
    refine awOps_append (by rfl) (by rfl) (by rfl) (by rfl) (hacc.up (Nat.le_refl _) fun j h1 h2 => upd_ne _ _ (by omega)) T36 rfl T3 rfl (by simp) (by simp [y3]) (k := 1) (new := [.sc (.int .i64 (i : Int))]) (by simp [aSrc, evA, get, upd, zerosA]) (by simp) (by rw [ho, List.length_map, List.length_range]; omega) (by omega) (by have := hs1.1; omega) fun x6 ob6 hacc6 hlow6 _ => ?_
    repeat' (first | refine wy0 (h := ?_) | fail)
    refine awOps_nil ?_
    try simp only [thenA_normal, thenA_ret, thenA_exit, blockA_normal, blockA_ret, blockA_exit]
    refine aw_region C (pb := false) rfl ?_
    repeat' (first | refine wy1 (a := by simp only [go_sem, ↓reduceIte, Nat.reduceEqDiff, reduceCtorEq, Nat.reduceAdd, Nat.reduceMul, Nat.reduceLeDiff, aLoad, aStore, wrap_small ((i : Int) + 1) (by omega) (by omega)]; exact rfl) (h := ?_) | fail)
    refine awOps_nil ?_
    try simp only [thenA_normal, thenA_ret, thenA_exit, blockA_normal, blockA_ret, blockA_exit]
    -- end of round 0 at 0t
    refine ⟨n - (i + 1), [(0, .av (.sc x)), (1, vI k0), (5, (x6)), (6, vI (i + 1))], by omega, AllIn.less ⟨rfl, rfl, rfl, rfl, trivial⟩, i + 1, x6, out ++ [(i : Int)], rfl, rfl, ?_, ?_, ?_, ?_⟩
    · exact ⟨by have := hs1.1; exact (by first | omega | (dsimp only; omega)), fun j hj => (hlow6 j hj).trans ((upd_ne _ _ (by have := hs1.1; omega)).trans (hs1.2.1 j hj)), hs1.2.2⟩
    · omega
    · simp only [List.length_append, List.length_cons, List.length_nil, List.flatMap_append, List.map_append, List.flatMap_cons, List.flatMap_nil, List.append_nil]
      exact hacc6.up (by first | omega | (dsimp only; omega)) fun _ _ _ => rfl
    · rw [ho, List.range_succ, List.map_append]
      rfl
  · intro hc0
    try simp only [decide_eq_true_eq, decide_eq_false_iff_not] at hc0
    refine aw_exit ?_
    simp only [thenA_normal, thenA_ret, thenA_exit, blockA_normal, blockA_ret, blockA_exit, ↓reduceIte, Nat.reduceEqDiff]
    obtain ⟨ty, ob7, hpv7, hty, hacc7, hlow7, _⟩ := Acc.pure (enc := encI) (k := 1) (fun _ => rfl) hacc
    have hi9 : i = n := by omega
    rw [ho, hi9] at hty
    obtain rfl := gslN hty (by omega)
    refine aw_pur 5 hpv7 ?_
    refine aw_state (J := fun s8 => Kp s s8) ⟨by have := hs1.1; dsimp only; omega, fun j hj => (hlow7 j hj).trans (hs1.2.1 j hj), hs1.2.2⟩ fun s8 hJ => ?_
    refine aw_region_seq C (pb := false) rfl fun K hK => ?_
    repeat' (first | refine wy0 (h := ?_) | fail)
    (refine wc (And.intro Try.call66 (fn66 L n k0 0 id _ (by omega))) ?_; rintro _ _ ⟨rfl, rfl⟩)
    repeat' (first | refine wy0 (h := ?_) | fail)
    refine awOps_nil (hK _ _ ?_)
    refine AW.less (sl' := [(0, .av (.sc x)), (5, .av (.sc (scN n (oneG id k0 0))))]) (AllIn.less ⟨rfl, rfl, trivial⟩) ?_
    clear hK K
    refine aw_block ?_
    refine AW.less (sl' := [(0, .av (.sc x)), (5, .av (.sc (scN n (oneG id k0 0))))]) (AllIn.less ⟨rfl, rfl, trivial⟩) (aw_loop (fun k sl1 s1 => ∃ (c : Nat → Nat), k = roots c n ∧ sl1 = [(0, .av (.sc x)), (5, .av (.sc (scN n (c))))] ∧ (Kp s s1) ∧ (CI n c) ∧ (c 0 = c k0) ∧ (CR t k0 c)) (k := roots (oneG id k0 0) n) ⟨oneG id k0 0, rfl, rfl, hJ.up (by omega), one0_ci hk0, one0_fst k0, one0_cr k0⟩ ?_)
    rintro k2 _ s2 ⟨c, hk2, rfl, hs2, hci, hf, hcr⟩
    refine aw_block ?_
    refine aw_region_seq C (pb := false) rfl fun K hK => ?_
    repeat' (first | refine wy0 (h := ?_) | fail)
    refine wc (And.intro Try.call67 (fn67 L t n c _ x hx hn hl ht)) ?_
    rintro _ _ ⟨⟨a, b, w, rfl, hw1, hw2⟩, rfl⟩
    repeat' (first | refine wy0 (h := ?_) | fail)
    refine awOps_nil (hK _ _ ?_)
    clear hK K
    refine aw_seq ?_
    refine aw_region_seq C (pb := false) rfl fun K hK => ?_
    repeat' (first | refine wy0 (h := ?_) | fail)
    refine awOps_nil (hK _ _ ?_)
    clear hK K
    refine aw_cond (by rfl) ?_ ?_
    · intro hc1
      obtain rfl : w = false := by simpa using hc1
      have hcl := hw2 rfl
      refine aw_region_seq C (pb := false) rfl fun K hK => ?_
      repeat' (first | refine wy0 (h := ?_) | fail)
      refine awOps_nil (hK _ _ ?_)
      clear hK K
      refine aw_ret ?_
      try simp only [thenA_normal, thenA_ret, thenA_exit, blockA_normal, blockA_ret, blockA_exit]
      simp only [go_sem, ↓reduceIte, Nat.reduceEqDiff, reduceCtorEq, Nat.reduceAdd, Nat.reduceMul, Nat.reduceLeDiff, aLoad, aStore, FnQ, resA]
      -- 0f.x01t.ret
      exact fun _ => ⟨by first | rfl | trivial, hs2.2.1, hs2.2.2, c, rfl, hn ▸ hci, hf, hcl, hcr⟩
    · intro hc1
      obtain rfl : w = true := by simpa using hc1
      have hM := hw1 rfl
      have hab : a < n ∧ b < n := by rw [hn]; exact ⟨hM.1, hM.2.1⟩
      obtain ⟨r1, hia⟩ := idxN (c := c) hab.1
      obtain ⟨r2, hib⟩ := idxN (c := c) hab.2
      have hrt := one_roots hci hab.1 hab.2 hM.2.2.1
      refine aw_skip ?_
      simp only [thenA_normal, thenA_ret, thenA_exit, blockA_normal, blockA_ret, blockA_exit, ↓reduceIte, Nat.reduceEqDiff]
      refine aw_sil C (pb := false) 11 _ rfl (regOk_of [0, 0, 0, 6, 14, 0, 0, 96, 224, 511, 1023] (by kernel_rfl) rfl) rfl (fun _ _ => rfl) ?_
      repeat' (first | refine ws1 (a := by simp only [go_sem, ↓reduceIte, Nat.reduceEqDiff, reduceCtorEq, Nat.reduceAdd, Nat.reduceMul, Nat.reduceLeDiff, aLoad, aStore, hia, hib]; exact rfl) (h := ?_) | fail)
      refine wsc (And.intro Try.call66 (fn66 L n (c a) (c b) c _ (by omega))) ?_
      repeat' (first | refine ws1 (a := by simp only [go_sem, ↓reduceIte, Nat.reduceEqDiff, reduceCtorEq, Nat.reduceAdd, Nat.reduceMul, Nat.reduceLeDiff, aLoad, aStore, hia, hib]; exact rfl) (h := ?_) | fail)
      refine sil_nil ?_
      try simp only [thenA_normal, thenA_ret, thenA_exit, blockA_normal, blockA_ret, blockA_exit]
      -- end of round 1 at 0f.x01f
      refine ⟨roots (oneG c (c a) (c b)) n, [(0, .av (.sc x)), (5, .av (.sc (scN n (oneG c (c a) (c b)))))], by omega, AllIn.less ⟨rfl, rfl, trivial⟩, oneG c (c a) (c b), rfl, rfl, ?_, ?_, ?_, ?_⟩
      · exact hs2.up (by first | omega | (dsimp only; omega))
      · exact one_ci hci hab.1 hab.2 hM.2.2.1
      · unfold oneG
        rw [hf]
      · exact one_cr ht hcr hM
end Go.Am.Seat
/-
  MADE BY PROGRAM (am.py): the walks of functions 44.
-/
namespace Go.Am.Seat
open Go.Proofs

def doesG (t : List Cell) (cl : List Int) (a : Int) (i : Nat) : Int :=
  match t, cl with
  | c :: t, b :: cl => if ((b == a) && (c.kind != 1)) = true then (i : Int) else doesG t cl a (i + 1)
  | _, _ => -1

theorem bod44 : Try.f44.body = some (Try.f44.body.getD .skip) := rfl
theorem fn44 (L : Loops) (t : List Cell) (cl : List Int) (at_ : Nat) (s : Me) (x y : Sc) (hx : GSl encC x t) (hy : GSl encI y cl) (hl : t.length ≤ 1000000000) (hlen : cl.length = t.length) (hat : at_ < cl.length) : FnL Try.prog L 44 [.av (.sc x), .av (.sc y), vI at_] s fun r s' => (r = vI (doesG t cl cl[at_] 0)) ∧ s' = s := by
  refine FnL.pure (R := fun r => r = vI (doesG t cl cl[at_] 0)) ?_
  refine fn_of_body (ts := [6]) Try.func44 bod44 rfl (by simp) (by simp [Try.ntmps44]) fun D0 => ?_
  unfold Try.f44
  simp only [Option.getD_some, initSl]
  refine aw_region_seq C (pb := false) rfl fun K hK => ?_
  repeat' (first | refine wy0 (h := ?_) | fail)
  refine awOps_nil (hK _ _ ?_)
  clear hK K
  refine aw_seq ?_
  refine aw_region_seq C (pb := false) rfl fun K hK => ?_
  repeat' (first | refine wy0 (h := ?_) | fail)
  refine awOps_nil (hK _ _ ?_)
  clear hK K
  refine aw_block ?_
  refine AW.less (sl' := [(0, .av (.sc x)), (1, .av (.sc y)), (2, vI at_), (7, vI (0))]) (AllIn.less ⟨rfl, rfl, rfl, rfl, trivial⟩) (aw_loop (fun k sl1 s1 => ∃ (i : Nat), k = t.length - i ∧ sl1 = [(0, .av (.sc x)), (1, .av (.sc y)), (2, vI at_), (7, vI (i))] ∧ (Kp s s1) ∧ (i ≤ t.length) ∧ (doesG (t.drop i) (cl.drop i) cl[at_] i = doesG t cl cl[at_] 0)) (k := t.length - (0)) ⟨0, rfl, rfl, (Kp.refl s).up (by omega), Nat.zero_le _, rfl⟩ ?_)
  rintro k1 _ s1 ⟨i, hk1, rfl, hs1, hb, h3⟩
  refine aw_seq ?_
  refine aw_region_seq C (pb := false) rfl fun K hK => ?_
  repeat' (first | refine wy1 (a := by simp only [go_sem, ↓reduceIte, Nat.reduceEqDiff, reduceCtorEq, Nat.reduceAdd, Nat.reduceMul, Nat.reduceLeDiff, aLoad, aStore, lenC hx]; exact rfl) (h := ?_) | fail)
  refine awOps_nil (hK _ _ ?_)
  clear hK K
  refine aw_cond (by rfl) ?_ ?_
  · intro hc0
    try simp only [decide_eq_true_eq, decide_eq_false_iff_not] at hc0
    have hi2 : i < t.length := by omega
    have hi3 : i < cl.length := by omega
    refine aw_skip ?_
    simp only [thenA_normal, thenA_ret, thenA_exit, blockA_normal, blockA_ret, blockA_exit, ↓reduceIte, Nat.reduceEqDiff]
    refine aw_seq ?_
    refine aw_block ?_
    refine aw_silcut_seq C (pb := false) 17 _ [(0, .av (.sc x)), (1, .av (.sc y)), (2, vI at_), (7, vI i), (30, vB ((cl[i] == cl[at_]) && (t[i].kind != 1)))] rfl (by kernel_rfl) rfl (fun _ _ => rfl) ?_ ?_
    · cases hA0 : (cl[i] == cl[at_] : Bool) <;> cases hA1 : (t[i].kind != 1 : Bool)
      all_goals (repeat' (first | refine ws1 (a := by simp only [go_sem, ↓reduceIte, Nat.reduceEqDiff, reduceCtorEq, Nat.reduceAdd, Nat.reduceMul, Nat.reduceLeDiff, aLoad, aStore, idxC hx hi2, idxI hy hi3, idxI hy hat, hA0, hA1]; exact rfl) (h := ?_) | refine wsn (h := ?_) | fail))
      all_goals (exact sil_nil ⟨rfl, rfl, rfl, rfl, rfl, trivial⟩)
    refine aw_cond (by rfl) ?_ ?_
    · intro hc1
      refine aw_region_seq C (pb := false) rfl fun K hK => ?_
      repeat' (first | refine wy0 (h := ?_) | fail)
      refine awOps_nil (hK _ _ ?_)
      clear hK K
      refine aw_ret ?_
      try simp only [thenA_normal, thenA_ret, thenA_exit, blockA_normal, blockA_ret, blockA_exit]
      simp only [go_sem, ↓reduceIte, Nat.reduceEqDiff, reduceCtorEq, Nat.reduceAdd, Nat.reduceMul, Nat.reduceLeDiff, aLoad, aStore, FnQ, resA]
      -- 0t1t.ret
      exact fun _ => ⟨by first | rfl | trivial, hs1.2.1, hs1.2.2, by rw [← h3, List.drop_eq_getElem_cons hi2, List.drop_eq_getElem_cons hi3, doesG, if_pos hc1]⟩
    · intro hc1
      refine aw_skip ?_
      simp only [thenA_normal, thenA_ret, thenA_exit, blockA_normal, blockA_ret, blockA_exit, ↓reduceIte, Nat.reduceEqDiff]
      refine aw_region C (pb := false) rfl ?_
      repeat' (first | refine wy1 (a := by simp only [go_sem, ↓reduceIte, Nat.reduceEqDiff, reduceCtorEq, Nat.reduceAdd, Nat.reduceMul, Nat.reduceLeDiff, aLoad, aStore, wrap_small ((i : Int) + 1) (by omega) (by omega)]; exact rfl) (h := ?_) | fail)
      refine awOps_nil ?_
      try simp only [thenA_normal, thenA_ret, thenA_exit, blockA_normal, blockA_ret, blockA_exit]
      -- end of round 0 at 0t1f
      refine ⟨t.length - (i + 1), [(0, .av (.sc x)), (1, .av (.sc y)), (2, vI at_), (7, vI (i + 1))], by omega, AllIn.less ⟨rfl, rfl, rfl, rfl, trivial⟩, i + 1, rfl, rfl, ?_, ?_, ?_⟩
      · exact hs1.up (by omega)
      · omega
      · rw [← h3, List.drop_eq_getElem_cons hi2, List.drop_eq_getElem_cons hi3, doesG, if_neg (by rw [hc1]; exact Bool.false_ne_true)]
  · intro hc0
    try simp only [decide_eq_true_eq, decide_eq_false_iff_not] at hc0
    refine aw_exit ?_
    simp only [thenA_normal, thenA_ret, thenA_exit, blockA_normal, blockA_ret, blockA_exit, ↓reduceIte, Nat.reduceEqDiff]
    refine aw_region_seq C (pb := false) rfl fun K hK => ?_
    repeat' (first | refine wy0 (h := ?_) | fail)
    refine awOps_nil (hK _ _ ?_)
    clear hK K
    refine aw_ret ?_
    simp only [go_sem, ↓reduceIte, Nat.reduceEqDiff, reduceCtorEq, Nat.reduceAdd, Nat.reduceMul, Nat.reduceLeDiff, aLoad, aStore, FnQ, resA]
    -- 0f.x0.ret
    exact fun _ => ⟨by first | rfl | trivial, hs1.2.1, hs1.2.2, by rw [← h3, List.drop_of_length_le (by omega), doesG]; intro _ _ _ _ h; cases h⟩
end Go.Am.Seat
