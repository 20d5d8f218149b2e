/-
  Part 6 of the proof: Li, Lt, W42, W45, Lo, Ln, Lf, Lg, Lh, W18, Hd, W25, W11, Mg, Mj, W43, W46, W41, Mt.
-/
import Derived.Test.YticnfndhinjbbaaME5
set_option linter.unusedVariables false
set_option linter.unusedSimpArgs false
/-
  THE PLAIN LAW: the classes at first, each place by itself but for variables.
-/
namespace Go.Am.Seat
theorem upN_non {t : List Cell} {i : Nat} (hi : i < t.length) (hk : ¬ t[i].kind = 1) : upN t i = i := by
  unfold upN upM
  rw [List.getElem?_eq_getElem hi]
  simp only
  rw [if_neg hk, Int.toNat_natCast]
theorem upN_var {t : List Cell} {i : Nat} (hi : i < t.length) (hk : t[i].kind = 1) : upN t i = fstV t t[i].n := by
  unfold upN upM
  rw [List.getElem?_eq_getElem hi]
  simp only
  rw [if_pos hk, Int.toNat_natCast]
theorem fstV_spec {t : List Cell} {i : Nat} (hi : i < t.length) (hk : t[i].kind = 1) : ∃ h : fstV t t[i].n < t.length, t[fstV t t[i].n].kind = 1 ∧ t[fstV t t[i].n].n = t[i].n := by
  have hle := fstV_le hi hk
  have hlt : fstV t t[i].n < t.length := by omega
  refine ⟨hlt, ?_⟩
  have := List.findIdx_getElem (p := fun c : Cell => c.kind == 1 && c.n == t[i].n) (xs := t) (w := hlt)
  simp only [Bool.and_eq_true, beq_iff_eq] at this
  exact this
theorem upN_fix {t : List Cell} {i : Nat} (hi : i < t.length) : upN t (upN t i) = upN t i ∧ upN t i < t.length := by
  by_cases hk : t[i].kind = 1
  · obtain ⟨h1, h2, h3⟩ := fstV_spec hi hk
    rw [upN_var hi hk]
    exact ⟨by rw [upN_var h1 h2, h3], h1⟩
  · rw [upN_non hi hk]
    exact ⟨upN_non hi hk, hi⟩
theorem made_root {t : List Cell} {i : Nat} (hi : i < t.length) : Root (upN t) i (upN t i) := by
  by_cases e : upN t i = i
  · rw [e]; exact .here e
  · exact .step e (.here (upN_fix hi).1)
theorem made_uf (t : List Cell) : UF t.length 1 (upN t) fun i => if upN t i = i then 0 else 1 := by
  refine ⟨fun i hi => (upN_fix hi).2, fun i hi h => by rw [if_pos h], fun i hi h => ?_, fun i hi => ?_⟩
  · rw [if_neg h, if_pos (upN_fix hi).1]; omega
  · split <;> omega
theorem made_eq {t : List Cell} {i r : Nat} (hi : i < t.length) (h : Root (upN t) i r) : upN t i = r := (made_root hi).uniq h
theorem made_js (t : List Cell) : JS t (upN t) (doesM t) (nameM t) := by
  refine ⟨fun r hr hf h0 => ?_, fun r hr hf h0 i hi hR => ?_, fun r hr hf i hi hR hk => ?_, fun r hr hf => ?_, fun i j hi hj k1 k2 e => ?_⟩
  · rw [doesM, List.getElem?_eq_getElem hr] at h0 ⊢
    simp only at h0 ⊢
    by_cases hk : t[r].kind = 1
    · rw [if_pos hk] at h0; omega
    · rw [if_neg hk]
      exact ⟨r, hr, rfl, .here hf, hk⟩
  · rw [doesM, List.getElem?_eq_getElem hr] at h0
    simp only at h0
    by_cases hk : t[r].kind = 1
    · by_cases hki : t[i].kind = 1
      · exact hki
      · have := made_eq hi hR
        rw [upN_non hi hki] at this
        subst this
        exact hk
    · rw [if_neg hk] at h0; omega
  · have := made_eq hi hR
    obtain ⟨h1, h2, h3⟩ := fstV_spec hi hk
    rw [upN_var hi hk] at this
    subst this
    rw [nameM, List.getElem?_eq_getElem hr]
    simp only
    rw [if_pos h2, h3]
    exact Int.le_refl _
  · rw [nameM, List.getElem?_eq_getElem hr]
    simp only
    by_cases hk : t[r].kind = 1
    · rw [if_pos hk]
      exact .inr ⟨r, hr, .here hf, hk, rfl⟩
    · rw [if_neg hk]; exact .inl rfl
  · refine ⟨hi, hj, upN t i, made_root hi, ?_⟩
    have : upN t i = upN t j := by rw [upN_var hi k1, upN_var hj k2, e]
    rw [this]
    exact made_root hj
theorem made_coh {t : List Cell} (ht : TOK t) (td : List (Nat × Nat)) : Coh t (upN t) td := by
  intro i j hi hj hc ki kj
  obtain ⟨_, _, r, r1, r2⟩ := hc
  have e1 := made_eq hi r1
  have e2 := made_eq hj r2
  rw [upN_non hi ki] at e1
  rw [upN_non hj kj] at e2
  have : i = j := by omega
  subst this
  refine ⟨rfl, fun ab hab => ?_⟩
  obtain ⟨k, k1, k2⟩ := zip_get hab
  have e : ab.1 = ab.2 := by rw [k1] at k2; exact Option.some.inj k2
  have hlt := (partsN_lt ht hi _ (List.mem_of_getElem? k1)).1
  rw [← e]
  exact .cls ⟨hlt, hlt, _, made_root hlt, made_root hlt⟩
theorem made_resp {t : List Cell} (ht : TOK t) (s : Int → List Cell) : Resp t (upN t) s := by
  have key : ∀ {i r}, i < t.length → Root (upN t) i r → valS t s i = valS t s r := by
    intro i r hi hr
    have e := made_eq hi hr
    subst e
    by_cases hk : t[i].kind = 1
    · obtain ⟨h1, h2, h3⟩ := fstV_spec hi hk
      rw [upN_var hi hk, valS_var ht hi hk, valS_var ht h1 h2, h3]
    · rw [upN_non hi hk]
  rintro i j ⟨hi, hj, r, r1, r2⟩
  rw [key hi r1, key hj r2]
theorem roots_lt {p : Nat → Nat} : ∀ {n i : Nat}, i < n → p i ≠ i → roots p n + 1 ≤ n
  | 0, i, h, _ => by omega
  | n + 1, i, h, hp => by
    rw [roots]
    by_cases e : i = n
    · subst e
      rw [if_neg hp]
      have := roots_le p i
      omega
    · have := roots_lt (show i < n by omega) hp
      split <;> omega
theorem made_uf2 (t : List Cell) : ∃ m d, UF t.length m (upN t) d ∧ m + roots (upN t) t.length ≤ t.length := by
  by_cases h : ∃ i, i < t.length ∧ upN t i ≠ i
  · obtain ⟨i, hi, hp⟩ := h
    exact ⟨1, _, made_uf t, by have := roots_lt hi hp; omega⟩
  · have h' : ∀ i, i < t.length → upN t i = i := fun i hi => Classical.byContradiction fun k => h ⟨i, hi, k⟩
    have uf := made_uf t
    exact ⟨0, fun _ => 0, ⟨uf.lt, fun _ _ _ => rfl, fun i hi k => absurd (h' i hi) k, fun _ _ => Nat.le_refl _⟩, by have := roots_le (upN t) t.length; omega⟩
/-- The classes of two right terms. -/
theorem join_law {t : List Cell} (ht : TOK t) {k F : Nat} (h0 : 0 < t.length) (hk : k < t.length) (hF : t.length * (t.length + 1) + t.length + 3 ≤ F) :
    ∃ ok p' D' N', joinF t F (upN t) (doesM t) (nameM t) [(0, k)] = some (ok, p', D', N') ∧
      (ok = true → ∃ m' d', UF t.length m' p' d' ∧ m' ≤ t.length ∧ JS t p' D' N' ∧ Coh t p' [] ∧ Cl t.length p' 0 k) ∧
      ∀ s, Terms s → valS t s 0 = valS t s k → ok = true ∧ Resp t p' s := by
  obtain ⟨m, d, uf, hm⟩ := made_uf2 t
  have hr := roots_le (upN t) t.length
  have hmul : roots (upN t) t.length * (t.length + 1) ≤ t.length * (t.length + 1) := Nat.mul_le_mul_right _ hr
  obtain ⟨ok, p', D', N', k1, k2, k3⟩ := joinF_law ht F (td := [(0, k)]) uf (made_js t) (made_coh ht _) (fun ab h => by simp only [List.mem_singleton] at h; subst h; exact ⟨h0, hk⟩) hm (by simp only [List.length_cons, List.length_nil]; omega)
  refine ⟨ok, p', D', N', k1, fun h => ?_, fun s h1 h2 => k3 s h1 (made_resp ht s) fun ab h => by simp only [List.mem_singleton] at h; subst h; exact h2⟩
  obtain ⟨m', d', q1, q2, q3, q4, q5⟩ := k2 h
  exact ⟨m', d', q1, q2, q3, q4, q5 _ _ (.pair (by simp))⟩
end Go.Am.Seat
/-
  THE PLAIN LAW: a class's term.
-/
namespace Go.Am.Seat
section
variable (t : List Cell) (p : Nat → Nat) (D N : Nat → Int)
mutual
/-- The term of a place's class. -/
inductive Trm : Nat → List Cell → Prop
  | var {i r : Nat} (hr : Root p i r) (h : D r < 0) : Trm i [varCell (N r)]
  | fn {i r j : Nat} {c : Cell} {l : List Cell} (hr : Root p i r) (h : D r = (j : Int)) (hj : t[j]? = some c) (hl : TrmL (partsN t j) l) : Trm i (c :: l)
inductive TrmL : List Nat → List Cell → Prop
  | nil : TrmL [] []
  | cons {q : Nat} {l : List Nat} {a b : List Cell} (h : Trm q a) (k : TrmL l b) : TrmL (q :: l) (a ++ b)
end
end
section
variable {t : List Cell} {p : Nat → Nat} {D N : Nat → Int}
theorem Trm.pos {i : Nat} {l : List Cell} (h : Trm t p D N i l) : 1 ≤ l.length := by
  cases h <;> simp
mutual
theorem Trm.uniq : ∀ {i : Nat} {l l' : List Cell}, Trm t p D N i l → Trm t p D N i l' → l = l'
  | _, _, _, .var hr h, k => by
    cases k with
    | var hr' h' => rw [hr.uniq hr']
    | fn hr' h' hj hl => rw [hr.uniq hr', h'] at h; omega
  | _, _, _, .fn hr h hj hl, k => by
    cases k with
    | var hr' h' => rw [hr'.uniq hr, h] at h'; omega
    | fn hr' h' hj' hl' =>
      have e := hr.uniq hr'
      subst e
      rw [h] at h'
      have e2 := Int.ofNat.inj h'
      subst e2
      rw [hj] at hj'
      cases hj'
      rw [TrmL.uniq hl hl']
theorem TrmL.uniq : ∀ {q : List Nat} {l l' : List Cell}, TrmL t p D N q l → TrmL t p D N q l' → l = l'
  | _, _, _, .nil, k => by cases k; rfl
  | _, _, _, .cons h hk, k => by
    cases k with
    | cons h' hk' => rw [Trm.uniq h h', TrmL.uniq hk hk']
end
theorem Trm.cls {i j : Nat} {l : List Cell} (h : Trm t p D N i l) (hc : Cl t.length p i j) : Trm t p D N j l := by
  obtain ⟨_, _, r, r1, r2⟩ := hc
  cases h with
  | var hr h => rw [hr.uniq r1] at h ⊢; exact .var r2 h
  | fn hr h hj hl => rw [hr.uniq r1] at h; exact .fn r2 h hj hl
theorem TrmL.vals {v : Nat → List Cell} : ∀ {qs : List Nat} {l : List Cell}, TrmL t p D N qs l → (∀ q ∈ qs, ∀ l, Trm t p D N q l → v q = l) → (qs.map v).flatten = l
  | _, _, .nil, _ => rfl
  | _, _, .cons (q := q) h hk, hv => by
    rw [List.map_cons, List.flatten_cons, hv q (by simp) _ h, TrmL.vals hk fun q hq => hv q (by simp [hq])]
theorem TrmL.cls : ∀ {qs qs' : List Nat} {l : List Cell}, TrmL t p D N qs l → qs.length = qs'.length → (∀ ab ∈ qs.zip qs', Cl t.length p ab.1 ab.2) → TrmL t p D N qs' l
  | [], [], _, h, _, _ => h
  | [], _ :: _, _, _, h, _ => by simp at h
  | _ :: _, [], _, _, h, _ => by simp at h
  | q :: qs, q' :: qs', _, .cons h hk, hl, hc => by
    refine .cons (h.cls (hc (q, q') (by simp))) (TrmL.cls hk (by simpa using hl) fun ab hab => hc ab (by simp [hab]))
open Classical in
/-- What the classes put for each variable. -/
noncomputable def sol (t : List Cell) (p : Nat → Nat) (D N : Nat → Int) (n : Int) : List Cell := if h : ∃ l : List Cell, ∃ (i : Nat) (hi : i < t.length), t[i].kind = 1 ∧ t[i].n = n ∧ Trm t p D N i l then h.choose else [varCell n]
theorem sol_var (js : JS t p D N) {i : Nat} (hi : i < t.length) (hk : t[i].kind = 1) {l : List Cell} (h : Trm t p D N i l) : sol t p D N t[i].n = l := by
  have hx : ∃ l : List Cell, ∃ (j : Nat) (hj : j < t.length), t[j].kind = 1 ∧ t[j].n = t[i].n ∧ Trm t p D N j l := ⟨l, i, hi, hk, rfl, h⟩
  unfold sol
  rw [dif_pos hx]
  obtain ⟨j, hj, k1, k2, k3⟩ := hx.choose_spec
  exact (k3.cls (js.vars j i hj hi k1 hk k2)).uniq h
theorem UF.root_lt {n m : Nat} {d : Nat → Nat} (uf : UF n m p d) {i r : Nat} (hi : i < n) (h : Root p i r) : r < n := by
  obtain ⟨s, h1, h2⟩ := uf.root (d i) i (Nat.le_refl _) hi
  rw [← h1.uniq h]; exact h2
theorem sol_val {m : Nat} {d : Nat → Nat} (ht : TOK t) (uf : UF t.length m p d) (js : JS t p D N) (co : Coh t p []) : ∀ (k i : Nat), t.length - i ≤ k → (hi : i < t.length) → ∀ l, Trm t p D N i l → valS t (sol t p D N) i = l
  | 0, i, hk, hi, l, h => by omega
  | k + 1, i, hk, hi, l, h => by
    by_cases hv : t[i].kind = 1
    · rw [valS_var ht hi hv]; exact sol_var js hi hv h
    · cases h with
      | @var _ r hr h0 => exact absurd (js.dneg r (uf.root_lt hi hr) hr.fix h0 i hi hr) hv
      | @fn _ r j c ls hr h0 hj hl =>
        obtain ⟨j', hj', e1, e2, e3⟩ := js.dpos r (uf.root_lt hi hr) hr.fix (by omega)
        have : j' = j := by omega
        subst this
        obtain ⟨e4, e5⟩ := co i j' hi hj' ⟨hi, hj', r, hr, e2⟩ hv e3
        rw [List.getElem?_eq_getElem hj'] at hj
        cases hj
        have hlen := parts_eqlen hj' hi e4.symm
        have hl2 : TrmL t p D N (partsN t i) ls := hl.cls hlen fun ab hab => by
          obtain ⟨q, q1, q2⟩ := zip_get hab
          exact (e5 (ab.2, ab.1) (get_zip q2 q1)).nil.symm
        rw [valS_fun ht hi hv, hl2.vals fun q hq l' h' => sol_val ht uf js co k q (by have := (partsN_lt ht hi q hq).2; omega) (partsN_lt ht hi q hq).1 l' h', e4]
end
end Go.Am.Seat
/-
  MADE BY PROGRAM (am.py): the walks of functions 42.
-/
namespace Go.Am.Seat
open Go.Proofs

def arrB (n : Nat) (f : Nat → Bool) : List Av := (List.range n).map fun i => .sc (.bool (f i))
theorem arrB_len {n : Nat} {f : Nat → Bool} : (arrB n f).length = n := by simp [arrB]
theorem arrB_set {n : Nat} {f : Nat → Bool} {i : Nat} {v : Bool} : (arrB n f).set i (.sc (.bool v)) = arrB n (upd f i v) := by
  apply List.ext_getElem?
  intro j
  simp only [arrB, List.getElem?_set, List.length_map, List.length_range, List.getElem?_map, List.getElem?_range]
  by_cases h : i = j
  · subst h
    by_cases hn : i < n
    · simp [hn, List.getElem?_range, upd]
    · simp [hn, List.getElem?_range]
  · by_cases hn : j < n
    · simp [h, hn, List.getElem?_range, upd, show ¬ j = i from fun e => h e.symm]
    · simp [h, hn, List.getElem?_range]
theorem ixB {id n i : Nat} (hi : i < n) : aIndex T 89 (.av (.own id 0 n 1)) (vI i) = some (.av (.ptr id i)) := by
  unfold aIndex
  simp only [T89, Option.bind_some, y89, T4, y4]
  rw [if_pos ⟨trivial, by omega, by omega⟩]
  simp
theorem ldBo {ob : Nat → Obj} {id n i fz : Nat} {f : Nat → Bool} (h : ob id = .cs (arrB n f) fz) (hi : i < n) : aLoad T ob 4 (.av (.ptr id i)) = some (vB (f i)) := by
  unfold aLoad
  simp only [T4, Option.bind_some, h, y4, arrB_len]
  rw [if_pos (by omega), List.drop_eq_getElem_cons (by rw [arrB_len]; exact hi)]
  simp [unflat, isAggD, arrB]
theorem stB {ob : Nat → Obj} {id n i fz : Nat} {f : Nat → Bool} (h : ob id = .cs (arrB n f) fz) (hi : i < n) (hf : fz ≤ i) (v : Bool) : aStore T ob 4 (.av (.ptr id i)) (vB v) = some (upd ob id (.cs (arrB n (upd f i v)) fz)) := by
  unfold aStore
  simp only [vB, cellsA, T4, Option.bind_some, h, y4, arrB_len, storeL, arrB_set, List.length_cons, List.length_nil]
  rw [if_pos ⟨trivial, hf, by omega⟩]
theorem mk89 {ob : Nat → Obj} {nid n : Nat} (hn : n ≤ 1000000000) : aMake T ob nid 89 (vI (n : Int)) (vI (n : Int)) = some (.av (.own nid 0 n 1), upd ob nid (.cs (arrB n fun _ => false) 0)) := by
  unfold aMake
  simp only [vI, T89, y89, T4, Option.bind_some]
  rw [if_pos ⟨by omega, Int.le_refl _, by omega, by simp [y4], by simp [y4]⟩]
  simp only [Int.toNat_natCast, y4, Nat.mul_one]
  congr 4
  simp [zerosA, arrB, Nat.mod_one]
/-- How many are not done. -/
def cntF (f : Nat → Bool) : Nat → Nat
  | 0 => 0
  | n + 1 => cntF f n + if f n = false then 1 else 0
theorem cntF_all (n : Nat) : cntF (fun _ => false) n = n := by
  induction n with
  | zero => rfl
  | succ n ih => rw [cntF, ih, if_pos rfl]
theorem cntF_upd {f : Nat → Bool} {x : Nat} (h : f x = false) : ∀ {n : Nat}, (n ≤ x → cntF (upd f x true) n = cntF f n) ∧ (x < n → cntF (upd f x true) n + 1 = cntF f n)
  | 0 => ⟨fun _ => rfl, fun h => by omega⟩
  | n + 1 => by
    obtain ⟨h1, h2⟩ := cntF_upd h (n := n)
    rw [cntF, cntF]
    refine ⟨fun hx => by rw [upd_ne _ _ (by omega), h1 (by omega)], fun hx => ?_⟩
    by_cases e : n = x
    · subst e
      rw [upd_same, h1 (Nat.le_refl _), if_neg (by decide), if_pos h]
    · rw [upd_ne _ _ e, ← h2 (by omega)]
      omega
/-- The classes, as a row of numbers. -/
def clL (n : Nat) (c : Nat → Nat) : List Int := (List.range n).map fun i => (c i : Int)
theorem clL_len (n : Nat) (c : Nat → Nat) : (clL n c).length = n := by simp [clL]
/-- What a class does. -/
def Dd (t : List Cell) (c : Nat → Nat) (i : Nat) : Int := doesG t (clL t.length c) (c i) 0
/-- What stops a class. -/
def Stk (t : List Cell) (c : Nat → Nat) (f : Nat → Bool) (i : Nat) : Prop := f (c i) = true ∨ ∃ j q, Dd t c i = ((j : Nat) : Int) ∧ q ∈ partsN t j ∧ f (c q) = false
theorem ci_root {n : Nat} {c : Nat → Nat} (h : CI n c) {i : Nat} (hi : i < n) : Root c i (c i) := by
  by_cases e : c i = i
  · rw [e]; exact .here e
  · exact .step e (.here (h i hi).2)
theorem trmL_of {t : List Cell} {p : Nat → Nat} {D N : Nat → Int} : ∀ {qs : List Nat}, (∀ q ∈ qs, ∃ l, Trm t p D N q l) → ∃ l, TrmL t p D N qs l
  | [], _ => ⟨[], .nil⟩
  | q :: qs, h => by
    obtain ⟨a, ha⟩ := h q (by simp)
    obtain ⟨b, hb⟩ := trmL_of (qs := qs) fun q hq => h q (by simp [hq])
    exact ⟨a ++ b, .cons ha hb⟩
/-- What is done has a term. -/
def DI (t : List Cell) (c : Nat → Nat) (N : Nat → Int) (f : Nat → Bool) : Prop := ∀ i, i < t.length → f (c i) = true → ∃ l, Trm t c (Dd t c) N i l
theorem DI.set {t : List Cell} {c : Nat → Nat} {N : Nat → Int} {f : Nat → Bool} (h : DI t c N f) (hc : CI t.length c) {i : Nat} (hi : i < t.length) (hx : Dd t c i < 0 ∨ ∃ j, j < t.length ∧ Dd t c i = ((j : Nat) : Int) ∧ ∀ q ∈ partsN t j, q < t.length ∧ f (c q) = true) : DI t c N (upd f (c i) true) := by
  have hD : Dd t c (c i) = Dd t c i := by unfold Dd; rw [(hc i hi).2]
  have hT : ∃ l, Trm t c (Dd t c) N i l := by
    rcases hx with hx | ⟨j, hj, h1, h2⟩
    · exact ⟨_, .var (ci_root hc hi) (by rw [hD]; exact hx)⟩
    · obtain ⟨l, hl⟩ := trmL_of (t := t) (p := c) (D := Dd t c) (N := N) (qs := partsN t j) fun q hq => h q (h2 q hq).1 (h2 q hq).2
      exact ⟨_, .fn (ci_root hc hi) (by rw [hD]; exact h1) (List.getElem?_eq_getElem hj) hl⟩
  intro a ha hfa
  by_cases e : c a = c i
  · obtain ⟨l, hl⟩ := hT
    exact ⟨l, hl.cls ⟨hi, ha, c i, ci_root hc hi, e ▸ ci_root hc ha⟩⟩
  · rw [upd_ne _ _ e] at hfa
    exact h a ha hfa
theorem clL_get {n i : Nat} {c : Nat → Nat} (hi : i < n) : (clL n c)[i]'(by rw [clL_len]; exact hi) = (c i : Int) := by
  simp [clL]
theorem fnDoes (L : Loops) {t : List Cell} {n i : Nat} {c : Nat → Nat} {d : Int} (hd : Dd t c i = d) (s : Me) (x : Sc) (hx : GSl encC x t) (hn : n = t.length) (hl : n ≤ 1000000) (hi : i < n) : FnL Try.prog L 44 [.av (.sc x), .av (.sc (scN n c)), vI i] s fun r s' => r = vI d ∧ s' = s := by
  subst hn hd
  refine (fn44 L t (clL t.length c) i s x _ hx (scN_gsl _ _) (by omega) (clL_len _ _) (by rw [clL_len]; exact hi)).mono fun r s' h => ⟨h.1.trans ?_, h.2⟩
  rw [clL_get hi, Dd]

-- many steps
theorem bod42 : Try.f42.body = some (Try.f42.body.getD .skip) := rfl
set_option maxHeartbeats 2000000 in
theorem fn42 (L : Loops) (t : List Cell) (n : Nat) (c : Nat → Nat) (N : Nat → Int) (s : Me) (x : Sc) (hx : GSl encC x t) (hn : n = t.length) (hl : n ≤ 1000000) (ht : TOK t) (hci : CI t.length c) (hDl : ∀ i, i < n → Dd t c i < n) : FnL Try.prog L 42 [.av (.sc x), .av (.sc (scN n c))] s fun r s' => (∃ w, r = vB w ∧ (w = false → ∀ i, i < n → ∃ l, Trm t c (Dd t c) N i l) ∧ (w = true → ∃ f : Nat → Bool, (∃ i, i < n ∧ f (c i) = false) ∧ ∀ i, i < n → Stk t c f i)) ∧ s' = s := by
  refine FnL.pure (R := fun r => ∃ w, r = vB w ∧ (w = false → ∀ i, i < n → ∃ l, Trm t c (Dd t c) N i l) ∧ (w = true → ∃ f : Nat → Bool, (∃ i, i < n ∧ f (c i) = false) ∧ ∀ i, i < n → Stk t c f i)) ?_
  refine fn_of_body (ts := [4]) Try.func42 bod42 rfl (by simp) (by simp [Try.ntmps42]) fun D0 => ?_
  unfold Try.f42
  simp only [Option.getD_some, initSl]
  refine aw_region_seq C (pb := false) rfl fun K hK => ?_
  repeat' (first | refine wy1 (a := by simp only [go_sem, ↓reduceIte, Nat.reduceEqDiff, reduceCtorEq, Nat.reduceAdd, Nat.reduceMul, Nat.reduceLeDiff]; exact rfl) (h := ?_) | fail)
  refine awOps_nil (hK _ _ ?_)
  clear hK K
  refine aw_region_seq C (pb := false) rfl fun K hK => ?_
  repeat' (first | refine wy1 (a := by simp only [go_sem, ↓reduceIte, Nat.reduceEqDiff, reduceCtorEq, Nat.reduceAdd, Nat.reduceMul, Nat.reduceLeDiff, lenC hx, ← hn, mk89 (show n ≤ 1000000000 by omega)]; exact rfl) (h := ?_) | fail)
  refine awOps_nil (hK _ _ ?_)
  refine AW.less (sl' := [(0, .av (.sc x)), (1, .av (.sc (scN n c))), (5, .av (.own (s.nx + 1 + 1 + 1) 0 n 1)), (6, vI 0)]) (AllIn.less ⟨rfl, rfl, rfl, rfl, trivial⟩) ?_
  obtain ⟨id, hid⟩ : ∃ id, id = s.nx + 3 := ⟨_, rfl⟩
  refine aw_state (J := fun s2 => Kp s s2 ∧ id < s2.nx ∧ s2.ob id = .cs (arrB n fun _ => false) 0) ⟨⟨(by first | omega | (dsimp only; omega) | (dsimp only at *; omega)), fun j hj => upd_ne _ _ (by omega), rfl⟩, (by first | omega | (dsimp only; omega) | (dsimp only at *; omega)), by rw [hid]; exact upd_same _ _ _⟩ fun s2 hJ => ?_
  rw [show s.nx + 1 + 1 + 1 = id from hid.symm]
  clear hK K
  refine aw_seq ?_
  refine aw_block ?_
  refine AW.less (sl' := [(0, .av (.sc x)), (1, .av (.sc (scN n c))), (5, .av (.own id 0 n 1)), (6, vI (0))]) (AllIn.less ⟨rfl, rfl, rfl, rfl, trivial⟩) (aw_loop (fun k sl1 s1 => ∃ (mn0 : Nat) (f0 : Nat → Bool), k = n - mn0 ∧ sl1 = [(0, .av (.sc x)), (1, .av (.sc (scN n c))), (5, .av (.own id 0 n 1)), (6, vI (mn0))] ∧ (Kp s s1 ∧ id < s1.nx ∧ s1.ob id = .cs (arrB n f0) 0) ∧ (mn0 + cntF f0 n = n) ∧ (DI t c N f0)) (k := n - (0)) ⟨0, fun _ => false, rfl, rfl, ⟨hJ.1.up (by first | omega | (dsimp only; omega) | (dsimp only at *; omega)), by have := hJ.2.1; exact (by first | omega | (dsimp only; omega) | (dsimp only at *; omega)), hJ.2.2⟩, by rw [cntF_all]; omega, fun i hi h => by cases h⟩ ?_)
  rintro k0 _ s0 ⟨mn0, f0, hk0, rfl, hs0, hm0, hd0⟩
  refine aw_block ?_
  refine aw_region_seq C (pb := false) rfl fun K hK => ?_
  repeat' (first | refine wy1 (a := by simp only [go_sem, ↓reduceIte, Nat.reduceEqDiff, reduceCtorEq, Nat.reduceAdd, Nat.reduceMul, Nat.reduceLeDiff]; exact rfl) (h := ?_) | fail)
  refine awOps_nil (hK _ _ ?_)
  clear hK K
  refine aw_seq ?_
  refine aw_region_seq C (pb := false) rfl fun K hK => ?_
  repeat' (first | refine wy1 (a := by simp only [go_sem, ↓reduceIte, Nat.reduceEqDiff, reduceCtorEq, Nat.reduceAdd, Nat.reduceMul, Nat.reduceLeDiff]; exact rfl) (h := ?_) | fail)
  refine awOps_nil (hK _ _ ?_)
  clear hK K
  refine aw_block ?_
  refine AW.less (sl' := [(0, .av (.sc x)), (1, .av (.sc (scN n c))), (5, .av (.own id 0 n 1)), (6, vI (mn0)), (7, vI mn0), (8, vI (0))]) (AllIn.less ⟨rfl, rfl, rfl, rfl, rfl, rfl, trivial⟩) (aw_loop (fun k sl1 s1 => ∃ (mn : Nat) (f : Nat → Bool) (i : Nat), k = n - i ∧ sl1 = [(0, .av (.sc x)), (1, .av (.sc (scN n c))), (5, .av (.own id 0 n 1)), (6, vI (mn)), (7, vI mn0), (8, vI (i))] ∧ (Kp s s1 ∧ id < s1.nx ∧ s1.ob id = .cs (arrB n f) 0) ∧ (i ≤ n) ∧ (mn + cntF f n = n ∧ mn0 ≤ mn) ∧ (DI t c N f) ∧ (mn = mn0 → ∀ a, a < i → Stk t c f a)) (k := n - (0)) ⟨mn0, f0, 0, rfl, rfl, ⟨hs0.1.up (by first | omega | (dsimp only; omega) | (dsimp only at *; omega)), by have := hs0.2.1; exact (by first | omega | (dsimp only; omega) | (dsimp only at *; omega)), hs0.2.2⟩, Nat.zero_le _, ⟨hm0, Nat.le_refl _⟩, hd0, fun _ a h => absurd h (by omega)⟩ ?_)
  rintro k1 _ s1 ⟨mn, f, i, hk1, rfl, hs1, hb, hm, hd, hst⟩
  refine aw_seq ?_
  refine aw_region_seq C (pb := false) rfl fun K hK => ?_
  repeat' (first | refine wy1 (a := by simp only [go_sem, ↓reduceIte, Nat.reduceEqDiff, reduceCtorEq, Nat.reduceAdd, Nat.reduceMul, Nat.reduceLeDiff, lenC hx, ← hn]; exact rfl) (h := ?_) | fail)
  refine awOps_nil (hK _ _ ?_)
  clear hK K
  refine aw_cond (by rfl) ?_ ?_
  · intro hc0
    try simp only [decide_eq_true_eq, decide_eq_false_iff_not] at hc0
    have hi2 : i < t.length := by omega
    have hi3 : i < n := by omega
    obtain ⟨r1, hix⟩ := idxN (c := c) hi3
    have hci2 : c i < n := by rw [hn]; exact (hci i hi2).1
    obtain ⟨d, hdd⟩ : ∃ d, d = Dd t c i := ⟨_, rfl⟩
    refine aw_skip ?_
    simp only [thenA_normal, thenA_ret, thenA_exit, blockA_normal, blockA_ret, blockA_exit, ↓reduceIte, Nat.reduceEqDiff]
    refine aw_seq ?_
    refine aw_block ?_
    refine aw_region_seq C (pb := false) rfl fun K hK => ?_
    repeat' (first | refine wy1 (a := by simp only [go_sem, ↓reduceIte, Nat.reduceEqDiff, reduceCtorEq, Nat.reduceAdd, Nat.reduceMul, Nat.reduceLeDiff]; exact rfl) (h := ?_) | fail)
    (refine wc (And.intro Try.call44 (fnDoes L hdd.symm _ x hx hn hl hi3)) ?_; rintro _ _ ⟨rfl, rfl⟩)
    repeat' (first | refine wy1 (a := by simp only [go_sem, ↓reduceIte, Nat.reduceEqDiff, reduceCtorEq, Nat.reduceAdd, Nat.reduceMul, Nat.reduceLeDiff]; exact rfl) (h := ?_) | fail)
    refine awOps_nil (hK _ _ ?_)
    clear hK K
    refine aw_seq ?_
    refine aw_region_seq C (pb := false) rfl fun K hK => ?_
    repeat' (first | refine wy1 (a := by simp only [go_sem, ↓reduceIte, Nat.reduceEqDiff, reduceCtorEq, Nat.reduceAdd, Nat.reduceMul, Nat.reduceLeDiff, hix, ixB hci2, ldBo hs1.2.2 hci2]; exact rfl) (h := ?_) | fail)
    refine awOps_nil (hK _ _ ?_)
    clear hK K
    refine aw_cond (by rfl) ?_ ?_
    · intro hc1
      have hSt : mn = mn0 → Stk t c f i := fun _ => .inl hc1
      refine aw_exit ?_
      simp only [thenA_normal, thenA_ret, thenA_exit, blockA_normal, blockA_ret, blockA_exit, ↓reduceIte, Nat.reduceEqDiff]
      refine aw_region C (pb := false) rfl ?_
      repeat' (first | refine wy1 (a := by simp only [go_sem, ↓reduceIte, Nat.reduceEqDiff, reduceCtorEq, Nat.reduceAdd, Nat.reduceMul, Nat.reduceLeDiff, wrap_small ((i : Int) + 1) (by omega) (by omega)]; exact rfl) (h := ?_) | fail)
      refine awOps_nil ?_
      try simp only [thenA_normal, thenA_ret, thenA_exit, blockA_normal, blockA_ret, blockA_exit]
      -- end of round 1 at 0t1t.x3
      refine ⟨n - (i + 1), [(0, .av (.sc x)), (1, .av (.sc (scN n c))), (5, .av (.own id 0 n 1)), (6, vI (mn)), (7, vI mn0), (8, vI (i + 1))], by omega, AllIn.less ⟨rfl, rfl, rfl, rfl, rfl, rfl, trivial⟩, mn, f, i + 1, rfl, rfl, ?_, ?_, ?_, ?_, ?_⟩
      · exact ⟨hs1.1.up (by first | omega | (dsimp only; omega) | (dsimp only at *; omega)), by have := hs1.2.1; exact (by first | omega | (dsimp only; omega) | (dsimp only at *; omega)), hs1.2.2⟩
      · omega
      · exact hm
      · exact hd
      · intro e a ha
        by_cases e2 : a = i
        · subst e2; exact hSt e
        · exact hst e a (by omega)
    · intro hc1
      have hfc : f (c i) = false := hc1
      refine aw_skip ?_
      simp only [thenA_normal, thenA_ret, thenA_exit, blockA_normal, blockA_ret, blockA_exit, ↓reduceIte, Nat.reduceEqDiff]
      refine aw_region_seq C (pb := false) rfl fun K hK => ?_
      repeat' (first | refine wy1 (a := by simp only [go_sem, ↓reduceIte, Nat.reduceEqDiff, reduceCtorEq, Nat.reduceAdd, Nat.reduceMul, Nat.reduceLeDiff]; exact rfl) (h := ?_) | fail)
      refine awOps_nil (hK _ _ ?_)
      clear hK K
      refine aw_seq ?_
      refine aw_region_seq C (pb := false) rfl fun K hK => ?_
      repeat' (first | refine wy1 (a := by simp only [go_sem, ↓reduceIte, Nat.reduceEqDiff, reduceCtorEq, Nat.reduceAdd, Nat.reduceMul, Nat.reduceLeDiff]; exact rfl) (h := ?_) | fail)
      refine awOps_nil (hK _ _ ?_)
      clear hK K
      refine aw_cond (by rfl) ?_ ?_
      · intro hc2
        have hd0' : 0 ≤ d := of_decide_eq_true hc2
        obtain ⟨jd, rfl⟩ : ∃ j : Nat, d = (j : Int) := ⟨d.toNat, by omega⟩
        have hj2 : jd < t.length := by have := hDl i hi3; omega
        obtain ⟨q1, hq1⟩ := ht.1 jd hj2
        refine aw_region_seq C (pb := false) rfl fun K hK => ?_
        repeat' (first | refine wy1 (a := by simp only [go_sem, ↓reduceIte, Nat.reduceEqDiff, reduceCtorEq, Nat.reduceAdd, Nat.reduceMul, Nat.reduceLeDiff]; exact rfl) (h := ?_) | fail)
        refine wc (And.intro Try.call68 (fn68 L t jd q1 _ x hx (by omega) ht.2 hq1 hj2)) ?_
        rintro _ _ ⟨⟨y1, rfl, hy1⟩, rfl⟩
        repeat' (first | refine wy1 (a := by simp only [go_sem, ↓reduceIte, Nat.reduceEqDiff, reduceCtorEq, Nat.reduceAdd, Nat.reduceMul, Nat.reduceLeDiff]; exact rfl) (h := ?_) | fail)
        refine awOps_nil (hK _ _ ?_)
        clear hK K
        refine aw_region_seq C (pb := false) rfl fun K hK => ?_
        repeat' (first | refine wy1 (a := by simp only [go_sem, ↓reduceIte, Nat.reduceEqDiff, reduceCtorEq, Nat.reduceAdd, Nat.reduceMul, Nat.reduceLeDiff]; exact rfl) (h := ?_) | fail)
        refine awOps_nil (hK _ _ ?_)
        clear hK K
        refine aw_block ?_
        refine AW.less (sl' := [(0, .av (.sc x)), (1, .av (.sc (scN n c))), (5, .av (.own id 0 n 1)), (6, vI mn), (7, vI mn0), (8, vI i), (9, vI (jd : Nat)), (10, vB (true)), (11, .av (.sc y1)), (12, vI (0))]) (AllIn.less ⟨rfl, rfl, rfl, rfl, rfl, rfl, rfl, rfl, rfl, rfl, trivial⟩) (aw_loop (fun k sl1 s1 => ∃ (m : Nat) (b : Bool), k = (partsN t jd).length - m ∧ sl1 = [(0, .av (.sc x)), (1, .av (.sc (scN n c))), (5, .av (.own id 0 n 1)), (6, vI mn), (7, vI mn0), (8, vI i), (9, vI (jd : Nat)), (10, vB (b)), (11, .av (.sc y1)), (12, vI (m))] ∧ (Kp s s1 ∧ id < s1.nx ∧ s1.ob id = .cs (arrB n f) 0) ∧ (m ≤ (partsN t jd).length) ∧ (b = true → ∀ q (h : q < (partsN t jd).length), q < m → f (c (partsN t jd)[q]) = true) ∧ (b = false → ∃ q ∈ partsN t jd, f (c q) = false)) (k := (partsN t jd).length - (0)) ⟨0, true, rfl, rfl, ⟨hs1.1.up (by first | omega | (dsimp only; omega) | (dsimp only at *; omega)), by have := hs1.2.1; exact (by first | omega | (dsimp only; omega) | (dsimp only at *; omega)), hs1.2.2⟩, Nat.zero_le _, fun _ q _ h => absurd h (by omega), fun h => by cases h⟩ ?_)
        rintro k2 _ s2 ⟨m, b, hk2, rfl, hs2, hb3, hbt, hbf⟩
        refine aw_seq ?_
        refine aw_region_seq C (pb := false) rfl fun K hK => ?_
        repeat' (first | refine wy1 (a := by simp only [go_sem, ↓reduceIte, Nat.reduceEqDiff, reduceCtorEq, Nat.reduceAdd, Nat.reduceMul, Nat.reduceLeDiff, lenI hy1, ← partsN_len]; exact rfl) (h := ?_) | fail)
        refine awOps_nil (hK _ _ ?_)
        clear hK K
        refine aw_cond (by rfl) ?_ ?_
        · intro hc3
          try simp only [decide_eq_true_eq, decide_eq_false_iff_not] at hc3
          have hm2 : m < (partsN t jd).length := by omega
          obtain ⟨r3, hp1⟩ := idxP hy1 hm2
          have hpm := List.getElem_mem hm2
          have hl1 := (partsN_lt ht hj2 _ hpm).1
          obtain ⟨pa, hpa⟩ : ∃ p, p = (partsN t jd)[m] := ⟨_, rfl⟩
          rw [← hpa] at hp1 hl1 hpm
          obtain ⟨r5, hca⟩ := idxN (c := c) (i := pa) (n := n) (by omega)
          have hcp : c pa < n := by rw [hn]; exact (hci pa hl1).1
          refine aw_skip ?_
          simp only [thenA_normal, thenA_ret, thenA_exit, blockA_normal, blockA_ret, blockA_exit, ↓reduceIte, Nat.reduceEqDiff]
          refine aw_seq ?_
          refine aw_block ?_
          refine aw_cut C (pb := false) [(0, .av (.sc x)), (1, .av (.sc (scN n c))), (5, .av (.own id 0 n 1)), (6, vI mn), (7, vI mn0), (8, vI i), (9, vI (jd : Nat)), (11, .av (.sc y1)), (12, vI m), (10, vB (b && f (c pa)))] rfl ?_ fun n14 hn14 => ?_
          · cases hA0 : (b : Bool)
            all_goals (repeat' (first | refine wy1 (a := by simp only [go_sem, ↓reduceIte, Nat.reduceEqDiff, reduceCtorEq, Nat.reduceAdd, Nat.reduceMul, Nat.reduceLeDiff, hp1, hca, ixB hcp, ldBo hs2.2.2 hcp, hA0]; exact rfl) (h := ?_) | refine wn (h := ?_) | fail))
            all_goals (exact awOps_nil ⟨⟨rfl, rfl, rfl, rfl, rfl, rfl, rfl, rfl, rfl, rfl, trivial⟩, rfl, (by first | omega | (dsimp only; omega)), rfl⟩)
          simp only [thenA_normal, thenA_ret, thenA_exit, blockA_normal, blockA_ret, blockA_exit]
          refine aw_region C (pb := false) rfl ?_
          repeat' (first | refine wy1 (a := by simp only [go_sem, ↓reduceIte, Nat.reduceEqDiff, reduceCtorEq, Nat.reduceAdd, Nat.reduceMul, Nat.reduceLeDiff, wrap_small ((m : Int) + 1) (by have := parts_le ht hj2; omega) (by have := parts_le ht hj2; omega)]; exact rfl) (h := ?_) | fail)
          refine awOps_nil ?_
          try simp only [thenA_normal, thenA_ret, thenA_exit, blockA_normal, blockA_ret, blockA_exit]
          -- end of round 2 at 0t1f2t3t
          refine ⟨(partsN t jd).length - (m + 1), [(0, .av (.sc x)), (1, .av (.sc (scN n c))), (5, .av (.own id 0 n 1)), (6, vI mn), (7, vI mn0), (8, vI i), (9, vI (jd : Nat)), (10, vB ((b && f (c pa)))), (11, .av (.sc y1)), (12, vI (m + 1))], by omega, AllIn.less ⟨rfl, rfl, rfl, rfl, rfl, rfl, rfl, rfl, rfl, rfl, trivial⟩, m + 1, (b && f (c pa)), rfl, rfl, ?_, ?_, ?_, ?_⟩
          · exact ⟨hs2.1.up (by first | omega | (dsimp only; omega) | (dsimp only at *; omega)), by have := hs2.2.1; exact (by first | omega | (dsimp only; omega) | (dsimp only at *; omega)), hs2.2.2⟩
          · omega
          · intro e q h hq
            rw [Bool.and_eq_true] at e
            by_cases e2 : q = m
            · subst e2; rw [← hpa]; exact e.2
            · exact hbt e.1 q h (by omega)
          · intro e
            rw [Bool.and_eq_false_iff] at e
            rcases e with e | e
            · exact hbf e
            · exact ⟨pa, hpm, e⟩
        · intro hc3
          try simp only [decide_eq_true_eq, decide_eq_false_iff_not] at hc3
          refine aw_exit ?_
          simp only [thenA_normal, thenA_ret, thenA_exit, blockA_normal, blockA_ret, blockA_exit, ↓reduceIte, Nat.reduceEqDiff]
          refine aw_region_seq C (pb := false) rfl fun K hK => ?_
          repeat' (first | refine wy1 (a := by simp only [go_sem, ↓reduceIte, Nat.reduceEqDiff, reduceCtorEq, Nat.reduceAdd, Nat.reduceMul, Nat.reduceLeDiff]; exact rfl) (h := ?_) | fail)
          refine awOps_nil (hK _ _ ?_)
          clear hK K
          refine aw_cond (by rfl) ?_ ?_
          · intro hc4
            have hst9 := hs2.2.2
            have hDs : Dd t c i < 0 ∨ ∃ j, j < t.length ∧ Dd t c i = ((j : Nat) : Int) ∧ ∀ q ∈ partsN t j, q < t.length ∧ f (c q) = true := .inr ⟨jd, hj2, hdd.symm, fun q hq => ⟨(partsN_lt ht hj2 q hq).1, by
              obtain ⟨a, ha, rfl⟩ := List.getElem_of_mem hq
              exact hbt hc4 a ha (by omega)⟩⟩
            refine aw_region_seq C (pb := false) rfl fun K hK => ?_
            repeat' (first | refine wy1 (a := by simp only [go_sem, ↓reduceIte, Nat.reduceEqDiff, reduceCtorEq, Nat.reduceAdd, Nat.reduceMul, Nat.reduceLeDiff, hix, ixB hci2, stB hst9 hci2 (Nat.zero_le _) true]; exact rfl) (h := ?_) | refine wz1 (a := by simp only [go_sem, ↓reduceIte, Nat.reduceEqDiff, reduceCtorEq, Nat.reduceAdd, Nat.reduceMul, Nat.reduceLeDiff, hix, ixB hci2, stB hst9 hci2 (Nat.zero_le _) true]; exact rfl) (h := ?_) | fail)
            refine awOps_nil (hK _ _ ?_)
            clear hK K
            refine aw_region C (pb := false) rfl ?_
            repeat' (first | refine wy1 (a := by simp only [go_sem, ↓reduceIte, Nat.reduceEqDiff, reduceCtorEq, Nat.reduceAdd, Nat.reduceMul, Nat.reduceLeDiff, wrap_small ((mn : Int) + 1) (by omega) (by omega)]; exact rfl) (h := ?_) | fail)
            refine awOps_nil ?_
            try simp only [thenA_normal, thenA_ret, thenA_exit, blockA_normal, blockA_ret, blockA_exit]
            refine aw_region C (pb := false) rfl ?_
            repeat' (first | refine wy1 (a := by simp only [go_sem, ↓reduceIte, Nat.reduceEqDiff, reduceCtorEq, Nat.reduceAdd, Nat.reduceMul, Nat.reduceLeDiff, wrap_small ((i : Int) + 1) (by omega) (by omega)]; exact rfl) (h := ?_) | fail)
            refine awOps_nil ?_
            try simp only [thenA_normal, thenA_ret, thenA_exit, blockA_normal, blockA_ret, blockA_exit]
            -- end of round 1 at 0t1f2t3f.x44t
            refine ⟨n - (i + 1), [(0, .av (.sc x)), (1, .av (.sc (scN n c))), (5, .av (.own id 0 n 1)), (6, vI (mn + 1)), (7, vI mn0), (8, vI (i + 1))], by omega, AllIn.less ⟨rfl, rfl, rfl, rfl, rfl, rfl, trivial⟩, mn + 1, upd f (c i) true, i + 1, rfl, rfl, ?_, ?_, ?_, ?_, ?_⟩
            · exact ⟨⟨by have := hs2.1.1; exact (by first | omega | (dsimp only; omega) | (dsimp only at *; omega)), fun j hj => (upd_ne _ _ (by omega)).trans (hs2.1.2.1 j hj), hs2.1.2.2⟩, by have := hs2.2.1; exact (by first | omega | (dsimp only; omega) | (dsimp only at *; omega)), upd_same _ _ _⟩
            · omega
            · have := (cntF_upd hfc (n := n)).2 hci2
              omega
            · exact hd.set hci hi2 hDs
            · exact fun e => absurd e (by omega)
          · intro hc4
            have hSt : mn = mn0 → Stk t c f i := fun _ => .inr (by obtain ⟨q, h1, h2⟩ := hbf hc4; exact ⟨jd, q, hdd.symm, h1, h2⟩)
            refine aw_skip ?_
            simp only [thenA_normal, thenA_ret, thenA_exit, blockA_normal, blockA_ret, blockA_exit, ↓reduceIte, Nat.reduceEqDiff]
            refine aw_region C (pb := false) rfl ?_
            repeat' (first | refine wy1 (a := by simp only [go_sem, ↓reduceIte, Nat.reduceEqDiff, reduceCtorEq, Nat.reduceAdd, Nat.reduceMul, Nat.reduceLeDiff, wrap_small ((i : Int) + 1) (by omega) (by omega)]; exact rfl) (h := ?_) | fail)
            refine awOps_nil ?_
            try simp only [thenA_normal, thenA_ret, thenA_exit, blockA_normal, blockA_ret, blockA_exit]
            -- end of round 1 at 0t1f2t3f.x44f
            refine ⟨n - (i + 1), [(0, .av (.sc x)), (1, .av (.sc (scN n c))), (5, .av (.own id 0 n 1)), (6, vI (mn)), (7, vI mn0), (8, vI (i + 1))], by omega, AllIn.less ⟨rfl, rfl, rfl, rfl, rfl, rfl, trivial⟩, mn, f, i + 1, rfl, rfl, ?_, ?_, ?_, ?_, ?_⟩
            · exact ⟨hs2.1.up (by first | omega | (dsimp only; omega) | (dsimp only at *; omega)), by have := hs2.2.1; exact (by first | omega | (dsimp only; omega) | (dsimp only at *; omega)), hs2.2.2⟩
            · omega
            · exact hm
            · exact hd
            · intro e a ha
              by_cases e2 : a = i
              · subst e2; exact hSt e
              · exact hst e a (by omega)
      · intro hc2
        have hDs : Dd t c i < 0 ∨ ∃ j, j < t.length ∧ Dd t c i = ((j : Nat) : Int) ∧ ∀ q ∈ partsN t j, q < t.length ∧ f (c q) = true := .inl (by have := of_decide_eq_false hc2; omega)
        refine aw_skip ?_
        simp only [thenA_normal, thenA_ret, thenA_exit, blockA_normal, blockA_ret, blockA_exit, ↓reduceIte, Nat.reduceEqDiff]
        refine aw_region_seq C (pb := false) rfl fun K hK => ?_
        repeat' (first | refine wy1 (a := by simp only [go_sem, ↓reduceIte, Nat.reduceEqDiff, reduceCtorEq, Nat.reduceAdd, Nat.reduceMul, Nat.reduceLeDiff]; exact rfl) (h := ?_) | fail)
        refine awOps_nil (hK _ _ ?_)
        clear hK K
        refine aw_cond (by rfl) ?_ ?_
        · intro hc5
          have hst9 := hs1.2.2
          refine aw_region_seq C (pb := false) rfl fun K hK => ?_
          repeat' (first | refine wy1 (a := by simp only [go_sem, ↓reduceIte, Nat.reduceEqDiff, reduceCtorEq, Nat.reduceAdd, Nat.reduceMul, Nat.reduceLeDiff, hix, ixB hci2, stB hst9 hci2 (Nat.zero_le _) true]; exact rfl) (h := ?_) | refine wz1 (a := by simp only [go_sem, ↓reduceIte, Nat.reduceEqDiff, reduceCtorEq, Nat.reduceAdd, Nat.reduceMul, Nat.reduceLeDiff, hix, ixB hci2, stB hst9 hci2 (Nat.zero_le _) true]; exact rfl) (h := ?_) | fail)
          refine awOps_nil (hK _ _ ?_)
          clear hK K
          refine aw_region C (pb := false) rfl ?_
          repeat' (first | refine wy1 (a := by simp only [go_sem, ↓reduceIte, Nat.reduceEqDiff, reduceCtorEq, Nat.reduceAdd, Nat.reduceMul, Nat.reduceLeDiff, wrap_small ((mn : Int) + 1) (by omega) (by omega)]; exact rfl) (h := ?_) | fail)
          refine awOps_nil ?_
          try simp only [thenA_normal, thenA_ret, thenA_exit, blockA_normal, blockA_ret, blockA_exit]
          refine aw_region C (pb := false) rfl ?_
          repeat' (first | refine wy1 (a := by simp only [go_sem, ↓reduceIte, Nat.reduceEqDiff, reduceCtorEq, Nat.reduceAdd, Nat.reduceMul, Nat.reduceLeDiff, wrap_small ((i : Int) + 1) (by omega) (by omega)]; exact rfl) (h := ?_) | fail)
          refine awOps_nil ?_
          try simp only [thenA_normal, thenA_ret, thenA_exit, blockA_normal, blockA_ret, blockA_exit]
          -- end of round 1 at 0t1f2f5t
          refine ⟨n - (i + 1), [(0, .av (.sc x)), (1, .av (.sc (scN n c))), (5, .av (.own id 0 n 1)), (6, vI (mn + 1)), (7, vI mn0), (8, vI (i + 1))], by omega, AllIn.less ⟨rfl, rfl, rfl, rfl, rfl, rfl, trivial⟩, mn + 1, upd f (c i) true, i + 1, rfl, rfl, ?_, ?_, ?_, ?_, ?_⟩
          · exact ⟨⟨by have := hs1.1.1; exact (by first | omega | (dsimp only; omega) | (dsimp only at *; omega)), fun j hj => (upd_ne _ _ (by omega)).trans (hs1.1.2.1 j hj), hs1.1.2.2⟩, by have := hs1.2.1; exact (by first | omega | (dsimp only; omega) | (dsimp only at *; omega)), upd_same _ _ _⟩
          · omega
          · have := (cntF_upd hfc (n := n)).2 hci2
            omega
          · exact hd.set hci hi2 hDs
          · exact fun e => absurd e (by omega)
        · intro hc5
          cases hc5
  · intro hc0
    try simp only [decide_eq_true_eq, decide_eq_false_iff_not] at hc0
    refine aw_exit ?_
    simp only [thenA_normal, thenA_ret, thenA_exit, blockA_normal, blockA_ret, blockA_exit, ↓reduceIte, Nat.reduceEqDiff]
    refine aw_region_seq C (pb := false) rfl fun K hK => ?_
    repeat' (first | refine wy1 (a := by simp only [go_sem, ↓reduceIte, Nat.reduceEqDiff, reduceCtorEq, Nat.reduceAdd, Nat.reduceMul, Nat.reduceLeDiff]; exact rfl) (h := ?_) | fail)
    refine awOps_nil (hK _ _ ?_)
    clear hK K
    refine aw_cond (by rfl) ?_ ?_
    · intro hc6
      have hmm : mn = mn0 := by have := eq_of_beq hc6; omega
      refine aw_exit ?_
      simp only [thenA_normal, thenA_ret, thenA_exit, blockA_normal, blockA_ret, blockA_exit, ↓reduceIte, Nat.reduceEqDiff]
      refine aw_seq ?_
      refine aw_region_seq C (pb := false) rfl fun K hK => ?_
      repeat' (first | refine wy1 (a := by simp only [go_sem, ↓reduceIte, Nat.reduceEqDiff, reduceCtorEq, Nat.reduceAdd, Nat.reduceMul, Nat.reduceLeDiff]; exact rfl) (h := ?_) | fail)
      refine awOps_nil (hK _ _ ?_)
      clear hK K
      refine aw_block ?_
      refine AW.less (sl' := [(0, .av (.sc x)), (1, .av (.sc (scN n c))), (5, .av (.own id 0 n 1)), (13, vI (0))]) (AllIn.less ⟨rfl, rfl, rfl, rfl, trivial⟩) (aw_loop (fun k sl1 s1 => ∃ (i : Nat), k = n - i ∧ sl1 = [(0, .av (.sc x)), (1, .av (.sc (scN n c))), (5, .av (.own id 0 n 1)), (13, vI (i))] ∧ (Kp s s1 ∧ id < s1.nx ∧ s1.ob id = .cs (arrB n f) 0) ∧ (i ≤ n) ∧ (∀ a, a < i → f (c a) = true)) (k := n - (0)) ⟨0, rfl, rfl, ⟨hs1.1.up (by first | omega | (dsimp only; omega) | (dsimp only at *; omega)), by have := hs1.2.1; exact (by first | omega | (dsimp only; omega) | (dsimp only at *; omega)), hs1.2.2⟩, Nat.zero_le _, fun a h => absurd h (by omega)⟩ ?_)
      rintro k3 _ s3 ⟨i, hk3, rfl, hs3, hb4, hall⟩
      refine aw_seq ?_
      refine aw_region_seq C (pb := false) rfl fun K hK => ?_
      repeat' (first | refine wy1 (a := by simp only [go_sem, ↓reduceIte, Nat.reduceEqDiff, reduceCtorEq, Nat.reduceAdd, Nat.reduceMul, Nat.reduceLeDiff, lenC hx, ← hn]; exact rfl) (h := ?_) | fail)
      refine awOps_nil (hK _ _ ?_)
      clear hK K
      refine aw_cond (by rfl) ?_ ?_
      · intro hc7
        try simp only [decide_eq_true_eq, decide_eq_false_iff_not] at hc7
        have hi2 : i < t.length := by omega
        have hi3 : i < n := by omega
        obtain ⟨r1, hix⟩ := idxN (c := c) hi3
        have hci2 : c i < n := by rw [hn]; exact (hci i hi2).1
        refine aw_skip ?_
        simp only [thenA_normal, thenA_ret, thenA_exit, blockA_normal, blockA_ret, blockA_exit, ↓reduceIte, Nat.reduceEqDiff]
        refine aw_seq ?_
        refine aw_block ?_
        refine aw_region_seq C (pb := false) rfl fun K hK => ?_
        repeat' (first | refine wy1 (a := by simp only [go_sem, ↓reduceIte, Nat.reduceEqDiff, reduceCtorEq, Nat.reduceAdd, Nat.reduceMul, Nat.reduceLeDiff, hix, ixB hci2, ldBo hs3.2.2 hci2]; exact rfl) (h := ?_) | fail)
        refine awOps_nil (hK _ _ ?_)
        clear hK K
        refine aw_cond (by rfl) ?_ ?_
        · intro hc8
          have hdn : f (c i) = false := by simpa using hc8
          refine aw_region_seq C (pb := false) rfl fun K hK => ?_
          repeat' (first | refine wy1 (a := by simp only [go_sem, ↓reduceIte, Nat.reduceEqDiff, reduceCtorEq, Nat.reduceAdd, Nat.reduceMul, Nat.reduceLeDiff]; exact rfl) (h := ?_) | fail)
          refine awOps_nil (hK _ _ ?_)
          clear hK K
          refine aw_ret ?_
          try simp only [thenA_normal, thenA_ret, thenA_exit, blockA_normal, blockA_ret, blockA_exit]
          simp only [go_sem, ↓reduceIte, Nat.reduceEqDiff, reduceCtorEq, Nat.reduceAdd, Nat.reduceMul, Nat.reduceLeDiff, FnQ, resA]
          -- 0f.x26t.x07t8t.ret
          exact fun _ => ⟨by first | rfl | trivial, hs3.1.2.1, hs3.1.2.2, true, rfl, (fun h => by cases h), fun _ => ⟨f, ⟨i, hi3, hdn⟩, fun a ha => hst hmm a (by omega)⟩⟩
        · intro hc8
          have hdn : f (c i) = true := by simpa using hc8
          refine aw_skip ?_
          simp only [thenA_normal, thenA_ret, thenA_exit, blockA_normal, blockA_ret, blockA_exit, ↓reduceIte, Nat.reduceEqDiff]
          refine aw_region C (pb := false) rfl ?_
          repeat' (first | refine wy1 (a := by simp only [go_sem, ↓reduceIte, Nat.reduceEqDiff, reduceCtorEq, Nat.reduceAdd, Nat.reduceMul, Nat.reduceLeDiff, wrap_small ((i : Int) + 1) (by omega) (by omega)]; exact rfl) (h := ?_) | fail)
          refine awOps_nil ?_
          try simp only [thenA_normal, thenA_ret, thenA_exit, blockA_normal, blockA_ret, blockA_exit]
          -- end of round 3 at 0f.x26t.x07t8f
          refine ⟨n - (i + 1), [(0, .av (.sc x)), (1, .av (.sc (scN n c))), (5, .av (.own id 0 n 1)), (13, vI (i + 1))], by omega, AllIn.less ⟨rfl, rfl, rfl, rfl, trivial⟩, i + 1, rfl, rfl, ?_, ?_, ?_⟩
          · exact ⟨hs3.1.up (by first | omega | (dsimp only; omega) | (dsimp only at *; omega)), by have := hs3.2.1; exact (by first | omega | (dsimp only; omega) | (dsimp only at *; omega)), hs3.2.2⟩
          · omega
          · intro a ha
            by_cases e2 : a = i
            · subst e2; exact hdn
            · exact hall a (by omega)
      · intro hc7
        try simp only [decide_eq_true_eq, decide_eq_false_iff_not] at hc7
        refine aw_exit ?_
        simp only [thenA_normal, thenA_ret, thenA_exit, blockA_normal, blockA_ret, blockA_exit, ↓reduceIte, Nat.reduceEqDiff]
        refine aw_region_seq C (pb := false) rfl fun K hK => ?_
        repeat' (first | refine wy1 (a := by simp only [go_sem, ↓reduceIte, Nat.reduceEqDiff, reduceCtorEq, Nat.reduceAdd, Nat.reduceMul, Nat.reduceLeDiff]; exact rfl) (h := ?_) | fail)
        refine awOps_nil (hK _ _ ?_)
        clear hK K
        refine aw_ret ?_
        simp only [go_sem, ↓reduceIte, Nat.reduceEqDiff, reduceCtorEq, Nat.reduceAdd, Nat.reduceMul, Nat.reduceLeDiff, FnQ, resA]
        -- 0f.x26t.x07f.x6.ret
        exact fun _ => ⟨by first | rfl | trivial, hs3.1.2.1, hs3.1.2.2, false, rfl, fun _ a ha => hd a (by omega) (hall a (by omega)), fun h => by cases h⟩
    · intro hc6
      have hmm : mn ≠ mn0 := by have := beq_eq_false_iff_ne.1 hc6; omega
      refine aw_skip ?_
      simp only [thenA_normal, thenA_ret, thenA_exit, blockA_normal, blockA_ret, blockA_exit, ↓reduceIte, Nat.reduceEqDiff]
      -- end of round 0 at 0f.x26f
      refine ⟨n - (mn), [(0, .av (.sc x)), (1, .av (.sc (scN n c))), (5, .av (.own id 0 n 1)), (6, vI (mn))], by omega, AllIn.less ⟨rfl, rfl, rfl, rfl, trivial⟩, mn, f, rfl, rfl, ?_, ?_, ?_⟩
      · exact ⟨hs1.1.up (by first | omega | (dsimp only; omega) | (dsimp only at *; omega)), by have := hs1.2.1; exact (by first | omega | (dsimp only; omega) | (dsimp only at *; omega)), hs1.2.2⟩
      · exact hm.1
      · exact hd
end Go.Am.Seat
/-
  MADE BY PROGRAM (am.py): the walks of functions 45.
-/
namespace Go.Am.Seat
open Go.Proofs

def leastG (t : List Cell) (cl : List Int) (a : Int) (i : Nat) (n : Int) : Int :=
  match t, cl with
  | c :: t, b :: cl => leastG t cl a (i + 1) (if ((b == a) && (c.kind == 1)) = true then (if c.n < n then c.n else n) else n)
  | _, _ => n

theorem bod45 : Try.f45.body = some (Try.f45.body.getD .skip) := rfl
theorem fn45 (L : Loops) (t : List Cell) (cl : List Int) (at_ : Nat) (s : Me) (x y : Sc) (hx : GSl encC x t) (hy : GSl encI y cl) (hl : t.length ≤ 1000000000) (hlen : cl.length = t.length) (hat : at_ < cl.length) : FnL Try.prog L 45 [.av (.sc x), .av (.sc y), vI at_] s fun r s' => (r = vI (leastG t cl cl[at_] 0 1000)) ∧ s' = s := by
  refine FnL.pure (R := fun r => r = vI (leastG t cl cl[at_] 0 1000)) ?_
  refine fn_of_body (ts := [6]) Try.func45 bod45 rfl (by simp) (by simp [Try.ntmps45]) fun D0 => ?_
  unfold Try.f45
  simp only [Option.getD_some, initSl]
  refine aw_region_seq C (pb := false) rfl fun K hK => ?_
  repeat' (first | refine wy0 (h := ?_) | fail)
  refine awOps_nil (hK _ _ ?_)
  clear hK K
  refine aw_region_seq C (pb := false) rfl fun K hK => ?_
  repeat' (first | refine wy0 (h := ?_) | fail)
  refine awOps_nil (hK _ _ ?_)
  clear hK K
  refine aw_seq ?_
  refine aw_region_seq C (pb := false) rfl fun K hK => ?_
  repeat' (first | refine wy0 (h := ?_) | fail)
  refine awOps_nil (hK _ _ ?_)
  clear hK K
  refine aw_block ?_
  refine AW.less (sl' := [(0, .av (.sc x)), (1, .av (.sc y)), (2, vI at_), (7, vI (1000)), (8, vI (0))]) (AllIn.less ⟨rfl, rfl, rfl, rfl, rfl, trivial⟩) (aw_loop (fun k sl1 s1 => ∃ (i : Nat) (n : Int), k = t.length - i ∧ sl1 = [(0, .av (.sc x)), (1, .av (.sc y)), (2, vI at_), (7, vI (n)), (8, vI (i))] ∧ (Kp s s1) ∧ (i ≤ t.length) ∧ (leastG (t.drop i) (cl.drop i) cl[at_] i n = leastG t cl cl[at_] 0 1000)) (k := t.length - (0)) ⟨0, 1000, rfl, rfl, (Kp.refl s).up (by omega), Nat.zero_le _, rfl⟩ ?_)
  rintro k1 _ s1 ⟨i, n, hk1, rfl, hs1, hb, h3⟩
  refine aw_seq ?_
  refine aw_region_seq C (pb := false) rfl fun K hK => ?_
  repeat' (first | refine wy1 (a := by simp only [go_sem, ↓reduceIte, Nat.reduceEqDiff, reduceCtorEq, Nat.reduceAdd, Nat.reduceMul, Nat.reduceLeDiff, aLoad, aStore, lenC hx]; exact rfl) (h := ?_) | fail)
  refine awOps_nil (hK _ _ ?_)
  clear hK K
  refine aw_cond (by rfl) ?_ ?_
  · intro hc0
    try simp only [decide_eq_true_eq, decide_eq_false_iff_not] at hc0
    have hi2 : i < t.length := by omega
    have hi3 : i < cl.length := by omega
    refine aw_skip ?_
    simp only [thenA_normal, thenA_ret, thenA_exit, blockA_normal, blockA_ret, blockA_exit, ↓reduceIte, Nat.reduceEqDiff]
    refine aw_seq ?_
    refine aw_block ?_
    refine aw_silcut_seq C (pb := false) 17 _ [(0, .av (.sc x)), (1, .av (.sc y)), (2, vI at_), (7, vI n), (8, vI i), (31, vB ((cl[i] == cl[at_]) && (t[i].kind == 1)))] rfl (by kernel_rfl) rfl (fun _ _ => rfl) ?_ ?_
    · cases hA0 : (cl[i] == cl[at_] : Bool) <;> cases hA1 : (t[i].kind == 1 : Bool)
      all_goals (repeat' (first | refine ws1 (a := by simp only [go_sem, ↓reduceIte, Nat.reduceEqDiff, reduceCtorEq, Nat.reduceAdd, Nat.reduceMul, Nat.reduceLeDiff, aLoad, aStore, idxC hx hi2, idxI hy hi3, idxI hy hat, hA0, hA1]; exact rfl) (h := ?_) | refine wsn (h := ?_) | fail))
      all_goals (exact sil_nil ⟨rfl, rfl, rfl, rfl, rfl, rfl, trivial⟩)
    refine aw_cond (by rfl) ?_ ?_
    · intro hc1
      refine aw_region C (pb := false) rfl ?_
      repeat' (first | refine wy1 (a := by simp only [go_sem, ↓reduceIte, Nat.reduceEqDiff, reduceCtorEq, Nat.reduceAdd, Nat.reduceMul, Nat.reduceLeDiff, aLoad, aStore, idxC hx hi2]; exact rfl) (h := ?_) | fail)
      refine awOps_nil ?_
      try simp only [thenA_normal, thenA_ret, thenA_exit, blockA_normal, blockA_ret, blockA_exit]
      refine aw_region C (pb := false) rfl ?_
      repeat' (first | refine wy1 (a := by simp only [go_sem, ↓reduceIte, Nat.reduceEqDiff, reduceCtorEq, Nat.reduceAdd, Nat.reduceMul, Nat.reduceLeDiff, aLoad, aStore, wrap_small ((i : Int) + 1) (by omega) (by omega)]; exact rfl) (h := ?_) | fail)
      refine awOps_nil ?_
      try simp only [thenA_normal, thenA_ret, thenA_exit, blockA_normal, blockA_ret, blockA_exit]
      -- end of round 0 at 0t1t
      refine ⟨t.length - (i + 1), [(0, .av (.sc x)), (1, .av (.sc y)), (2, vI at_), (7, vI ((if t[i].n < n then t[i].n else n))), (8, vI (i + 1))], by omega, AllIn.less ⟨rfl, rfl, rfl, rfl, rfl, trivial⟩, i + 1, (if t[i].n < n then t[i].n else n), rfl, rfl, ?_, ?_, ?_⟩
      · exact hs1.up (by omega)
      · omega
      · rw [← h3, List.drop_eq_getElem_cons hi2, List.drop_eq_getElem_cons hi3, leastG, if_pos hc1]
    · intro hc1
      refine aw_skip ?_
      simp only [thenA_normal, thenA_ret, thenA_exit, blockA_normal, blockA_ret, blockA_exit, ↓reduceIte, Nat.reduceEqDiff]
      refine aw_region C (pb := false) rfl ?_
      repeat' (first | refine wy1 (a := by simp only [go_sem, ↓reduceIte, Nat.reduceEqDiff, reduceCtorEq, Nat.reduceAdd, Nat.reduceMul, Nat.reduceLeDiff, aLoad, aStore, wrap_small ((i : Int) + 1) (by omega) (by omega)]; exact rfl) (h := ?_) | fail)
      refine awOps_nil ?_
      try simp only [thenA_normal, thenA_ret, thenA_exit, blockA_normal, blockA_ret, blockA_exit]
      -- end of round 0 at 0t1f
      refine ⟨t.length - (i + 1), [(0, .av (.sc x)), (1, .av (.sc y)), (2, vI at_), (7, vI (n)), (8, vI (i + 1))], by omega, AllIn.less ⟨rfl, rfl, rfl, rfl, rfl, trivial⟩, i + 1, n, rfl, rfl, ?_, ?_, ?_⟩
      · exact hs1.up (by omega)
      · omega
      · rw [← h3, List.drop_eq_getElem_cons hi2, List.drop_eq_getElem_cons hi3, leastG, if_neg (by rw [hc1]; exact Bool.false_ne_true)]
  · intro hc0
    try simp only [decide_eq_true_eq, decide_eq_false_iff_not] at hc0
    refine aw_exit ?_
    simp only [thenA_normal, thenA_ret, thenA_exit, blockA_normal, blockA_ret, blockA_exit, ↓reduceIte, Nat.reduceEqDiff]
    refine aw_region_seq C (pb := false) rfl fun K hK => ?_
    repeat' (first | refine wy0 (h := ?_) | fail)
    refine awOps_nil (hK _ _ ?_)
    clear hK K
    refine aw_ret ?_
    simp only [go_sem, ↓reduceIte, Nat.reduceEqDiff, reduceCtorEq, Nat.reduceAdd, Nat.reduceMul, Nat.reduceLeDiff, aLoad, aStore, FnQ, resA]
    -- 0f.x0.ret
    exact fun _ => ⟨by first | rfl | trivial, hs1.2.1, hs1.2.2, by rw [← h3, List.drop_of_length_le (by omega), leastG]; intro _ _ _ _ h; cases h⟩
end Go.Am.Seat
/-
  THE PLAIN LAW: whatever makes two terms alike absorbs what the classes put.
-/
namespace Go.Am.Seat
section
variable {t : List Cell} {p d : Nat → Nat} {D N : Nat → Int} {m : Nat}
theorem appT_var (s : Int → List Cell) (n : Int) : appT s [varCell n] = s n := by
  simp [appT, varCell]
theorem appT_cons (s : Int → List Cell) {c : Cell} (hk : ¬ c.kind = 1) (l : List Cell) : appT s (c :: l) = c :: appT s l := by
  simp [appT, hk]
mutual
theorem Trm.app (ht : TOK t) (uf : UF t.length m p d) (js : JS t p D N) (hok : ∀ c ∈ t, cellOk c = true) {s : Int → List Cell} (hs : Resp t p s) : ∀ {i : Nat} {l : List Cell}, i < t.length → Trm t p D N i l → appT s l = valS t s i
  | i, _, hi, .var (r := r) hr h => by
    have hrl := uf.root_lt hi hr
    have hv := js.dneg r hrl hr.fix h i hi hr
    have hn := js.nle r hrl hr.fix i hi hr hv
    have ho := (ok_var (hok _ (List.getElem_mem hi)) hv).2
    rw [appT_var]
    rcases js.nin r hrl hr.fix with h1 | ⟨k, hk, h1, h2, h3⟩
    · omega
    · rw [← h3, ← valS_var (s := s) ht hk h2]
      exact hs k i ⟨hk, hi, r, h1, hr⟩
  | i, _, hi, .fn (r := r) (j := j) (c := c) (l := l) hr h hj hl => by
    have hrl := uf.root_lt hi hr
    obtain ⟨j', hj', e1, e2, e3⟩ := js.dpos r hrl hr.fix (by omega)
    have e : j' = j := by omega
    have hj2 : j < t.length := by omega
    have e3' : ¬ t[j].kind = 1 := by subst e; exact e3
    have e2' : Root p j r := e ▸ e2
    have hc : c = t[j] := by
      rw [List.getElem?_eq_getElem hj2] at hj
      exact (Option.some.inj hj).symm
    rw [hc, appT_cons s e3', TrmL.app ht uf js hok hs (fun q hq => (partsN_lt ht hj2 q hq).1) hl, ← valS_fun ht hj2 e3']
    exact hs j i ⟨hj2, hi, r, e2', hr⟩
theorem TrmL.app (ht : TOK t) (uf : UF t.length m p d) (js : JS t p D N) (hok : ∀ c ∈ t, cellOk c = true) {s : Int → List Cell} (hs : Resp t p s) : ∀ {qs : List Nat} {l : List Cell}, (∀ q ∈ qs, q < t.length) → TrmL t p D N qs l → appT s l = (qs.map (valS t s)).flatten
  | _, _, _, .nil => rfl
  | _, _, hq, .cons h hk => by
    rw [appT_append, List.map_cons, List.flatten_cons, Trm.app ht uf js hok hs (hq _ (by simp)) h, TrmL.app ht uf js hok hs (fun q h => hq q (by simp [h])) hk]
end
end
end Go.Am.Seat
/-
  THE PLAIN LAW: what makes two terms alike, in normal form, is one alone.
-/
namespace Go.Am.Seat
structure Norm (a b : List Cell) (s : Int → List Cell) : Prop where
  eq : appT s a = appT s b
  tm : Terms s
  vc : ∀ n, ∀ c ∈ s n, c.kind = 1 → c = varCell c.n
  abs : ∀ u, Terms u → appT u a = appT u b → ∀ n, appT u (s n) = u n
  least : ∀ n m, s n = [varCell m] → m ≤ n
theorem Terms.pos {s : Int → List Cell} (h : Terms s) (n : Int) : 1 ≤ (s n).length := takes_ge (h n)
theorem appT_len {s : Int → List Cell} (h : Terms s) (l : List Cell) : l.length ≤ (appT s l).length :=
  appL_len (M := fun n => some (s n)) (fun n t e => by cases e; exact h.pos n) l
theorem appT_fix {s : Int → List Cell} (h : Terms s) : ∀ {l : List Cell}, appT s l = l → ∀ c ∈ l, c.kind = 1 → s c.n = [c]
  | [], _, c, hc, _ => by simp at hc
  | d :: l, e, c, hc, hk => by
    have hl := appT_len h l
    have e0 : appT s (d :: l) = (if d.kind = 1 then s d.n else [d]) ++ appT s l := by simp [appT]
    rw [e0] at e
    have e1 := congrArg List.length e
    rw [List.length_append, List.length_cons] at e1
    have hp : 1 ≤ (if d.kind = 1 then s d.n else [d]).length := by
      split
      · exact h.pos _
      · simp
    obtain ⟨x, hx⟩ := List.length_eq_one_iff.1 (show (if d.kind = 1 then s d.n else [d]).length = 1 by omega)
    rw [hx] at e
    obtain ⟨e2, e3⟩ := List.cons.inj (show x :: appT s l = d :: l from e)
    rcases List.mem_cons.1 hc with rfl | hc
    · rw [if_pos hk] at hx
      rw [hx, e2]
    · exact appT_fix h e3 c hc hk
theorem Norm.idem {a b : List Cell} {s : Int → List Cell} (h : Norm a b s) (n : Int) : appT s (s n) = s n := h.abs s h.tm h.eq n
theorem appT_same {s u : Int → List Cell} : ∀ {l : List Cell}, (∀ c ∈ l, c.kind = 1 → u c.n = [c]) → appT u l = l
  | [], _ => rfl
  | c :: l, h => by
    have e0 : appT u (c :: l) = (if c.kind = 1 then u c.n else [c]) ++ appT u l := by simp [appT]
    rw [e0, appT_same (s := s) fun d hd => h d (by simp [hd])]
    split
    · rename_i hk; rw [h c (by simp) hk]; rfl
    · rfl
theorem Norm.uniq {a b : List Cell} {s u : Int → List Cell} (h : Norm a b s) (k : Norm a b u) : s = u := by
  funext n
  have e : appT u (s n) = u n := h.abs u k.tm k.eq n
  rw [← e]
  refine (appT_same (s := s) fun c hc hk => ?_).symm
  have h1 := appT_fix h.tm (h.idem n) c hc hk
  have hcv := h.vc n c hc hk
  have e2 : appT s (u c.n) = s c.n := k.abs s h.tm h.eq c.n
  rw [h1] at e2
  have hl := appT_len h.tm (u c.n)
  rw [e2] at hl
  have hp := k.tm.pos c.n
  obtain ⟨x, hx⟩ := List.length_eq_one_iff.1 (show (u c.n).length = 1 by simp only [List.length_cons, List.length_nil] at hl; omega)
  rw [hx] at e2
  by_cases hxk : x.kind = 1
  · have hxv := k.vc c.n x (by rw [hx]; simp) hxk
    have e3 : s x.n = [c] := by simpa [appT, hxk] using e2
    rw [hcv] at e3
    have l1 := h.least x.n c.n e3
    rw [hxv] at hx
    have l2 := k.least c.n x.n hx
    have : x.n = c.n := by omega
    rw [hx, this, ← hcv]
  · have e3 : [x] = [c] := by simpa [appT, hxk] using e2
    rw [hx, e3]
end Go.Am.Seat
/-
  THE PLAIN LAW: counting the classes' terms ends, and is fine just if no class is within itself.
-/
namespace Go.Am.Seat
/-- How many classes are not seen yet. -/
def unseen (p sn : Nat → Nat) : Nat → Nat
  | 0 => 0
  | n + 1 => unseen p sn n + if p n = n ∧ sn n = 0 then 1 else 0
theorem unseen_le {p sn sn' : Nat → Nat} : ∀ {n : Nat}, (∀ i, i < n → p i = i → sn' i = 0 → sn i = 0) → unseen p sn' n ≤ unseen p sn n
  | 0, _ => Nat.le_refl _
  | n + 1, h => by
    have ih := unseen_le (n := n) fun i hi => h i (by omega)
    rw [unseen, unseen]
    by_cases e : p n = n ∧ sn' n = 0
    · rw [if_pos e, if_pos ⟨e.1, h n (by omega) e.1 e.2⟩]; omega
    · rw [if_neg e]
      split <;> omega
theorem unseen_lt {p sn sn' : Nat → Nat} {x : Nat} (px : p x = x) (h0 : sn x = 0) (h1 : sn' x ≠ 0) : ∀ {n : Nat}, x < n → (∀ i, i < n → p i = i → sn' i = 0 → sn i = 0) → unseen p sn' n + 1 ≤ unseen p sn n
  | 0, h, _ => by omega
  | n + 1, hx, h => by
    rw [unseen, unseen]
    by_cases e : n = x
    · subst e
      rw [if_neg fun k => h1 k.2, if_pos ⟨px, h0⟩]
      have := unseen_le (n := n) fun i hi => h i (by omega)
      omega
    · have ih := unseen_lt px h0 h1 (show x < n by omega) fun i hi => h i (by omega)
      by_cases e2 : p n = n ∧ sn' n = 0
      · rw [if_pos e2, if_pos ⟨e2.1, h n (by omega) e2.1 e2.2⟩]; omega
      · rw [if_neg e2]
        split <;> omega
theorem unseen_top (p sn : Nat → Nat) : ∀ n, unseen p sn n ≤ n
  | 0 => Nat.le_refl _
  | n + 1 => by
    have := unseen_top p sn n
    rw [unseen]
    split <;> omega
theorem capN_le (k : Nat) : capN k ≤ 201 := by unfold capN; split <;> omega
theorem capN_add (a b : Nat) : capN (capN a + capN b) = capN (a + b) := by
  unfold capN
  by_cases h1 : 201 < a <;> by_cases h2 : 201 < b <;> by_cases h3 : 201 < a + b <;> simp only [h1, h2, h3, if_true, if_false] <;> (try split) <;> omega
/-- What holds while the classes' terms are counted. -/
structure SInv (t : List Cell) (p d : Nat → Nat) (m : Nat) (D N : Nat → Int) (st : SzS) : Prop where
  uf : UF t.length m st.p d
  cls : SameC t.length p st.p
  two : ∀ x, x < t.length → p x = x → st.sn x = 2 → st.fine = true → ∃ l, Trm t p D N x l ∧ st.sz x = capN l.length
  val : ∀ x, x < t.length → p x = x → st.sn x ≤ 2
/-- Nothing makes the classes' places the same. -/
def NoU (t : List Cell) (p : Nat → Nat) : Prop := ∀ s, Terms s → Resp t p s → False
/-- What counting leaves as it was. -/
structure SMon (t : List Cell) (p : Nat → Nat) (st st' : SzS) : Prop where
  one : ∀ x, x < t.length → p x = x → (st'.sn x = 1 ↔ st.sn x = 1)
  mono : ∀ x, x < t.length → p x = x → st'.sn x = 0 → st.sn x = 0
  fin : st'.fine = true → st.fine = true
  bad : st'.fine = false → st.fine = true → NoU t p
theorem SMon.refl (t : List Cell) (p : Nat → Nat) (st : SzS) : SMon t p st st := ⟨fun _ _ _ => Iff.rfl, fun _ _ _ h => h, fun h => h, fun h k => by rw [h] at k; cases k⟩
theorem SMon.trans {t : List Cell} {p : Nat → Nat} {a b c : SzS} (h : SMon t p a b) (k : SMon t p b c) : SMon t p a c :=
  ⟨fun x hx px => (k.one x hx px).trans (h.one x hx px), fun x hx px e => h.mono x hx px (k.mono x hx px e), fun e => h.fin (k.fin e), fun e e' => by
    cases hb : b.fine
    · exact h.bad hb e'
    · exact k.bad e hb⟩
/-- The row of sizes of what is seen. -/
def SKeep (t : List Cell) (p : Nat → Nat) (st st' : SzS) : Prop := ∀ x, x < t.length → p x = x → st.sn x ≠ 0 → st'.sz x = st.sz x
section
variable {t : List Cell} {p d : Nat → Nat} {D N : Nat → Int} {m : Nat}
/-- What a call is asked at: every class that is being counted is greater. -/
def Gray (t : List Cell) (p : Nat → Nat) (st : SzS) (a : Nat) : Prop := ∀ x, x < t.length → p x = x → st.sn x = 1 → ∀ s, Terms s → Resp t p s → (valS t s a).length < (valS t s x).length
def OfLaw (t : List Cell) (p d : Nat → Nat) (m : Nat) (D N : Nat → Int) (F : Nat) : Prop := ∀ (st : SzS) (a : Nat), SInv t p d m D N st → a < t.length → Gray t p st a → unseen p st.sn t.length + m + 2 ≤ F →
  ∃ r st', ofF t D F st a = some (r, st') ∧ SInv t p d m D N st' ∧ SMon t p st st' ∧ SKeep t p st st' ∧ (st'.fine = true → (∃ l, Trm t p D N a l ∧ r = capN l.length) ∧ ∀ x, Root p a x → st'.sn x ≠ 0)
theorem flatten_mem_len {l : List (List Cell)} {x : List Cell} (h : x ∈ l) : x.length ≤ l.flatten.length := by
  induction l with
  | nil => simp at h
  | cons a l ih =>
    rw [List.flatten_cons, List.length_append]
    rcases List.mem_cons.1 h with rfl | h
    · omega
    · have := ih h; omega
theorem ofL_law {F : Nat} (ih : OfLaw t p d m D N F) {x : Nat} (hx : x < t.length) (px : p x = x) : ∀ {qs : List Nat} {st : SzS} {k : Nat}, SInv t p d m D N st → st.sn x = 1 → (∀ q ∈ qs, q < t.length ∧ Gray t p st q) → unseen p st.sn t.length + m + 2 ≤ F → (st.fine = true → st.sz x = capN k) →
    ∃ st', ofL (ofF t D F) x qs st = some st' ∧ SInv t p d m D N st' ∧ SMon t p st st' ∧ (∀ y, y < t.length → p y = y → st.sn y ≠ 0 → y ≠ x → st'.sz y = st.sz y) ∧ (st'.fine = true → ∃ l, TrmL t p D N qs l ∧ st'.sz x = capN (k + l.length))
  | [], st, k, inv, h1, hq, hF, hs => ⟨st, rfl, inv, SMon.refl _ _ _, fun _ _ _ _ _ => rfl, fun hf => ⟨[], .nil, by rw [hs hf]; rfl⟩⟩
  | q :: qs, st, k, inv, h1, hq, hF, hs => by
    obtain ⟨r, st1, e1, i1, m1, k1, f1⟩ := ih st q inv (hq q (by simp)).1 (hq q (by simp)).2 hF
    have hsn1 : st1.sn x = 1 := (m1.one x hx px).2 h1
    obtain ⟨l0, hl0⟩ : ∃ l0, st1.fine = true → Trm t p D N q l0 ∧ r = capN l0.length := by
      cases hf : st1.fine
      · exact ⟨[], fun h => by cases h⟩
      · obtain ⟨⟨l0, h⟩, _⟩ := f1 hf
        exact ⟨l0, fun _ => h⟩
    have i2 : SInv t p d m D N ⟨st1.p, upd st1.sz x (capN (st1.sz x + r)), st1.sn, st1.fine⟩ := ⟨i1.uf, i1.cls, fun y hy py e ef => by
      have hne : y ≠ x := fun e' => by subst e'; rw [hsn1] at e; cases e
      dsimp only at e ef ⊢
      rw [upd_ne _ _ hne]
      exact i1.two y hy py e ef, i1.val⟩
    have hle := unseen_le (p := p) (sn := st.sn) (sn' := st1.sn) (n := t.length) m1.mono
    have hmn : SMon t p st1 ⟨st1.p, upd st1.sz x (capN (st1.sz x + r)), st1.sn, st1.fine⟩ := ⟨fun _ _ _ => Iff.rfl, fun _ _ _ h => h, fun h => h, fun h k => by rw [show st1.fine = false from h] at k; cases k⟩
    obtain ⟨st2, e2, i3, m3, k3, f3⟩ := ofL_law ih hx px (qs := qs) (st := ⟨st1.p, upd st1.sz x (capN (st1.sz x + r)), st1.sn, st1.fine⟩) (k := k + l0.length) i2 hsn1
      (fun q' h' => ⟨(hq q' (by simp [h'])).1, fun y hy py e s h2 h3 => (hq q' (by simp [h'])).2 y hy py ((m1.one y hy py).1 e) s h2 h3⟩) (by dsimp only; omega)
      (fun hf => by
        dsimp only at hf ⊢
        rw [upd_same, (hl0 hf).2, k1 x hx px (by omega), hs (m1.fin hf), capN_add])
    refine ⟨st2, by rw [ofL, e1]; exact e2, i3, m1.trans (hmn.trans m3), fun y hy py e hne => ?_, fun hf => ?_⟩
    · rw [k3 y hy py (fun e' => e (m1.mono y hy py e')) hne]
      dsimp only
      rw [upd_ne _ _ hne, k1 y hy py e]
    · have hf1 : st1.fine = true := m3.fin hf
      obtain ⟨l, h2, h3⟩ := f3 hf
      exact ⟨_, .cons (hl0 hf1).1 h2, by rw [h3, List.length_append]; congr 1; omega⟩
theorem of_law (ht : TOK t) (uf0 : UF t.length m p d) (js : JS t p D N) : ∀ F, OfLaw t p d m D N F
  | 0 => fun _ _ _ _ _ h => by omega
  | F + 1 => fun st a inv ha hg hF => by
    obtain ⟨x, p1, e1, r1, hx, uf1, s1⟩ := own1_law (F := F) inv.uf ha (by have := inv.uf.le a ha; omega)
    have ra : Root p a x := (inv.cls a ha x).2 r1
    have px := ra.fix
    have cls1 := inv.cls.trans s1
    have hcl : Cl t.length p a x := ⟨ha, hx, x, ra, .here px⟩
    rw [ofF, e1]
    dsimp only
    by_cases h1 : st.sn x = 1
    · rw [if_pos h1]
      refine ⟨0, _, rfl, ⟨uf1, cls1, fun _ _ _ _ h => (by cases h), inv.val⟩, ⟨fun _ _ _ => Iff.rfl, fun _ _ _ h => h, fun h => (by cases h), fun _ _ s h2 h3 => ?_⟩, fun _ _ _ _ => rfl, fun h => (by cases h)⟩
      have := hg x hx px h1 s h2 h3
      rw [h3 a x hcl] at this
      omega
    rw [if_neg h1]
    by_cases h2 : st.sn x = 2 ∨ st.fine = false
    · rw [if_pos h2]
      refine ⟨_, _, rfl, ⟨uf1, cls1, inv.two, inv.val⟩, ⟨fun _ _ _ => Iff.rfl, fun _ _ _ h => h, fun h => h, fun h k => by rw [show st.fine = false from h] at k; cases k⟩, fun _ _ _ _ => rfl, fun hf => ?_⟩
      dsimp only at hf
      rcases h2 with h2 | h2
      · obtain ⟨l, h3, h4⟩ := inv.two x hx px h2 hf
        exact ⟨⟨l, h3.cls hcl.symm, h4⟩, fun y hy => by rw [hy.uniq ra]; dsimp only; omega⟩
      · rw [h2] at hf; cases hf
    rw [if_neg h2]
    have h0 : st.sn x = 0 := by have := inv.val x hx px; omega
    have hfine : st.fine = true := by
      cases h : st.fine
      · exact absurd (.inr h) h2
      · rfl
    have i1 : SInv t p d m D N ⟨p1, upd st.sz x 1, upd st.sn x 1, st.fine⟩ := ⟨uf1, cls1, fun y hy py e ef => by
      dsimp only at e ef ⊢
      by_cases hne : y = x
      · subst hne; rw [upd_same] at e; cases e
      · rw [upd_ne _ _ hne] at e ⊢
        exact inv.two y hy py e ef, fun y hy py => by
      dsimp only
      by_cases hne : y = x
      · subst hne; rw [upd_same]; omega
      · rw [upd_ne _ _ hne]; exact inv.val y hy py⟩
    have hun : unseen p (upd st.sn x 1) t.length + 1 ≤ unseen p st.sn t.length := unseen_lt px h0 (by rw [upd_same]; omega) hx fun y hy py e => by
      by_cases hne : y = x
      · subst hne; exact h0
      · rwa [upd_ne _ _ hne] at e
    have hD0 : 0 ≤ D x → ∃ (j : Nat) (hj : j < t.length), D x = (j : Int) ∧ Root p j x ∧ ¬ t[j].kind = 1 := js.dpos x hx px
    have hqs : ∀ q ∈ (if 0 ≤ D x then partsN t (D x).toNat else []), q < t.length ∧ Gray t p ⟨p1, upd st.sz x 1, upd st.sn x 1, st.fine⟩ q := by
      intro q hq
      split at hq
      · rename_i h
        obtain ⟨j, hj, e2, e3, e4⟩ := hD0 h
        rw [e2, Int.toNat_natCast] at hq
        refine ⟨(partsN_lt ht hj q hq).1, fun y hy py e s h3 h4 => ?_⟩
        dsimp only at e
        have hlt : (valS t s q).length < (valS t s x).length := by
          rw [← h4 j x ⟨hj, hx, x, e3, .here px⟩, valS_fun ht hj e4, List.length_cons]
          have := flatten_mem_len (List.mem_map_of_mem (f := valS t s) hq)
          omega
        by_cases hne : y = x
        · rw [hne]; exact hlt
        · rw [upd_ne _ _ hne] at e
          have := hg y hy py e s h3 h4
          rw [h4 a x hcl] at this
          omega
      · simp at hq
    obtain ⟨st2, e2, i2, m2, k2, f2⟩ := ofL_law (of_law ht uf0 js F) hx px (k := 1) i1 (upd_same _ _ _) hqs (by dsimp only; omega) (fun _ => by dsimp only; rw [upd_same]; rfl)
    rw [e2]
    have hsn2 : st2.sn x = 1 := (m2.one x hx px).2 (upd_same _ _ _)
    have fin : st2.fine = true → ∃ l, Trm t p D N x l ∧ st2.sz x = capN l.length := by
      intro hf
      obtain ⟨l, h3, h4⟩ := f2 hf
      by_cases h : 0 ≤ D x
      · rw [if_pos h] at h3
        obtain ⟨j, hj, e3, e4, e5⟩ := hD0 h
        rw [e3, Int.toNat_natCast] at h3
        exact ⟨t[j] :: l, .fn (.here px) e3 (List.getElem?_eq_getElem hj) h3, by rw [h4, List.length_cons]; congr 1; omega⟩
      · rw [if_neg h] at h3
        cases h3
        exact ⟨_, .var (.here px) (by omega), by rw [h4]; rfl⟩
    refine ⟨_, _, rfl, ⟨i2.uf, i2.cls, fun y hy py e ef => ?_, fun y hy py => ?_⟩, ⟨fun y hy py => ?_, fun y hy py e => ?_, m2.fin, m2.bad⟩, fun y hy py e => ?_, fun hf => ?_⟩
    · dsimp only at e ef ⊢
      by_cases hne : y = x
      · subst hne; exact fin ef
      · rw [upd_ne _ _ hne] at e
        exact i2.two y hy py e ef
    · dsimp only
      by_cases hne : y = x
      · subst hne; rw [upd_same]; omega
      · rw [upd_ne _ _ hne]; exact i2.val y hy py
    · dsimp only
      by_cases hne : y = x
      · subst hne; rw [upd_same, h0]; omega
      · rw [upd_ne _ _ hne, m2.one y hy py]
        dsimp only
        rw [upd_ne _ _ hne]
    · dsimp only at e
      by_cases hne : y = x
      · subst hne; exact h0
      · rw [upd_ne _ _ hne] at e
        have := m2.mono y hy py e
        dsimp only at this
        rwa [upd_ne _ _ hne] at this
    · dsimp only
      have hne : y ≠ x := fun e' => by subst e'; exact e h0
      rw [k2 y hy py (by dsimp only; rw [upd_ne _ _ hne]; exact e) hne]
      dsimp only
      rw [upd_ne _ _ hne]
    · obtain ⟨l, h3, h4⟩ := fin hf
      exact ⟨⟨l, h3.cls hcl.symm, h4⟩, fun y hy => by rw [hy.uniq ra]; dsimp only; rw [upd_same]; omega⟩
/-- Counting all. -/
theorem ofAll_law (ht : TOK t) (uf0 : UF t.length m p d) (js : JS t p D N) {F : Nat} (hF : t.length + m + 2 ≤ F) : ∀ {qs : List Nat} {st : SzS}, SInv t p d m D N st → (∀ q ∈ qs, q < t.length) → (∀ y, y < t.length → p y = y → st.sn y ≠ 1) →
    ∃ st', ofAll t D F qs st = some st' ∧ SInv t p d m D N st' ∧ SMon t p st st' ∧ SKeep t p st st' ∧ (st'.fine = true → ∀ q ∈ qs, (∃ l, Trm t p D N q l) ∧ ∀ x, Root p q x → st'.sn x ≠ 0)
  | [], st, inv, hq, h1 => ⟨st, rfl, inv, SMon.refl _ _ _, fun _ _ _ _ => rfl, fun _ q h => by simp at h⟩
  | q :: qs, st, inv, hq, h1 => by
    obtain ⟨r, st1, e1, i1, m1, k1, f1⟩ := of_law ht uf0 js F st q inv (hq q (by simp)) (fun y hy py e => absurd e (h1 y hy py)) (by have := unseen_top p st.sn t.length; omega)
    obtain ⟨st2, e2, i2, m2, k2, f2⟩ := ofAll_law ht uf0 js hF (qs := qs) i1 (fun q' h => hq q' (by simp [h])) fun y hy py e => h1 y hy py ((m1.one y hy py).1 e)
    refine ⟨st2, by rw [ofAll, e1]; exact e2, i2, m1.trans m2, fun y hy py e => by rw [k2 y hy py fun e' => e (m1.mono y hy py e'), k1 y hy py e], fun hf q' hq' => ?_⟩
    rcases List.mem_cons.1 hq' with rfl | hq'
    · obtain ⟨⟨l, h2, _⟩, h3⟩ := f1 (m2.fin hf)
      refine ⟨⟨l, h2⟩, fun x hx e => ?_⟩
      exact h3 x hx (m2.mono x (uf0.root_lt (hq q' (by simp)) hx) hx.fix e)
    · exact f2 hf q' hq'
end
end Go.Am.Seat
/-
  THE PLAIN LAW of Mgu: it ends; it tells the normal one, or that there is none, or that it is too big.
-/
namespace Go.Am.Seat
section
variable {t : List Cell} {p d : Nat → Nat} {D N : Nat → Int} {m : Nat}
def TfLaw (t : List Cell) (p d : Nat → Nat) (m : Nat) (D N : Nat → Int) (F : Nat) : Prop := ∀ (q : Nat → Nat) (a : Nat) (l : List Cell), UF t.length m q d → SameC t.length p q → a < t.length → Trm t p D N a l → l.length + m + 2 ≤ F →
  ∃ q', termF t D N F q a = some (l, q') ∧ UF t.length m q' d ∧ SameC t.length p q'
theorem termL_law {F : Nat} (ih : TfLaw t p d m D N F) : ∀ {qs : List Nat} {q : Nat → Nat} {l out : List Cell}, UF t.length m q d → SameC t.length p q → (∀ a ∈ qs, a < t.length) → TrmL t p D N qs l → l.length + m + 2 ≤ F →
    ∃ q', termL (termF t D N F) qs q out = some (out ++ l, q') ∧ UF t.length m q' d ∧ SameC t.length p q'
  | [], q, _, out, uf, cl, _, .nil, _ => ⟨q, by rw [List.append_nil]; rfl, uf, cl⟩
  | a :: qs, q, _, out, uf, cl, ha, .cons (a := la) (b := lb) h hk, hF => by
    rw [List.length_append] at hF
    obtain ⟨q1, e1, uf1, cl1⟩ := ih q a la uf cl (ha a (by simp)) h (by omega)
    obtain ⟨q2, e2, uf2, cl2⟩ := termL_law ih (out := out ++ la) uf1 cl1 (fun b hb => ha b (by simp [hb])) hk (by omega)
    exact ⟨q2, by rw [termL, e1]; dsimp only; rw [e2, List.append_assoc], uf2, cl2⟩
theorem termF_law (ht : TOK t) : ∀ F, TfLaw t p d m D N F
  | 0 => fun _ _ _ _ _ _ _ h => by omega
  | F + 1 => fun q a l uf cl ha h hF => by
    obtain ⟨x, q1, e1, r1, hx, uf1, s1⟩ := own1_law (F := F) uf ha (by have := uf.le a ha; have := h.pos; omega)
    have ra : Root p a x := (cl a ha x).2 r1
    have cl1 := cl.trans s1
    rw [termF, e1]
    dsimp only
    cases h with
    | var hr h0 =>
      have e := hr.uniq ra
      subst e
      rw [if_pos h0]
      exact ⟨q1, rfl, uf1, cl1⟩
    | @fn _ r j c ls hr h0 hj hl =>
      have e := hr.uniq ra
      subst e
      have hj2 : j < t.length := (List.getElem?_eq_some_iff.1 hj).1
      rw [if_neg (by omega), h0, Int.toNat_natCast, hj]
      dsimp only
      rw [List.length_cons] at hF
      obtain ⟨q2, e2, uf2, cl2⟩ := termL_law (termF_law ht F) (out := [c]) uf1 cl1 (fun b hb => (partsN_lt ht hj2 b hb).1) hl (by omega)
      exact ⟨q2, by rw [e2]; rfl, uf2, cl2⟩
theorem lastB_some {n : Int} {k : Nat} : ∀ {i : Nat}, lastB t i n = some k → ∃ h : k < t.length, t[k].kind = 1 ∧ t[k].n = n
  | 0, h => by cases h
  | i + 1, h => by
    rw [lastB] at h
    split at h
    · rename_i c hc
      split at h
      · rename_i h2
        cases h
        obtain ⟨h3, h4⟩ := List.getElem?_eq_some_iff.1 hc
        subst h4
        exact ⟨h3, h2⟩
      · exact lastB_some h
    · exact lastB_some h
theorem lastB_none {n : Int} : ∀ {i : Nat}, lastB t i n = none → ∀ k (h : k < t.length), k < i → ¬ (t[k].kind = 1 ∧ t[k].n = n)
  | 0, _, k, _, hk => by omega
  | i + 1, h, k, hkt, hk => by
    rw [lastB] at h
    by_cases e : k = i
    · subst e
      rw [List.getElem?_eq_getElem hkt] at h
      dsimp only at h
      intro h2
      rw [if_pos h2] at h
      cases h
    · split at h
      · split at h
        · cases h
        · exact lastB_none h k hkt (by omega)
      · exact lastB_none h k hkt (by omega)
theorem sol_none {n : Int} (h : ∀ k (h : k < t.length), ¬ (t[k].kind = 1 ∧ t[k].n = n)) : sol t p D N n = [varCell n] := by
  unfold sol
  rw [dif_neg]
  rintro ⟨l, i, hi, h1, h2, _⟩
  exact h i hi ⟨h1, h2⟩
/-- One variable's binding, where it has one. -/
def bnd (s : Int → List Cell) (n : Nat) : Option (Nat × List Cell) := if s n = [varCell n] then none else some (n, s n)
theorem capN_big {k : Nat} : 200 < capN k ↔ 200 < k := by unfold capN; split <;> omega
theorem bindL_law (ht : TOK t) (uf0 : UF t.length m p d) (js : JS t p D N) (hall : ∀ i, i < t.length → ∃ l, Trm t p D N i l) {sz : Nat → Nat} (hsz : ∀ x, x < t.length → p x = x → ∃ l, Trm t p D N x l ∧ sz x = capN l.length) {F : Nat} (hF : m + 300 ≤ F) :
    ∀ {ns : List Nat} {q : Nat → Nat} {out : List (Nat × List Cell)}, UF t.length m q d → SameC t.length p q →
    bindL t D N sz F ns q out = some (if ns.any (fun n => decide (200 < (sol t p D N (n : Nat)).length)) = true then ([], 2) else (out ++ ns.filterMap (bnd (sol t p D N)), 0))
  | [], q, out, _, _ => by simp [bindL]
  | n :: ns, q, out, uf, cl => by
    rw [bindL]
    cases hb : lastB t t.length n with
    | none =>
      have e : sol t p D N (n : Nat) = [varCell n] := sol_none fun k h => lastB_none hb k h h
      dsimp only
      rw [bindL_law ht uf0 js hall hsz hF uf cl, List.any_cons, List.filterMap_cons, bnd, if_pos e, e]
      simp
    | some a =>
      obtain ⟨ha, hk, hn⟩ := lastB_some hb
      dsimp only
      obtain ⟨x, q1, e1, r1, hx, uf1, s1⟩ := own1_law (F := F) uf ha (by have := uf.le a ha; omega)
      have ra : Root p a x := (cl a ha x).2 r1
      have px := ra.fix
      have cl1 := cl.trans s1
      obtain ⟨l, hl, hsx⟩ := hsz x hx px
      have hla : Trm t p D N a l := hl.cls ⟨hx, ha, x, .here px, ra⟩
      have es : sol t p D N (n : Nat) = l := by rw [← hn]; exact sol_var js ha hk hla
      rw [e1]
      dsimp only
      have hiff : (D x < 0 ∧ N x = (n : Int)) ↔ l = [varCell n] := by
        constructor
        · rintro ⟨h1, h2⟩
          cases hl with
          | var hr h => rw [hr.self px, h2]
          | fn hr h => rw [hr.self px] at h; omega
        · intro h
          cases hl with
          | var hr h0 =>
            have e := hr.self px
            subst e
            have := List.cons.inj h
            exact ⟨h0, congrArg Cell.n this.1⟩
          | @fn _ r j c ls hr h0 hj hl =>
            have e := hr.self px
            subst e
            obtain ⟨j', hj', e2, e3, e4⟩ := js.dpos r hx px (by omega)
            have : j' = j := by omega
            subst this
            rw [List.getElem?_eq_getElem hj'] at hj
            have := List.cons.inj h
            rw [← Option.some.inj hj] at this
            exact absurd (by rw [this.1]; rfl) e4
      by_cases hc : D x < 0 ∧ N x = (n : Int)
      · have e := hiff.1 hc
        rw [if_pos hc, bindL_law ht uf0 js hall hsz hF uf1 cl1, List.any_cons, List.filterMap_cons, bnd, es, if_pos e, e]
        simp
      · have e : ¬ l = [varCell n] := fun e => hc (hiff.2 e)
        rw [if_neg hc, hsx]
        by_cases hbig : 200 < l.length
        · rw [if_pos (capN_big.2 hbig), List.any_cons, es, decide_eq_true hbig]
          rfl
        · rw [if_neg fun h => hbig (capN_big.1 h)]
          obtain ⟨q2, e2, uf2, cl2⟩ := termF_law ht F q1 x l uf1 cl1 hx hl (by omega)
          rw [e2]
          dsimp only
          rw [if_neg (by omega), bindL_law ht uf0 js hall hsz hF uf2 cl2, List.any_cons, List.filterMap_cons, bnd, es, if_neg e, decide_eq_false hbig]
          simp
end
/-- The bindings told of a normal one. -/
def mguO (s : Int → List Cell) : List (Nat × List Cell) × Int := if (List.range 1000).any (fun n => decide (200 < (s (n : Nat)).length)) = true then ([], 2) else ((List.range 1000).filterMap (bnd s), 0)
/-- A variable stands in a row. -/
def occ (t : List Cell) (n : Int) : Prop := ∃ c ∈ t, c.kind = 1 ∧ c.n = n
theorem ok_varCell {c : Cell} (h : cellOk c = true) (hk : c.kind = 1) : c = varCell c.n := by
  obtain ⟨h1, _⟩ := ok_var h hk
  cases c
  simp only at hk h1
  subst hk h1
  rfl
section
variable {t : List Cell} {p d : Nat → Nat} {D N : Nat → Int} {m : Nat}
mutual
theorem Trm.ok (ht : TOK t) (uf : UF t.length m p d) (js : JS t p D N) (hok : ∀ c ∈ t, cellOk c = true) : ∀ {i : Nat} {l : List Cell}, i < t.length → Trm t p D N i l → takes l 1 = some l.length ∧ ∀ c ∈ l, cellOk c = true ∧ (c.kind = 1 → occ t c.n)
  | i, _, hi, .var (r := r) hr h => by
    have hrl := uf.root_lt hi hr
    have hv := js.dneg r hrl hr.fix h i hi hr
    have hn := js.nle r hrl hr.fix i hi hr hv
    have ho := (ok_var (hok _ (List.getElem_mem hi)) hv).2
    refine ⟨rfl, fun c hc => ?_⟩
    rw [List.mem_singleton] at hc
    subst hc
    rcases js.nin r hrl hr.fix with h1 | ⟨k, hk, h1, h2, h3⟩
    · omega
    · have := hok _ (List.getElem_mem hk)
      have e := ok_varCell this h2
      rw [h3] at e
      rw [← e]
      exact ⟨this, fun _ => ⟨_, List.getElem_mem hk, h2, rfl⟩⟩
  | i, _, hi, .fn (r := r) (j := j) (c := c) (l := l) hr h hj hl => by
    obtain ⟨hj2, ec⟩ := List.getElem?_eq_some_iff.1 hj
    have hp := partsN_length hj2
    obtain ⟨h1, h2⟩ := TrmL.ok ht uf js hok (fun q hq => (partsN_lt ht hj2 q hq).1) hl
    refine ⟨?_, fun e he => ?_⟩
    · have ha : arC c = (partsN t j).length := by rw [hp, ec]; rfl
      rw [takes, Nat.zero_add, ha, h1]
      rfl
    · rcases List.mem_cons.1 he with rfl | he
      · have := List.getElem_mem hj2
        rw [ec] at this
        exact ⟨hok _ this, fun hk => ⟨_, this, hk, rfl⟩⟩
      · exact h2 e he
theorem TrmL.ok (ht : TOK t) (uf : UF t.length m p d) (js : JS t p D N) (hok : ∀ c ∈ t, cellOk c = true) : ∀ {qs : List Nat} {l : List Cell}, (∀ q ∈ qs, q < t.length) → TrmL t p D N qs l → takes l qs.length = some l.length ∧ ∀ c ∈ l, cellOk c = true ∧ (c.kind = 1 → occ t c.n)
  | _, _, _, .nil => ⟨rfl, fun _ h => by simp at h⟩
  | _, _, hq, .cons h hk => by
    obtain ⟨h1, h2⟩ := Trm.ok ht uf js hok (hq _ (by simp)) h
    obtain ⟨h3, h4⟩ := TrmL.ok ht uf js hok (fun q h => hq q (by simp [h])) hk
    refine ⟨by rw [List.length_cons, Nat.add_comm]; exact takes_cat h1 h3, fun e he => ?_⟩
    rcases List.mem_append.1 he with he | he
    · exact h2 e he
    · exact h4 e he
end
end
end Go.Am.Seat
/-
  THE PLAIN LAW of Mgu, of two right terms.
-/
namespace Go.Am.Seat
theorem subT_a {a b : List Cell} (ha : takes a 1 = some a.length) : subT (a ++ b) 0 = a := by
  rw [subT_of (k := a.length) (by rw [List.drop_zero]; exact takes_app ha), List.drop_zero, List.take_left]
theorem subT_b {a b : List Cell} (hb : takes b 1 = some b.length) : subT (a ++ b) a.length = b := by
  rw [subT_of (k := b.length) (by rw [List.drop_left]; exact hb), List.drop_left, List.take_length]
theorem occ_get {t : List Cell} {n : Int} (h : occ t n) : ∃ (i : Nat) (hi : i < t.length), t[i].kind = 1 ∧ t[i].n = n := by
  obtain ⟨c, hc, h1, h2⟩ := h
  obtain ⟨i, hi, rfl⟩ := List.getElem_of_mem hc
  exact ⟨i, hi, h1, h2⟩
/-- The normal one of two terms, made of their cells. -/
structure NormO (a b : List Cell) (s : Int → List Cell) : Prop extends Norm a b s where
  ok : ∀ n, occ (a ++ b) n → ∀ c ∈ s n, cellOk c = true ∧ (c.kind = 1 → occ (a ++ b) c.n)
  out : ∀ n, ¬ occ (a ++ b) n → s n = [varCell n]
set_option maxRecDepth 10000 in
theorem mgu_law {a b : List Cell} (ha : RTm a) (hb : RTm b) : ∃ out e, mguR 1000000 (a ++ b) a.length = some (out, e) ∧
    ((out = [] ∧ e = 3 ∧ ∀ s, Terms s → appT s a ≠ appT s b) ∨ ∃ s, NormO a b s ∧ (out, e) = mguO s) := by
  obtain ⟨t, ht0⟩ : ∃ t, t = a ++ b := ⟨_, rfl⟩
  have ht : TOK t := ht0 ▸ tok_two ha hb
  have hlen : t.length = a.length + b.length := by rw [ht0, List.length_append]
  have hok : ∀ c ∈ t, cellOk c = true := fun c hc => by
    rw [ht0] at hc
    exact (List.mem_append.1 hc).elim (ha.ok c) (hb.ok c)
  have l1 := ha.len
  have l2 := hb.len
  have l3 := ha.pos
  have l4 := hb.pos
  have hv : ∀ s, valS t s 0 = appT s a ∧ valS t s a.length = appT s b := fun s => by
    rw [valS, valS, ht0, subT_a ha.tk, subT_b hb.tk]
    exact ⟨rfl, rfl⟩
  have hmul : t.length * (t.length + 1) ≤ 400 * 401 := Nat.mul_le_mul (by omega) (by omega)
  obtain ⟨ok, p, D, N, e1, j1, j2⟩ := join_law ht (k := a.length) (F := 1000000) (by omega) (by omega) (by omega)
  rw [← ht0]
  rw [mguR, e1]
  dsimp only
  cases hokb : ok with
  | false =>
    rw [if_pos rfl]
    refine ⟨[], 3, rfl, .inl ⟨rfl, rfl, fun s hs e => ?_⟩⟩
    have := (j2 s hs (by rw [(hv s).1, (hv s).2]; exact e)).1
    rw [hokb] at this
    cases this
  | true =>
    obtain ⟨m, d, uf, hm, js, co, hcl⟩ := j1 hokb
    rw [if_neg (by decide)]
    have inv0 : SInv t p d m D N (st0 p) := ⟨uf, fun _ _ _ => Iff.rfl, fun _ _ _ h => (by cases h), fun _ _ _ => Nat.zero_le _⟩
    obtain ⟨st, e2, i2, m2, k2, f2⟩ := ofAll_law ht uf js (F := 1000000) (by omega) (qs := List.range t.length) inv0 (fun q hq => List.mem_range.1 hq) (fun _ _ _ h => by cases h)
    rw [e2]
    dsimp only
    cases hf : st.fine with
    | false =>
      rw [if_pos rfl]
      refine ⟨[], 3, rfl, .inl ⟨rfl, rfl, fun s hs e => ?_⟩⟩
      exact m2.bad hf rfl s hs (j2 s hs (by rw [(hv s).1, (hv s).2]; exact e)).2
    | true =>
      rw [if_neg (by decide)]
      have hall : ∀ i, i < t.length → ∃ l, Trm t p D N i l := fun i hi => (f2 hf i (List.mem_range.2 hi)).1
      have hsz : ∀ x, x < t.length → p x = x → ∃ l, Trm t p D N x l ∧ st.sz x = capN l.length := fun x hx px => by
        have h0 := (f2 hf x (List.mem_range.2 hx)).2 x (.here px)
        have h1 : st.sn x ≠ 1 := fun e => by have := (m2.one x hx px).1 e; cases this
        have h2 := i2.val x hx px
        exact i2.two x hx px (by omega) hf
      rw [bindL_law ht uf js hall hsz (by omega) i2.uf i2.cls]
      refine ⟨(mguO (sol t p D N)).1, (mguO (sol t p D N)).2, ?_, .inr ⟨sol t p D N, ?_, Prod.ext rfl rfl⟩⟩
      · rw [mguO, List.nil_append]
      have hval : ∀ i (hi : i < t.length) l, Trm t p D N i l → valS t (sol t p D N) i = l := fun i hi l h => sol_val ht uf js co _ i (Nat.le_refl _) hi l h
      have hin : ∀ n, occ t n → ∃ i, ∃ hi : i < t.length, t[i].kind = 1 ∧ t[i].n = n ∧ Trm t p D N i (sol t p D N n) := fun n h => by
        obtain ⟨i, hi, h1, h2⟩ := occ_get h
        obtain ⟨l, hl⟩ := hall i hi
        refine ⟨i, hi, h1, h2, ?_⟩
        rw [← h2, sol_var js hi h1 hl]
        exact hl
      have hout : ∀ n, ¬ occ t n → sol t p D N n = [varCell n] := fun n h => sol_none fun k hk h1 => h ⟨_, List.getElem_mem hk, h1.1, h1.2⟩
      have h0 : 0 < t.length := by omega
      have hal : a.length < t.length := by omega
      have hoks : ∀ n, occ t n → takes (sol t p D N n) 1 = some (sol t p D N n).length ∧ ∀ c ∈ sol t p D N n, cellOk c = true ∧ (c.kind = 1 → occ t c.n) := fun n h => by
        obtain ⟨i, hi, _, _, h3⟩ := hin n h
        exact h3.ok ht uf js hok hi
      refine ⟨⟨?_, fun n => ?_, fun n c hc hk => ?_, fun u hu eu n => ?_, fun n k e => ?_⟩, fun n hn c hc => ?_, fun n hn => hout n (ht0 ▸ hn)⟩
      · obtain ⟨l, hl⟩ := hall 0 h0
        rw [← (hv _).1, ← (hv _).2, hval 0 h0 l hl, hval a.length hal l (hl.cls hcl)]
      · by_cases h : occ t n
        · exact (hoks n h).1
        · rw [hout n h]; rfl
      · by_cases h : occ t n
        · exact ok_varCell ((hoks n h).2 c hc).1 hk
        · rw [hout n h, List.mem_singleton] at hc
          rw [hc]; rfl
      · by_cases h : occ t n
        · obtain ⟨i, hi, h1, h2, h3⟩ := hin n h
          rw [h3.app ht uf js hok (j2 u hu (by rw [(hv u).1, (hv u).2]; exact eu)).2 hi, valS_var ht hi h1, h2]
        · rw [hout n h, appT_var]
      · by_cases h : occ t n
        · obtain ⟨i, hi, h1, h2, h3⟩ := hin n h
          rw [e] at h3
          obtain ⟨r, hr, hrD, hN⟩ : ∃ r, Root p i r ∧ D r < 0 ∧ N r = k := by
            cases h3 with
            | var hr h => exact ⟨_, hr, h, rfl⟩
            | @fn _ r j c ls hr h4 hj hl =>
              obtain ⟨j', hj', e2, e3, e4⟩ := js.dpos r (uf.root_lt hi hr) hr.fix (by omega)
              have : j' = j := by omega
              subst this
              rw [List.getElem?_eq_getElem hj'] at hj
              exact absurd (by rw [Option.some.inj hj]; rfl) e4
          have := js.nle r (uf.root_lt hi hr) hr.fix i hi hr h1
          omega
        · rw [hout n h] at e
          have := congrArg Cell.n (List.cons.inj e).1
          simp only [varCell] at this
          omega
      · rw [← ht0] at hn ⊢
        exact (hoks n hn).2 c hc
end Go.Am.Seat
/-
  MADE BY PROGRAM (am.py): the walks of functions 18.
-/
namespace Go.Am.Seat
open Go.Proofs
theorem bod18 : Try.f18.body = some (Try.f18.body.getD .skip) := rfl
theorem fn18 (L : Loops) (a b : List Cell) (s : Me) (x y : Sc) (hx : GSl encC x a) (hy : GSl encC y b) (ha : 0 < a.length ∧ a.length ≤ 1000000) (hb : 0 < b.length ∧ b.length ≤ 1000000) : FnL Try.prog L 18 [.av (.sc x), .av (.sc y)] s fun r s' => (r = vB (sameL (numG a) (numG b))) ∧ s' = s := by
  refine FnL.pure (R := fun r => r = vB (sameL (numG a) (numG b))) ?_
  obtain rfl := gsl_pos hx ha.1
  obtain rfl := gsl_pos hy hb.1
  refine fn_of_body (ts := [4]) Try.func18 bod18 rfl (by simp) (by simp [Try.ntmps18]) fun D0 => ?_
  unfold Try.f18
  simp only [Option.getD_some, initSl]
  refine aw_region_seq C (pb := false) rfl fun K hK => ?_
  repeat' (first | refine wy0 (h := ?_) | fail)
  refine awOps_nil (hK _ _ ?_)
  clear hK K
  refine aw_region_seq C (pb := false) rfl fun K hK => ?_
  repeat' (first | refine wy0 (h := ?_) | fail)
  (refine wc (And.intro Try.call56 (fn56 L a _ ha)) ?_; rintro _ _ ⟨rfl, rfl⟩)
  repeat' (first | refine wy0 (h := ?_) | fail)
  (refine wc (And.intro Try.call56 (fn56 L b _ hb)) ?_; rintro _ _ ⟨rfl, rfl⟩)
  (refine wc (And.intro Try.call48 (fn48 L (numG a) (numG b) _ _ _ (gslC _) (gslC _) (by rw [numG, List.length_map]; omega))) ?_; rintro _ _ ⟨rfl, rfl⟩)
  repeat' (first | refine wy0 (h := ?_) | fail)
  refine awOps_nil (hK _ _ ?_)
  clear hK K
  refine aw_ret ?_
  simp only [go_sem, ↓reduceIte, Nat.reduceEqDiff, reduceCtorEq, Nat.reduceAdd, Nat.reduceMul, Nat.reduceLeDiff, aLoad, aStore, FnQ, resA]
  -- .ret
  exact fun _ => ⟨by first | rfl | trivial, by first | exact fun _ _ => rfl | trivial, by first | rfl | trivial, by first | rfl | trivial⟩
end Go.Am.Seat
/-
  What the program's words tell at head's few terms.
-/
namespace Go.Am.Seat
def cB : Cell := ⟨3, ⟨#[98]⟩, 0⟩
def cC : Cell := ⟨3, ⟨#[99]⟩, 0⟩
def cV (n : Int) : Cell := ⟨1, .empty, n⟩
def cN (n : Int) : Cell := ⟨2, .empty, n⟩
def fT (l : List Cell) : List Cell := ⟨3, nmF, l.length⟩ :: l
theorem tl1 : mguR 100 (fT [cV 0, cB] ++ fT [cC, cV 1]) 3 = some ([(0, [cC]), (1, [cB])], 0) := by kernel_rfl
theorem tl2 : mguR 100 (fT [cV 1, cV 0] ++ fT [cV 0, cV 1]) 3 = some ([(1, [cV 0])], 0) := by kernel_rfl
theorem tl3 : mguR 100 ([cV 0] ++ fT [cV 0]) 1 = some ([], 3) := by kernel_rfl
theorem tl4 : mguR 100 (fT [cB] ++ fT [cC]) 2 = some ([], 3) := by kernel_rfl
theorem tl5 : mguR 100 (fT [cN 1] ++ fT [cN 2]) 2 = some ([], 3) := by kernel_rfl
theorem sortI_id {l : List Int} (h : l.Pairwise fun a b => a ≤ b) : sortI l = l := by
  apply List.mergeSort_of_pairwise
  exact h.imp fun h => by simpa using h
theorem tl6 : matR (fT [cV 0, cV 1]) (fT [cV 1, cV 0]) = some [(0, [cV 1]), (1, [cV 0])] := by
  unfold matR
  rw [show varsG (fT [cV 0, cV 1]) [] = [0, 1] by kernel_rfl, sortI_id (by simp)]
  kernel_rfl
theorem tl7 : matR (fT [cB]) (fT [cV 0]) = none := by kernel_rfl
theorem tl8 : matR (fT [cV 0, cV 0]) (fT [cV 0, cV 0]) = some [] := by
  unfold matR
  rw [show varsG (fT [cV 0, cV 0]) [] = [0] by kernel_rfl, sortI_id (by simp)]
  kernel_rfl
theorem tl9 : sameL (numG (fT [cV 7, cV 2])) (numG (fT [cV 0, cV 7])) = true := by kernel_rfl
theorem tl10 : sameL (numG (fT [cV 0, cV 0])) (numG (fT [cV 0, cV 1])) = false := by kernel_rfl
end Go.Am.Seat
/-
  MADE BY PROGRAM (am.py): the walks of functions 25.
-/
namespace Go.Am.Seat
open Go.Proofs
theorem bod25 : Try.f25.body = some (Try.f25.body.getD .skip) := rfl
theorem fn25 (L : Loops) (n : Int) (s : Me)  : FnL Try.prog L 25 [vI n] s fun r s' => (r = aggC ⟨1, .empty, n⟩) ∧ s' = s := by
  refine FnL.pure (R := fun r => r = aggC ⟨1, .empty, n⟩) ?_
  refine fn_of_bodyC (a := 2) (t := 42) tok Try.func25 bod25 rfl (by simp [Try.ntmps25]) fun D0 => ?_
  unfold Try.f25
  simp only [Option.getD_some, initSl]
  refine aw_region_seq C (pb := false) rfl fun K hK => ?_
  repeat' (first | refine wy0 (h := ?_) | fail)
  refine awOps_nil (hK _ _ ?_)
  clear hK K
  refine aw_region_seq C (pb := false) rfl fun K hK => ?_
  repeat' (first | refine wy0 (h := ?_) | refine wz0 (h := ?_) | fail)
  refine awOps_nil (hK _ _ ?_)
  clear hK K
  refine aw_ret ?_
  simp only [go_sem, ↓reduceIte, Nat.reduceEqDiff, reduceCtorEq, Nat.reduceAdd, Nat.reduceMul, Nat.reduceLeDiff, aLoad, aStore, FnQc]
  -- .ret
  refine ⟨_, _, aggC ⟨1, .empty, n⟩, rfl, ?_, fun _ => ⟨by first | rfl | trivial, fun i hi => (upd_ne _ _ (by omega)).trans (upd_ne _ _ (by omega)), by first | rfl | trivial, by first | rfl | trivial⟩⟩
  simp only [upd_same]
  rfl
end Go.Am.Seat
/-
  MADE BY PROGRAM (am.py): the walks of functions 11.
-/
namespace Go.Am.Seat
open Go.Proofs

def slB (out : List (Nat × List Cell)) (e : Int) : Sc := if e = 0 then .sl out.length ((out.map bndOf).flatMap encB) else .nilsl
theorem fnF (L : Loops) (l : List Cell) (id fz : Nat) (s : Me) (hid : s.ob id = .cs (celC l) fz) (hlt : id < s.nx) (hl : 0 < l.length ∧ l.length ≤ 1000000) : FnL Try.prog L 31 [.av (.own id 0 l.length 3)] s fun r s' => r = vC (fT l) ∧ s' = s := fn31 L l id fz s hid hlt hl
/-- Mgu at given terms. -/
theorem mguD (L : Loops) {a b : List Cell} {out : List (Nat × List Cell)} {e : Int} (s : Me) (h : mguR 100 (a ++ b) a.length = some (out, e)) (ha : rightOk a = true) (hb : rightOk b = true) (hne : e = 0 → out ≠ []) : FnL Try.prog L 13 [vC a, vC b] s fun r s' => r = .tup [.av (.sc (slB out e)), vI e] ∧ s' = s := by
  have ra := right_tm ha
  have rb := right_tm hb
  have a1 := ra.pos
  have a2 := ra.len
  have b1 := rb.pos
  have b2 := rb.len
  refine (fn13 L 100 a b out e s _ _ (gslC a) (gslC b) (by omega) (by omega) (tok_two ra rb) (by omega) h).mono fun r s' ⟨⟨y, h1, h2, h3⟩, h4⟩ => ⟨?_, h4⟩
  rw [h1]
  congr 3
  unfold slB
  split
  · rename_i h0
    rcases h2 with ⟨_, h2⟩ | h2
    · exact absurd (List.map_eq_nil_iff.1 h2) (hne h0)
    · rw [h2, List.length_map]
  · rename_i h0
    rw [h3.1 h0]
theorem matD (L : Loops) {a b : List Cell} {out : List (Int × List Cell)} (s : Me) (h : matR a b = some out) (ha : rightOk a = true) (hb : rightOk b = true) (hr : RightB out) : FnL Try.prog L 15 [vC a, vC b] s fun r s' => (∃ y, r = .tup [.av (.sc y), vB true] ∧ GSl encB y (out.map bndI)) ∧ s' = s := by
  have ra := right_tm ha
  have rb := right_tm hb
  have a2 := ra.len
  have b2 := rb.len
  refine (fn15 L a b _ s _ _ (gslC a) (gslC b) (by omega) rb.tok h fun o ho => by cases ho; exact hr).mono fun r s' ⟨⟨y, o, h1, h2, h3⟩, h4⟩ => ⟨⟨y, h1, ?_⟩, h4⟩
  rw [h3] at h2
  exact h2
theorem matN (L : Loops) {a b : List Cell} (s : Me) (h : matR a b = none) (ha : rightOk a = true) (hb : rightOk b = true) : FnL Try.prog L 15 [vC a, vC b] s fun r s' => (∃ y, r = .tup [.av (.sc y), vB false] ∧ GSl encB y []) ∧ s' = s := by
  have ra := right_tm ha
  have rb := right_tm hb
  have a2 := ra.len
  have b2 := rb.len
  refine (fn15 L a b _ s _ _ (gslC a) (gslC b) (by omega) rb.tok h fun o ho => by cases ho).mono fun r s' ⟨⟨y, o, h1, h2, h3⟩, h4⟩ => ⟨⟨y, h1, ?_⟩, h4⟩
  rw [h3] at h2
  exact h2
theorem pur2C {ob : Nat → Obj} {i : Nat} {a : List Cell} (hi : ob i = .cs (celC a) 0) : pur 3 ob (.own i 0 a.length 3) = some (.sl a.length (a.flatMap encC), upd ob i (.cs (celC a) (max 0 (0 + a.length * 3)))) := by
  have hl := celC_len (l := a)
  simp only [pur, hi]
  rw [if_pos (by omega), List.drop_zero, List.take_of_length_le (by omega), show purL (pur 2) _ (celC a) = _ from purL_plain (fun ob s => by simp [pur]) _ _]
  rfl
theorem pur2S {ob : Nat → Obj} {s : Sc} : pur 3 ob (.sc s) = some (s, ob) := by simp [pur]
theorem pur_bnd1 {ob : Nat → Obj} {k i : Nat} {a : List Cell} {n : Int} (hki : i ≠ k) (h : ob k = .cs [.sc (.int .i64 n), .own i 0 a.length 3] 0) (hi : ob i = .cs (celC a) 0) : purV ob (.av (.own k 0 1 2)) = some (.av (.sc (.sl 1 [.int .i64 n, .sl a.length (a.flatMap encC)])), upd (upd ob k (.cs [.sc (.int .i64 n), .own i 0 a.length 3] (max 0 (0 + 1 * 2)))) i (.cs (celC a) (max 0 (0 + a.length * 3)))) := by
  have e : purL (pur 3) (upd ob k (.cs [.sc (.int .i64 n), .own i 0 a.length 3] (max 0 (0 + 1 * 2)))) [.sc (.int .i64 n), .own i 0 a.length 3] = some ([.int .i64 n, .sl a.length (a.flatMap encC)], upd (upd ob k (.cs [.sc (.int .i64 n), .own i 0 a.length 3] (max 0 (0 + 1 * 2)))) i (.cs (celC a) (max 0 (0 + a.length * 3)))) := by
    simp only [purL, pur2S, Option.bind_some]
    rw [pur2C ((upd_ne _ _ hki).trans hi)]
    rfl
  simp only [purV, purD]
  rw [pur]
  simp only [h, List.length_cons, List.length_nil, List.drop_zero]
  rw [if_pos (by omega)]
  rw [show List.take (1 * 2) [Av.sc (.int .i64 n), Av.own i 0 a.length 3] = [Av.sc (.int .i64 n), Av.own i 0 a.length 3] from rfl, e]
  rfl
theorem pur_bnd2 {ob : Nat → Obj} {k i i2 : Nat} {a b : List Cell} {n m : Int} (hki : i ≠ k) (hki2 : i2 ≠ k) (hii : i2 ≠ i) (h : ob k = .cs [.sc (.int .i64 n), .own i 0 a.length 3, .sc (.int .i64 m), .own i2 0 b.length 3] 0) (hi : ob i = .cs (celC a) 0) (hi2 : ob i2 = .cs (celC b) 0) : purV ob (.av (.own k 0 2 2)) = some (.av (.sc (.sl 2 [.int .i64 n, .sl a.length (a.flatMap encC), .int .i64 m, .sl b.length (b.flatMap encC)])), upd (upd (upd ob k (.cs [.sc (.int .i64 n), .own i 0 a.length 3, .sc (.int .i64 m), .own i2 0 b.length 3] (max 0 (0 + 2 * 2)))) i (.cs (celC a) (max 0 (0 + a.length * 3)))) i2 (.cs (celC b) (max 0 (0 + b.length * 3)))) := by
  have e : purL (pur 3) (upd ob k (.cs [.sc (.int .i64 n), .own i 0 a.length 3, .sc (.int .i64 m), .own i2 0 b.length 3] (max 0 (0 + 2 * 2)))) [.sc (.int .i64 n), .own i 0 a.length 3, .sc (.int .i64 m), .own i2 0 b.length 3] = some ([.int .i64 n, .sl a.length (a.flatMap encC), .int .i64 m, .sl b.length (b.flatMap encC)], upd (upd (upd ob k (.cs [.sc (.int .i64 n), .own i 0 a.length 3, .sc (.int .i64 m), .own i2 0 b.length 3] (max 0 (0 + 2 * 2)))) i (.cs (celC a) (max 0 (0 + a.length * 3)))) i2 (.cs (celC b) (max 0 (0 + b.length * 3)))) := by
    simp only [purL, pur2S, Option.bind_some]
    rw [pur2C ((upd_ne _ _ hki).trans hi)]
    simp only [Option.bind_some]
    rw [pur2C ((upd_ne _ _ hii).trans ((upd_ne _ _ hki2).trans hi2))]
    rfl
  simp only [purV, purD]
  rw [pur]
  simp only [h, List.length_cons, List.length_nil, List.drop_zero]
  rw [if_pos (by omega)]
  rw [show List.take (2 * 2) [Av.sc (.int .i64 n), Av.own i 0 a.length 3, Av.sc (.int .i64 m), Av.own i2 0 b.length 3] = [Av.sc (.int .i64 n), Av.own i 0 a.length 3, Av.sc (.int .i64 m), Av.own i2 0 b.length 3] from rfl, e]
  rfl
theorem rb6 : RightB [(0, [cV 1]), (1, [cV 0])] := by
  refine ⟨fun b hb => ?_, by simp⟩
  simp only [List.mem_cons, List.not_mem_nil, or_false] at hb
  rcases hb with rfl | rfl <;> refine ⟨by decide, by decide, by decide, by decide, fun c hc => ?_, by decide, fun h hh => by have := hh.2.2; simp [cV] at this⟩ <;> (simp only [List.mem_cons, List.not_mem_nil, or_false] at hc; subst hc; kernel_rfl)
theorem rb8 : RightB [] := ⟨fun b hb => by simp at hb, by simp⟩
theorem ldB3 {ob : Nat → Obj} {id : Nat} {a b c : Sc} {fz : Nat} (h : ob id = .cs [.sc a, .sc b, .sc c] fz) : (aLoad T ob 42 (.av (.ptr id 0))).map (fun r => (r, ob)) = some (.agg [.sc a, .sc b, .sc c], ob) := by
  rw [ldA h]
  simp only [T42, Option.bind_some, y42]
  rw [if_pos (by simp)]
  rfl
theorem slB_g (out : List (Nat × List Cell)) : GSl encB (slB out 0) ((out.map toI).map bndI) := .inr (by simp only [slB, if_pos, List.length_map, ← map_bndOf])
theorem varT (L : Loops) (s : Me) : FnL Try.prog L 18 [vC (fT [cV 7, cV 2]), vC (fT [cV 0, cV 7])] s fun r s' => r = vB true ∧ s' = s :=
  (fn18 L (fT [cV 7, cV 2]) (fT [cV 0, cV 7]) s _ _ (gslC _) (gslC _) (by decide) (by decide)).mono fun r s' h => ⟨h.1.trans (congrArg vB tl9), h.2⟩
theorem varF (L : Loops) (s : Me) : FnL Try.prog L 18 [vC (fT [cV 0, cV 0]), vC (fT [cV 0, cV 1])] s fun r s' => r = vB false ∧ s' = s :=
  (fn18 L (fT [cV 0, cV 0]) (fT [cV 0, cV 1]) s _ _ (gslC _) (gslC _) (by decide) (by decide)).mono fun r s' h => ⟨h.1.trans (congrArg vB tl10), h.2⟩
structure HD (s s1 : Me) : Prop where
  kp : Kp s s1
  b : s1.ob (s.nx + 3) = .cs [.sc (.int .i64 3), .sc (.str ⟨#[98]⟩), .sc (.int .i64 0)] 0
  c : s1.ob (s.nx + 4) = .cs [.sc (.int .i64 3), .sc (.str ⟨#[99]⟩), .sc (.int .i64 0)] 0
  hi : s.nx + 4 < s1.nx
theorem HD.frame {s s1 : Me} (h : HD s s1) {ob' : Nat → Obj} {m : Nat} (hm : s1.nx ≤ m) (ho : ∀ j, j < s1.nx → ob' j = s1.ob j) : HD s ⟨ob', m, s1.ls⟩ :=
  ⟨⟨Nat.le_trans h.kp.1 hm, fun j hj => (ho j (Nat.lt_of_lt_of_le hj h.kp.1)).trans (h.kp.2.1 j hj), h.kp.2.2⟩, (ho _ (by have := h.hi; omega)).trans h.b, (ho _ h.hi).trans h.c, Nat.lt_of_lt_of_le h.hi hm⟩

-- many steps
theorem bod11 : Try.f11.body = some (Try.f11.body.getD .skip) := rfl
set_option maxHeartbeats 4000000 in
set_option maxRecDepth 20000 in
theorem fn11 (L : Loops)  (s : Me)  : FnL Try.prog L 11 [] s fun r s' => (r = vB true) ∧ s' = s := by
  refine FnL.pure (R := fun r => r = vB true) ?_
  refine fn_of_body (ts := [0]) Try.func11 bod11 rfl (by simp) (by simp [Try.ntmps11]) fun D0 => ?_
  unfold Try.f11
  simp only [Option.getD_some, initSl]
  refine aw_region_seq C (pb := false) rfl fun K hK => ?_
  repeat' (first | refine wy0 (h := ?_) | fail)
  refine awOps_nil (hK _ _ ?_)
  clear hK K
  refine aw_region_seq C (pb := false) rfl fun K hK => ?_
  repeat' (first | refine wy1 (a := by simp (disch := omega) only [go_sem, ↓reduceIte, Nat.reduceEqDiff, reduceCtorEq, Nat.reduceAdd, Nat.reduceMul, Nat.reduceLeDiff, aLoad, aStore, upd_ne, upd_same, storeL, zeroA]; exact rfl) (h := ?_) | refine wz1 (a := by simp (disch := omega) only [go_sem, ↓reduceIte, Nat.reduceEqDiff, reduceCtorEq, Nat.reduceAdd, Nat.reduceMul, Nat.reduceLeDiff, aLoad, aStore, upd_ne, upd_same, storeL, zeroA]; exact rfl) (h := ?_) | fail)
  refine awOps_nil (hK _ _ ?_)
  refine AW.less (sl' := [(1, .av (.ptr (s.nx + 3) 0)), (2, .av (.ptr (s.nx + 4) 0))]) (AllIn.less ⟨rfl, rfl, trivial⟩) ?_
  refine aw_state (J := fun s2 => HD s s2) ⟨⟨(by first | omega | (dsimp only; omega) | (dsimp only at *; omega)), fun j hj => (upd_ne _ _ (by omega)).trans ((upd_ne _ _ (by omega)).trans ((upd_ne _ _ (by omega)).trans (upd_ne _ _ (by omega)))), rfl⟩, (upd_ne _ _ (by omega)).trans (upd_same _ _ _), upd_same _ _ _, (by first | omega | (dsimp only; omega) | (dsimp only at *; omega))⟩ fun s2 h2 => ?_
  clear hK K
  obtain ⟨o2, ho2⟩ : ∃ o, o = upd (upd s2.ob (s2.nx + 2) (.cs (celC [cV 0, cB]) 0)) (s2.nx + 6) (.cs (celC [cC, cV 1]) 0) := ⟨_, rfl⟩
  have ha2 : o2 (s2.nx + 2) = .cs (celC [cV 0, cB]) 0 := by rw [ho2, upd_ne _ _ (by omega), upd_same]
  have hd2 : o2 (s2.nx + 6) = .cs (celC [cC, cV 1]) 0 := by rw [ho2, upd_same]
  have hf2 : ∀ j, j < s2.nx → o2 j = s2.ob j := fun j hj => by rw [ho2, upd_ne _ _ (by omega), upd_ne _ _ (by omega)]
  have hbo2 := (hf2 _ (by have := h2.hi; omega)).trans h2.b
  have hco2 := (hf2 _ h2.hi).trans h2.c
  refine aw_dra_seq C (pb := false) 14 [] [o2] rfl (by kernel_rfl) (by kernel_rfl) rfl (fun j hj => hf2 j hj) fun K hK => ?_
  refine dra_callsil [0] (by rfl) (by rfl) (by rfl) (by rfl) (by kernel_rfl) ⟨And.intro Try.call25 (fn25 L 0 _), trivial⟩ ?_
  (first | refine dra_yes [0] (by rfl) (by rfl) (by rfl) (by rfl) (by kernel_rfl) ⟨⟨_, by simp  only [go_sem, ↓reduceIte, Nat.reduceEqDiff, reduceCtorEq, Nat.reduceAdd, Nat.reduceMul, Nat.reduceLeDiff, aLoad, aStore, osL_0, osL_1, osL_2, osL_3, osL_4, osL_5, osL_6, hbo2, hco2]; (try exact rfl), fun _ => rfl⟩, trivial⟩ ?_ | refine dra_no (by rfl) (by rfl) (by rfl) ?_)
  refine dra_yes [0] (by rfl) (by rfl) (by rfl) (by rfl) (by kernel_rfl) ⟨⟨_, (by simp only [go_sem, ↓reduceIte, Nat.reduceEqDiff, reduceCtorEq, Nat.reduceAdd, Nat.reduceMul, Nat.reduceLeDiff, aLoad, aStore, osL_0, osL_1, osL_2, osL_3, osL_4, osL_5, osL_6, hbo2, hco2]; try exact rfl), fun j => upd_self ha2 j⟩, trivial⟩ ?_
  refine dra_callsil [0] (by rfl) (by rfl) (by rfl) (by rfl) (by kernel_rfl) ⟨And.intro Try.call31 (fnF L [cV 0, cB] _ 0 _ ha2 (by first | omega | (dsimp only; omega) | (dsimp only at *; omega)) (by decide)), trivial⟩ ?_
  (first | refine dra_yes [0] (by rfl) (by rfl) (by rfl) (by rfl) (by kernel_rfl) ⟨⟨_, by simp  only [go_sem, ↓reduceIte, Nat.reduceEqDiff, reduceCtorEq, Nat.reduceAdd, Nat.reduceMul, Nat.reduceLeDiff, aLoad, aStore, osL_0, osL_1, osL_2, osL_3, osL_4, osL_5, osL_6, hbo2, hco2]; (try exact rfl), fun _ => rfl⟩, trivial⟩ ?_ | refine dra_no (by rfl) (by rfl) (by rfl) ?_)
  refine dra_callsil [0] (by rfl) (by rfl) (by rfl) (by rfl) (by kernel_rfl) ⟨And.intro Try.call25 (fn25 L 1 _), trivial⟩ ?_
  refine dra_yes [0] (by rfl) (by rfl) (by rfl) (by rfl) (by kernel_rfl) ⟨⟨_, (by simp only [go_sem, ↓reduceIte, Nat.reduceEqDiff, reduceCtorEq, Nat.reduceAdd, Nat.reduceMul, Nat.reduceLeDiff, aLoad, aStore, osL_0, osL_1, osL_2, osL_3, osL_4, osL_5, osL_6, hbo2, hco2]; try exact rfl), fun j => upd_self hd2 j⟩, trivial⟩ ?_
  refine dra_callsil [0] (by rfl) (by rfl) (by rfl) (by rfl) (by kernel_rfl) ⟨And.intro Try.call31 (fnF L [cC, cV 1] _ 0 _ hd2 (by first | omega | (dsimp only; omega) | (dsimp only at *; omega)) (by decide)), trivial⟩ ?_
  refine dra_callsil [0] (by rfl) (by rfl) (by rfl) (by rfl) (by kernel_rfl) ⟨And.intro Try.call13 (mguD L (a := fT [cV 0, cB]) (b := fT [cC, cV 1]) _ tl1 (by kernel_rfl) (by kernel_rfl) (by decide)), trivial⟩ ?_
  iterate 5 (first | refine dra_yes [0] (by rfl) (by rfl) (by rfl) (by rfl) (by kernel_rfl) ⟨⟨_, by simp  only [go_sem, ↓reduceIte, Nat.reduceEqDiff, reduceCtorEq, Nat.reduceAdd, Nat.reduceMul, Nat.reduceLeDiff, aLoad, aStore, osL_0, osL_1, osL_2, osL_3, osL_4, osL_5, osL_6, hbo2, hco2]; (try exact rfl), fun _ => rfl⟩, trivial⟩ ?_ | refine dra_no (by rfl) (by rfl) (by rfl) ?_)
  refine dra_nil (hK _ ?_)
  simp only [osL_0, osL_1, osL_2, osL_3, osL_4, osL_5, osL_6, List.length_cons, List.length_nil, Nat.reduceAdd]
  refine AW.less (sl' := [(1, .av (.ptr (s.nx + 3) 0)), (2, .av (.ptr (s.nx + 4) 0)), (3, .av (.sc (slB [(0, [cC]), (1, [cB])] 0))), (4, vI 0)]) (AllIn.less ⟨rfl, rfl, rfl, rfl, trivial⟩) ?_
  refine aw_state (J := fun s' => HD s s') (h2.frame (by first | omega | (dsimp only; omega) | (dsimp only at *; omega)) fun j hj => hf2 j hj) fun s3 h3 => ?_
  clear hK K
  refine aw_region_seq C (pb := false) rfl fun K hK => ?_
  (refine wc (And.intro Try.call25 (fn25 L 1 _)) ?_; rintro _ _ ⟨rfl, rfl⟩)
  (refine wc (And.intro Try.call25 (fn25 L 0 _)) ?_; rintro _ _ ⟨rfl, rfl⟩)
  repeat' (first | refine wy1 (a := by simp only [go_sem, ↓reduceIte, Nat.reduceEqDiff, reduceCtorEq, Nat.reduceAdd, Nat.reduceMul, Nat.reduceLeDiff, aLoad, aStore, h3.b, h3.c]; exact rfl) (h := ?_) | fail)
  (refine wc (And.intro Try.call31 (fnF L [cV 1, cV 0] _ 0 _ (upd_same _ _ _) (by first | omega | (dsimp only; omega) | (dsimp only at *; omega)) (by decide))) ?_; rintro _ _ ⟨rfl, rfl⟩)
  (refine wc (And.intro Try.call25 (fn25 L 0 _)) ?_; rintro _ _ ⟨rfl, rfl⟩)
  (refine wc (And.intro Try.call25 (fn25 L 1 _)) ?_; rintro _ _ ⟨rfl, rfl⟩)
  repeat' (first | refine wy1 (a := by simp only [go_sem, ↓reduceIte, Nat.reduceEqDiff, reduceCtorEq, Nat.reduceAdd, Nat.reduceMul, Nat.reduceLeDiff, aLoad, aStore, h3.b, h3.c]; exact rfl) (h := ?_) | fail)
  (refine wc (And.intro Try.call31 (fnF L [cV 0, cV 1] _ 0 _ (upd_same _ _ _) (by first | omega | (dsimp only; omega) | (dsimp only at *; omega)) (by decide))) ?_; rintro _ _ ⟨rfl, rfl⟩)
  (refine wc (And.intro Try.call13 (mguD L (a := fT [cV 1, cV 0]) (b := fT [cV 0, cV 1]) _ tl2 (by kernel_rfl) (by kernel_rfl) (by decide))) ?_; rintro _ _ ⟨rfl, rfl⟩)
  repeat' (first | refine wy1 (a := by simp only [go_sem, ↓reduceIte, Nat.reduceEqDiff, reduceCtorEq, Nat.reduceAdd, Nat.reduceMul, Nat.reduceLeDiff, aLoad, aStore, h3.b, h3.c]; exact rfl) (h := ?_) | fail)
  refine awOps_nil (hK _ _ ?_)
  refine AW.less (sl' := [(1, .av (.ptr (s.nx + 3) 0)), (2, .av (.ptr (s.nx + 4) 0)), (3, .av (.sc (slB [(0, [cC]), (1, [cB])] 0))), (4, vI 0), (5, .av (.sc (slB [(1, [cV 0])] 0))), (6, vI 0)]) (AllIn.less ⟨rfl, rfl, rfl, rfl, rfl, rfl, trivial⟩) ?_
  refine aw_state (J := fun s' => HD s s') (h3.frame (by first | omega | (dsimp only; omega) | (dsimp only at *; omega)) fun j hj => ((upd_ne _ _ (by omega)).trans (upd_ne _ _ (by omega)))) fun s4 h4 => ?_
  clear hK K
  refine aw_region_seq C (pb := false) rfl fun K hK => ?_
  (refine wc (And.intro Try.call25 (fn25 L 0 _)) ?_; rintro _ _ ⟨rfl, rfl⟩)
  repeat' (first | refine wy1 (a := by simp only [go_sem, ↓reduceIte, Nat.reduceEqDiff, reduceCtorEq, Nat.reduceAdd, Nat.reduceMul, Nat.reduceLeDiff, aLoad, aStore, h4.b, h4.c]; exact rfl) (h := ?_) | fail)
  (refine wc (And.intro Try.call25 (fn25 L 0 _)) ?_; rintro _ _ ⟨rfl, rfl⟩)
  repeat' (first | refine wy1 (a := by simp only [go_sem, ↓reduceIte, Nat.reduceEqDiff, reduceCtorEq, Nat.reduceAdd, Nat.reduceMul, Nat.reduceLeDiff, aLoad, aStore, h4.b, h4.c]; exact rfl) (h := ?_) | fail)
  (refine wc (And.intro Try.call31 (fnF L [cV 0] _ 0 _ (upd_same _ _ _) (by first | omega | (dsimp only; omega) | (dsimp only at *; omega)) (by decide))) ?_; rintro _ _ ⟨rfl, rfl⟩)
  refine wc (And.intro Try.call13 (FnL.pur (PurArgs.pur (celC_pure (l := [cV 0]) ((upd_ne _ _ (by omega)).trans (upd_same _ _ _))) (PurArgs.keep PurArgs.nil)) (mguD L _ tl3 (by kernel_rfl) (by kernel_rfl) (by decide)))) ?_
  rintro _ _ ⟨rfl, rfl⟩
  repeat' (first | refine wy1 (a := by simp only [go_sem, ↓reduceIte, Nat.reduceEqDiff, reduceCtorEq, Nat.reduceAdd, Nat.reduceMul, Nat.reduceLeDiff, aLoad, aStore, h4.b, h4.c]; exact rfl) (h := ?_) | fail)
  refine awOps_nil (hK _ _ ?_)
  refine AW.less (sl' := [(1, .av (.ptr (s.nx + 3) 0)), (2, .av (.ptr (s.nx + 4) 0)), (3, .av (.sc (slB [(0, [cC]), (1, [cB])] 0))), (4, vI 0), (5, .av (.sc (slB [(1, [cV 0])] 0))), (6, vI 0), (8, vI 3)]) (AllIn.less ⟨rfl, rfl, rfl, rfl, rfl, rfl, rfl, trivial⟩) ?_
  refine aw_state (J := fun s' => HD s s') (h4.frame (by first | omega | (dsimp only; omega) | (dsimp only at *; omega)) fun j hj => ((upd_ne _ _ (by omega)).trans ((upd_ne _ _ (by omega)).trans (upd_ne _ _ (by omega))))) fun s5 h5 => ?_
  clear hK K
  obtain ⟨o5, ho5⟩ : ∃ o, o = upd (upd s5.ob (s5.nx + 1) (.cs (celC [cB]) 0)) (s5.nx + 4) (.cs (celC [cC]) 0) := ⟨_, rfl⟩
  have ha5 : o5 (s5.nx + 1) = .cs (celC [cB]) 0 := by rw [ho5, upd_ne _ _ (by omega), upd_same]
  have hd5 : o5 (s5.nx + 4) = .cs (celC [cC]) 0 := by rw [ho5, upd_same]
  have hf5 : ∀ j, j < s5.nx → o5 j = s5.ob j := fun j hj => by rw [ho5, upd_ne _ _ (by omega), upd_ne _ _ (by omega)]
  have hbo5 := (hf5 _ (by have := h5.hi; omega)).trans h5.b
  have hco5 := (hf5 _ h5.hi).trans h5.c
  refine aw_dra_seq C (pb := false) 12 [] [o5] rfl (by kernel_rfl) (by kernel_rfl) rfl (fun j hj => hf5 j hj) fun K hK => ?_
  (first | refine dra_yes [0] (by rfl) (by rfl) (by rfl) (by rfl) (by kernel_rfl) ⟨⟨_, by simp  only [go_sem, ↓reduceIte, Nat.reduceEqDiff, reduceCtorEq, Nat.reduceAdd, Nat.reduceMul, Nat.reduceLeDiff, aLoad, aStore, osL_0, osL_1, osL_2, osL_3, osL_4, osL_5, osL_6, hbo5, hco5]; (try exact rfl), fun _ => rfl⟩, trivial⟩ ?_ | refine dra_no (by rfl) (by rfl) (by rfl) ?_)
  refine dra_yes [0] (by rfl) (by rfl) (by rfl) (by rfl) (by kernel_rfl) ⟨⟨_, (by simp only [go_sem, ↓reduceIte, Nat.reduceEqDiff, reduceCtorEq, Nat.reduceAdd, Nat.reduceMul, Nat.reduceLeDiff, aLoad, aStore, osL_0, osL_1, osL_2, osL_3, osL_4, osL_5, osL_6, hbo5, hco5]; try exact rfl), fun j => upd_self ha5 j⟩, trivial⟩ ?_
  refine dra_callsil [0] (by rfl) (by rfl) (by rfl) (by rfl) (by kernel_rfl) ⟨And.intro Try.call31 (fnF L [cB] _ 0 _ ha5 (by first | omega | (dsimp only; omega) | (dsimp only at *; omega)) (by decide)), trivial⟩ ?_
  (first | refine dra_yes [0] (by rfl) (by rfl) (by rfl) (by rfl) (by kernel_rfl) ⟨⟨_, by simp  only [go_sem, ↓reduceIte, Nat.reduceEqDiff, reduceCtorEq, Nat.reduceAdd, Nat.reduceMul, Nat.reduceLeDiff, aLoad, aStore, osL_0, osL_1, osL_2, osL_3, osL_4, osL_5, osL_6, hbo5, hco5]; (try exact rfl), fun _ => rfl⟩, trivial⟩ ?_ | refine dra_no (by rfl) (by rfl) (by rfl) ?_)
  refine dra_yes [0] (by rfl) (by rfl) (by rfl) (by rfl) (by kernel_rfl) ⟨⟨_, (by simp only [go_sem, ↓reduceIte, Nat.reduceEqDiff, reduceCtorEq, Nat.reduceAdd, Nat.reduceMul, Nat.reduceLeDiff, aLoad, aStore, osL_0, osL_1, osL_2, osL_3, osL_4, osL_5, osL_6, hbo5, hco5]; try exact rfl), fun j => upd_self hd5 j⟩, trivial⟩ ?_
  refine dra_callsil [0] (by rfl) (by rfl) (by rfl) (by rfl) (by kernel_rfl) ⟨And.intro Try.call31 (fnF L [cC] _ 0 _ hd5 (by first | omega | (dsimp only; omega) | (dsimp only at *; omega)) (by decide)), trivial⟩ ?_
  refine dra_callsil [0] (by rfl) (by rfl) (by rfl) (by rfl) (by kernel_rfl) ⟨And.intro Try.call13 (mguD L (a := fT [cB]) (b := fT [cC]) _ tl4 (by kernel_rfl) (by kernel_rfl) (by decide)), trivial⟩ ?_
  iterate 5 (first | refine dra_yes [0] (by rfl) (by rfl) (by rfl) (by rfl) (by kernel_rfl) ⟨⟨_, by simp  only [go_sem, ↓reduceIte, Nat.reduceEqDiff, reduceCtorEq, Nat.reduceAdd, Nat.reduceMul, Nat.reduceLeDiff, aLoad, aStore, osL_0, osL_1, osL_2, osL_3, osL_4, osL_5, osL_6, hbo5, hco5]; (try exact rfl), fun _ => rfl⟩, trivial⟩ ?_ | refine dra_no (by rfl) (by rfl) (by rfl) ?_)
  refine dra_nil (hK _ ?_)
  simp only [osL_0, osL_1, osL_2, osL_3, osL_4, osL_5, osL_6, List.length_cons, List.length_nil, Nat.reduceAdd]
  refine AW.less (sl' := [(1, .av (.ptr (s.nx + 3) 0)), (2, .av (.ptr (s.nx + 4) 0)), (3, .av (.sc (slB [(0, [cC]), (1, [cB])] 0))), (4, vI 0), (5, .av (.sc (slB [(1, [cV 0])] 0))), (6, vI 0), (8, vI 3), (10, vI 3)]) (AllIn.less ⟨rfl, rfl, rfl, rfl, rfl, rfl, rfl, rfl, trivial⟩) ?_
  refine aw_state (J := fun s' => HD s s') (h5.frame (by first | omega | (dsimp only; omega) | (dsimp only at *; omega)) fun j hj => hf5 j hj) fun s6 h6 => ?_
  clear hK K
  refine aw_region_seq C (pb := false) rfl fun K hK => ?_
  repeat' (first | refine wy1 (a := by simp only [go_sem, ↓reduceIte, Nat.reduceEqDiff, reduceCtorEq, Nat.reduceAdd, Nat.reduceMul, Nat.reduceLeDiff, aLoad, aStore, h6.b, h6.c]; exact rfl) (h := ?_) | fail)
  (refine wc (And.intro Try.call31 (fnF L [cN 1] _ 0 _ (upd_same _ _ _) (by first | omega | (dsimp only; omega) | (dsimp only at *; omega)) (by decide))) ?_; rintro _ _ ⟨rfl, rfl⟩)
  repeat' (first | refine wy1 (a := by simp only [go_sem, ↓reduceIte, Nat.reduceEqDiff, reduceCtorEq, Nat.reduceAdd, Nat.reduceMul, Nat.reduceLeDiff, aLoad, aStore, h6.b, h6.c]; exact rfl) (h := ?_) | fail)
  (refine wc (And.intro Try.call31 (fnF L [cN 2] _ 0 _ (upd_same _ _ _) (by first | omega | (dsimp only; omega) | (dsimp only at *; omega)) (by decide))) ?_; rintro _ _ ⟨rfl, rfl⟩)
  (refine wc (And.intro Try.call13 (mguD L (a := fT [cN 1]) (b := fT [cN 2]) _ tl5 (by kernel_rfl) (by kernel_rfl) (by decide))) ?_; rintro _ _ ⟨rfl, rfl⟩)
  repeat' (first | refine wy1 (a := by simp only [go_sem, ↓reduceIte, Nat.reduceEqDiff, reduceCtorEq, Nat.reduceAdd, Nat.reduceMul, Nat.reduceLeDiff, aLoad, aStore, h6.b, h6.c]; exact rfl) (h := ?_) | fail)
  refine awOps_nil (hK _ _ ?_)
  refine AW.less (sl' := [(1, .av (.ptr (s.nx + 3) 0)), (2, .av (.ptr (s.nx + 4) 0)), (3, .av (.sc (slB [(0, [cC]), (1, [cB])] 0))), (4, vI 0), (5, .av (.sc (slB [(1, [cV 0])] 0))), (6, vI 0), (8, vI 3), (10, vI 3), (12, vI 3)]) (AllIn.less ⟨rfl, rfl, rfl, rfl, rfl, rfl, rfl, rfl, rfl, trivial⟩) ?_
  refine aw_state (J := fun s' => HD s s') (h6.frame (by first | omega | (dsimp only; omega) | (dsimp only at *; omega)) fun j hj => ((upd_ne _ _ (by omega)).trans (upd_ne _ _ (by omega)))) fun s7 h7 => ?_
  clear hK K
  refine aw_region_seq C (pb := false) rfl fun K hK => ?_
  (refine wc (And.intro Try.call25 (fn25 L 0 _)) ?_; rintro _ _ ⟨rfl, rfl⟩)
  (refine wc (And.intro Try.call25 (fn25 L 1 _)) ?_; rintro _ _ ⟨rfl, rfl⟩)
  repeat' (first | refine wy1 (a := by simp only [go_sem, ↓reduceIte, Nat.reduceEqDiff, reduceCtorEq, Nat.reduceAdd, Nat.reduceMul, Nat.reduceLeDiff, aLoad, aStore, h7.b, h7.c]; exact rfl) (h := ?_) | fail)
  (refine wc (And.intro Try.call31 (fnF L [cV 0, cV 1] _ 0 _ (upd_same _ _ _) (by first | omega | (dsimp only; omega) | (dsimp only at *; omega)) (by decide))) ?_; rintro _ _ ⟨rfl, rfl⟩)
  (refine wc (And.intro Try.call25 (fn25 L 1 _)) ?_; rintro _ _ ⟨rfl, rfl⟩)
  (refine wc (And.intro Try.call25 (fn25 L 0 _)) ?_; rintro _ _ ⟨rfl, rfl⟩)
  repeat' (first | refine wy1 (a := by simp only [go_sem, ↓reduceIte, Nat.reduceEqDiff, reduceCtorEq, Nat.reduceAdd, Nat.reduceMul, Nat.reduceLeDiff, aLoad, aStore, h7.b, h7.c]; exact rfl) (h := ?_) | fail)
  (refine wc (And.intro Try.call31 (fnF L [cV 1, cV 0] _ 0 _ (upd_same _ _ _) (by first | omega | (dsimp only; omega) | (dsimp only at *; omega)) (by decide))) ?_; rintro _ _ ⟨rfl, rfl⟩)
  refine wc (And.intro Try.call15 (matD L (a := fT [cV 0, cV 1]) (b := fT [cV 1, cV 0]) _ tl6 (by kernel_rfl) (by kernel_rfl) rb6)) ?_
  rintro _ _ ⟨⟨y7, rfl, hy7⟩, rfl⟩
  repeat' (first | refine wy1 (a := by simp only [go_sem, ↓reduceIte, Nat.reduceEqDiff, reduceCtorEq, Nat.reduceAdd, Nat.reduceMul, Nat.reduceLeDiff, aLoad, aStore, h7.b, h7.c]; exact rfl) (h := ?_) | fail)
  refine awOps_nil (hK _ _ ?_)
  refine AW.less (sl' := [(1, .av (.ptr (s.nx + 3) 0)), (2, .av (.ptr (s.nx + 4) 0)), (3, .av (.sc (slB [(0, [cC]), (1, [cB])] 0))), (4, vI 0), (5, .av (.sc (slB [(1, [cV 0])] 0))), (6, vI 0), (8, vI 3), (10, vI 3), (12, vI 3), (13, .av (.sc y7)), (14, vB true)]) (AllIn.less ⟨rfl, rfl, rfl, rfl, rfl, rfl, rfl, rfl, rfl, rfl, rfl, trivial⟩) ?_
  refine aw_state (J := fun s' => HD s s') (h7.frame (by first | omega | (dsimp only; omega) | (dsimp only at *; omega)) fun j hj => ((upd_ne _ _ (by omega)).trans (upd_ne _ _ (by omega)))) fun s8 h8 => ?_
  clear hK K
  refine aw_region_seq C (pb := false) rfl fun K hK => ?_
  repeat' (first | refine wy1 (a := by simp only [go_sem, ↓reduceIte, Nat.reduceEqDiff, reduceCtorEq, Nat.reduceAdd, Nat.reduceMul, Nat.reduceLeDiff, aLoad, aStore, h8.b, h8.c]; exact rfl) (h := ?_) | fail)
  (refine wc (And.intro Try.call31 (fnF L [cB] _ 0 _ (upd_same _ _ _) (by first | omega | (dsimp only; omega) | (dsimp only at *; omega)) (by decide))) ?_; rintro _ _ ⟨rfl, rfl⟩)
  (refine wc (And.intro Try.call25 (fn25 L 0 _)) ?_; rintro _ _ ⟨rfl, rfl⟩)
  repeat' (first | refine wy1 (a := by simp only [go_sem, ↓reduceIte, Nat.reduceEqDiff, reduceCtorEq, Nat.reduceAdd, Nat.reduceMul, Nat.reduceLeDiff, aLoad, aStore, h8.b, h8.c]; exact rfl) (h := ?_) | fail)
  (refine wc (And.intro Try.call31 (fnF L [cV 0] _ 0 _ (upd_same _ _ _) (by first | omega | (dsimp only; omega) | (dsimp only at *; omega)) (by decide))) ?_; rintro _ _ ⟨rfl, rfl⟩)
  refine wc (And.intro Try.call15 (matN L (a := fT [cB]) (b := fT [cV 0]) _ tl7 (by kernel_rfl) (by kernel_rfl))) ?_
  rintro _ _ ⟨⟨y8, rfl, hy8⟩, rfl⟩
  repeat' (first | refine wy1 (a := by simp only [go_sem, ↓reduceIte, Nat.reduceEqDiff, reduceCtorEq, Nat.reduceAdd, Nat.reduceMul, Nat.reduceLeDiff, aLoad, aStore, h8.b, h8.c]; exact rfl) (h := ?_) | fail)
  refine awOps_nil (hK _ _ ?_)
  refine AW.less (sl' := [(1, .av (.ptr (s.nx + 3) 0)), (2, .av (.ptr (s.nx + 4) 0)), (3, .av (.sc (slB [(0, [cC]), (1, [cB])] 0))), (4, vI 0), (5, .av (.sc (slB [(1, [cV 0])] 0))), (6, vI 0), (8, vI 3), (10, vI 3), (12, vI 3), (13, .av (.sc y7)), (14, vB true), (16, vB false)]) (AllIn.less ⟨rfl, rfl, rfl, rfl, rfl, rfl, rfl, rfl, rfl, rfl, rfl, rfl, trivial⟩) ?_
  refine aw_state (J := fun s' => HD s s') (h8.frame (by first | omega | (dsimp only; omega) | (dsimp only at *; omega)) fun j hj => ((upd_ne _ _ (by omega)).trans (upd_ne _ _ (by omega)))) fun s9 h9 => ?_
  clear hK K
  refine aw_region_seq C (pb := false) rfl fun K hK => ?_
  (refine wc (And.intro Try.call25 (fn25 L 0 _)) ?_; rintro _ _ ⟨rfl, rfl⟩)
  (refine wc (And.intro Try.call25 (fn25 L 0 _)) ?_; rintro _ _ ⟨rfl, rfl⟩)
  repeat' (first | refine wy1 (a := by simp only [go_sem, ↓reduceIte, Nat.reduceEqDiff, reduceCtorEq, Nat.reduceAdd, Nat.reduceMul, Nat.reduceLeDiff, aLoad, aStore, h9.b, h9.c]; exact rfl) (h := ?_) | fail)
  (refine wc (And.intro Try.call31 (fnF L [cV 0, cV 0] _ 0 _ (upd_same _ _ _) (by first | omega | (dsimp only; omega) | (dsimp only at *; omega)) (by decide))) ?_; rintro _ _ ⟨rfl, rfl⟩)
  (refine wc (And.intro Try.call25 (fn25 L 0 _)) ?_; rintro _ _ ⟨rfl, rfl⟩)
  (refine wc (And.intro Try.call25 (fn25 L 0 _)) ?_; rintro _ _ ⟨rfl, rfl⟩)
  repeat' (first | refine wy1 (a := by simp only [go_sem, ↓reduceIte, Nat.reduceEqDiff, reduceCtorEq, Nat.reduceAdd, Nat.reduceMul, Nat.reduceLeDiff, aLoad, aStore, h9.b, h9.c]; exact rfl) (h := ?_) | fail)
  (refine wc (And.intro Try.call31 (fnF L [cV 0, cV 0] _ 0 _ (upd_same _ _ _) (by first | omega | (dsimp only; omega) | (dsimp only at *; omega)) (by decide))) ?_; rintro _ _ ⟨rfl, rfl⟩)
  refine wc (And.intro Try.call15 (matD L (a := fT [cV 0, cV 0]) (b := fT [cV 0, cV 0]) _ tl8 (by kernel_rfl) (by kernel_rfl) rb8)) ?_
  rintro _ _ ⟨⟨y9, rfl, hy9⟩, rfl⟩
  repeat' (first | refine wy1 (a := by simp only [go_sem, ↓reduceIte, Nat.reduceEqDiff, reduceCtorEq, Nat.reduceAdd, Nat.reduceMul, Nat.reduceLeDiff, aLoad, aStore, h9.b, h9.c]; exact rfl) (h := ?_) | fail)
  refine awOps_nil (hK _ _ ?_)
  refine AW.less (sl' := [(1, .av (.ptr (s.nx + 3) 0)), (2, .av (.ptr (s.nx + 4) 0)), (3, .av (.sc (slB [(0, [cC]), (1, [cB])] 0))), (4, vI 0), (5, .av (.sc (slB [(1, [cV 0])] 0))), (6, vI 0), (8, vI 3), (10, vI 3), (12, vI 3), (13, .av (.sc y7)), (14, vB true), (16, vB false), (17, .av (.sc y9)), (18, vB true)]) (AllIn.less ⟨rfl, rfl, rfl, rfl, rfl, rfl, rfl, rfl, rfl, rfl, rfl, rfl, rfl, rfl, trivial⟩) ?_
  refine aw_state (J := fun s' => HD s s') (h9.frame (by first | omega | (dsimp only; omega) | (dsimp only at *; omega)) fun j hj => ((upd_ne _ _ (by omega)).trans (upd_ne _ _ (by omega)))) fun s10 h10 => ?_
  clear hK K
  refine aw_seq ?_
  have hi10 := h10.hi
  refine aw_region_seq C (pb := false) rfl fun K hK => ?_
  repeat' (first | refine wy1 (a := by simp only [go_sem, ↓reduceIte, Nat.reduceEqDiff, reduceCtorEq, Nat.reduceAdd, Nat.reduceMul, Nat.reduceLeDiff, aLoad, aStore, h10.b, h10.c]; exact rfl) (h := ?_) | fail)
  refine wy2 ((show aop C false _ _ _ _ = (aLoad T _ 42 (.av (.ptr (s.nx + 3) 0))).map _ from rfl).trans (ldB3 ((upd_ne _ _ (by omega)).trans h10.b))) ?_
  repeat' (first | refine wy1 (a := by simp only [go_sem, ↓reduceIte, Nat.reduceEqDiff, reduceCtorEq, Nat.reduceAdd, Nat.reduceMul, Nat.reduceLeDiff, aLoad, aStore, h10.b, h10.c]; exact rfl) (h := ?_) | fail)
  refine wc (And.intro Try.call17 (FnL.pur (PurArgs.keep (PurArgs.pur (pur_bnd2 (a := [cC]) (n := 0) (b := [cB]) (m := 1) (by omega) (by omega) (by omega) (upd_same _ _ _) ((upd_ne _ _ (by omega)).trans ((upd_ne _ _ (by omega)).trans (upd_same _ _ _))) ((upd_ne _ _ (by omega)).trans (upd_same _ _ _))) PurArgs.nil)) (fnSame L [(0, [cC]), (1, [cB])] [(0, [cC]), (1, [cB])] _ _ _ (slB_g [(0, [cC]), (1, [cB])]) (.inr rfl) (by decide) (by decide)))) ?_
  rintro _ _ ⟨rfl, rfl⟩
  repeat' (first | refine wy1 (a := by simp only [go_sem, ↓reduceIte, Nat.reduceEqDiff, reduceCtorEq, Nat.reduceAdd, Nat.reduceMul, Nat.reduceLeDiff, aLoad, aStore, h10.b, h10.c]; exact rfl) (h := ?_) | refine wn (h := ?_) | fail)
  try (first | (refine wc (And.intro Try.call25 (fn25 L 0 _)) ?_; rintro _ _ ⟨rfl, rfl⟩) | refine wn (h := ?_) | fail)
  repeat' (first | refine wy1 (a := by simp only [go_sem, ↓reduceIte, Nat.reduceEqDiff, reduceCtorEq, Nat.reduceAdd, Nat.reduceMul, Nat.reduceLeDiff, aLoad, aStore, h10.b, h10.c]; exact rfl) (h := ?_) | refine wn (h := ?_) | fail)
  refine wc (And.intro Try.call17 (FnL.pur (PurArgs.keep (PurArgs.pur (pur_bnd1 (a := [cV 0]) (n := 1) (by omega) (upd_same _ _ _) ((upd_ne _ _ (by omega)).trans (upd_same _ _ _))) PurArgs.nil)) (fnSame L [(1, [cV 0])] [(1, [cV 0])] _ _ _ (slB_g [(1, [cV 0])]) (.inr rfl) (by decide) (by decide)))) ?_
  rintro _ _ ⟨rfl, rfl⟩
  repeat' (first | refine wy1 (a := by simp only [go_sem, ↓reduceIte, Nat.reduceEqDiff, reduceCtorEq, Nat.reduceAdd, Nat.reduceMul, Nat.reduceLeDiff, aLoad, aStore, h10.b, h10.c]; exact rfl) (h := ?_) | refine wn (h := ?_) | fail)
  refine awOps_nil (hK _ _ ?_)
  refine AW.less (sl' := [(126, vB false), (4, vI 0), (6, vI 0), (8, vI 3), (10, vI 3), (12, vI 3), (13, .av (.sc y7)), (14, vB true), (16, vB false), (17, .av (.sc y9)), (18, vB true)]) (AllIn.less ⟨rfl, rfl, rfl, rfl, rfl, rfl, rfl, rfl, rfl, rfl, rfl, trivial⟩) ?_
  refine aw_state (J := fun s' => HD s s') (h10.frame (by first | omega | (dsimp only; omega) | (dsimp only at *; omega)) fun j hj => ((upd_ne _ _ (by omega)).trans ((upd_ne _ _ (by omega)).trans ((upd_ne _ _ (by omega)).trans ((upd_ne _ _ (by omega)).trans ((upd_ne _ _ (by omega)).trans ((upd_ne _ _ (by omega)).trans ((upd_ne _ _ (by omega)).trans ((upd_ne _ _ (by omega)).trans ((upd_ne _ _ (by omega)).trans (upd_ne _ _ (by omega)))))))))))) fun s11 h11 => ?_
  clear hK K
  refine aw_cond (by rfl) ?_ ?_
  · intro hc0
    cases hc0
  · intro hc0
    refine aw_skip ?_
    simp only [thenA_normal, thenA_ret, thenA_exit, blockA_normal, blockA_ret, blockA_exit, ↓reduceIte, Nat.reduceEqDiff]
    refine aw_region_seq C (pb := false) rfl fun K hK => ?_
    repeat' (first | refine wy1 (a := by simp only [go_sem, ↓reduceIte, Nat.reduceEqDiff, reduceCtorEq, Nat.reduceAdd, Nat.reduceMul, Nat.reduceLeDiff, aLoad, aStore, lenB hy9]; exact rfl) (h := ?_) | refine wn (h := ?_) | fail)
    try (first | (refine wc (And.intro Try.call25 (fn25 L 1 _)) ?_; rintro _ _ ⟨rfl, rfl⟩) | refine wn (h := ?_) | fail)
    repeat' (first | refine wy1 (a := by simp only [go_sem, ↓reduceIte, Nat.reduceEqDiff, reduceCtorEq, Nat.reduceAdd, Nat.reduceMul, Nat.reduceLeDiff, aLoad, aStore, lenB hy9]; exact rfl) (h := ?_) | refine wn (h := ?_) | fail)
    try (first | (refine wc (And.intro Try.call25 (fn25 L 0 _)) ?_; rintro _ _ ⟨rfl, rfl⟩) | refine wn (h := ?_) | fail)
    repeat' (first | refine wy1 (a := by simp only [go_sem, ↓reduceIte, Nat.reduceEqDiff, reduceCtorEq, Nat.reduceAdd, Nat.reduceMul, Nat.reduceLeDiff, aLoad, aStore, lenB hy9]; exact rfl) (h := ?_) | refine wn (h := ?_) | fail)
    refine wc (And.intro Try.call17 (FnL.pur (PurArgs.keep (PurArgs.pur (pur_bnd2 (a := [cV 1]) (n := 0) (b := [cV 0]) (m := 1) (by omega) (by omega) (by omega) (upd_same _ _ _) ((upd_ne _ _ (by omega)).trans ((upd_ne _ _ (by omega)).trans (upd_same _ _ _))) ((upd_ne _ _ (by omega)).trans (upd_same _ _ _))) PurArgs.nil)) (fnSame L [(0, [cV 1]), (1, [cV 0])] [(0, [cV 1]), (1, [cV 0])] _ _ _ hy7 (.inr rfl) (by decide) (by decide)))) ?_
    rintro _ _ ⟨rfl, rfl⟩
    repeat' (first | refine wy1 (a := by simp only [go_sem, ↓reduceIte, Nat.reduceEqDiff, reduceCtorEq, Nat.reduceAdd, Nat.reduceMul, Nat.reduceLeDiff, aLoad, aStore, lenB hy9]; exact rfl) (h := ?_) | refine wn (h := ?_) | fail)
    try (first | (refine wc (And.intro Try.call25 (fn25 L 7 _)) ?_; rintro _ _ ⟨rfl, rfl⟩) | refine wn (h := ?_) | fail)
    try (first | (refine wc (And.intro Try.call25 (fn25 L 2 _)) ?_; rintro _ _ ⟨rfl, rfl⟩) | refine wn (h := ?_) | fail)
    repeat' (first | refine wy1 (a := by simp only [go_sem, ↓reduceIte, Nat.reduceEqDiff, reduceCtorEq, Nat.reduceAdd, Nat.reduceMul, Nat.reduceLeDiff, aLoad, aStore, lenB hy9]; exact rfl) (h := ?_) | refine wn (h := ?_) | fail)
    try (first | (refine wc (And.intro Try.call31 (fnF L [cV 7, cV 2] _ 0 _ (upd_same _ _ _) (by first | omega | (dsimp only; omega) | (dsimp only at *; omega)) (by decide))) ?_; rintro _ _ ⟨rfl, rfl⟩) | refine wn (h := ?_) | fail)
    try (first | (refine wc (And.intro Try.call25 (fn25 L 0 _)) ?_; rintro _ _ ⟨rfl, rfl⟩) | refine wn (h := ?_) | fail)
    try (first | (refine wc (And.intro Try.call25 (fn25 L 7 _)) ?_; rintro _ _ ⟨rfl, rfl⟩) | refine wn (h := ?_) | fail)
    repeat' (first | refine wy1 (a := by simp only [go_sem, ↓reduceIte, Nat.reduceEqDiff, reduceCtorEq, Nat.reduceAdd, Nat.reduceMul, Nat.reduceLeDiff, aLoad, aStore, lenB hy9]; exact rfl) (h := ?_) | refine wn (h := ?_) | fail)
    try (first | (refine wc (And.intro Try.call31 (fnF L [cV 0, cV 7] _ 0 _ (upd_same _ _ _) (by first | omega | (dsimp only; omega) | (dsimp only at *; omega)) (by decide))) ?_; rintro _ _ ⟨rfl, rfl⟩) | refine wn (h := ?_) | fail)
    refine wc (And.intro Try.call18 (varT L _)) ?_
    rintro _ _ ⟨rfl, rfl⟩
    repeat' (first | refine wy1 (a := by simp only [go_sem, ↓reduceIte, Nat.reduceEqDiff, reduceCtorEq, Nat.reduceAdd, Nat.reduceMul, Nat.reduceLeDiff, aLoad, aStore, lenB hy9]; exact rfl) (h := ?_) | fail)
    try (first | (refine wc (And.intro Try.call25 (fn25 L 0 _)) ?_; rintro _ _ ⟨rfl, rfl⟩) | refine wn (h := ?_) | fail)
    try (first | (refine wc (And.intro Try.call25 (fn25 L 0 _)) ?_; rintro _ _ ⟨rfl, rfl⟩) | refine wn (h := ?_) | fail)
    repeat' (first | refine wy1 (a := by simp only [go_sem, ↓reduceIte, Nat.reduceEqDiff, reduceCtorEq, Nat.reduceAdd, Nat.reduceMul, Nat.reduceLeDiff, aLoad, aStore, lenB hy9]; exact rfl) (h := ?_) | refine wn (h := ?_) | fail)
    try (first | (refine wc (And.intro Try.call31 (fnF L [cV 0, cV 0] _ 0 _ (upd_same _ _ _) (by first | omega | (dsimp only; omega) | (dsimp only at *; omega)) (by decide))) ?_; rintro _ _ ⟨rfl, rfl⟩) | refine wn (h := ?_) | fail)
    try (first | (refine wc (And.intro Try.call25 (fn25 L 0 _)) ?_; rintro _ _ ⟨rfl, rfl⟩) | refine wn (h := ?_) | fail)
    try (first | (refine wc (And.intro Try.call25 (fn25 L 1 _)) ?_; rintro _ _ ⟨rfl, rfl⟩) | refine wn (h := ?_) | fail)
    repeat' (first | refine wy1 (a := by simp only [go_sem, ↓reduceIte, Nat.reduceEqDiff, reduceCtorEq, Nat.reduceAdd, Nat.reduceMul, Nat.reduceLeDiff, aLoad, aStore, lenB hy9]; exact rfl) (h := ?_) | refine wn (h := ?_) | fail)
    try (first | (refine wc (And.intro Try.call31 (fnF L [cV 0, cV 1] _ 0 _ (upd_same _ _ _) (by first | omega | (dsimp only; omega) | (dsimp only at *; omega)) (by decide))) ?_; rintro _ _ ⟨rfl, rfl⟩) | refine wn (h := ?_) | fail)
    refine wc (And.intro Try.call18 (varF L _)) ?_
    rintro _ _ ⟨rfl, rfl⟩
    repeat' (first | refine wy1 (a := by simp only [go_sem, ↓reduceIte, Nat.reduceEqDiff, reduceCtorEq, Nat.reduceAdd, Nat.reduceMul, Nat.reduceLeDiff, aLoad, aStore, lenB hy9]; exact rfl) (h := ?_) | refine wn (h := ?_) | fail)
    refine awOps_nil (hK _ _ ?_)
    refine AW.less (sl' := [(0, vB true)]) (AllIn.less ⟨rfl, trivial⟩) ?_
    clear hK K
    refine aw_ret ?_
    simp only [go_sem, ↓reduceIte, Nat.reduceEqDiff, reduceCtorEq, Nat.reduceAdd, Nat.reduceMul, Nat.reduceLeDiff, aLoad, aStore, FnQ, resA]
    -- 0f.ret
    have hk11 := h11.kp.1
    exact fun _ => ⟨by first | rfl | trivial, fun j hj => (((upd_ne _ _ (by omega)).trans ((upd_ne _ _ (by omega)).trans ((upd_ne _ _ (by omega)).trans ((upd_ne _ _ (by omega)).trans ((upd_ne _ _ (by omega)).trans ((upd_ne _ _ (by omega)).trans ((upd_ne _ _ (by omega)).trans ((upd_ne _ _ (by omega)).trans ((upd_ne _ _ (by omega)).trans (upd_ne _ _ (by omega)))))))))))).trans (h11.kp.2.1 j hj), h11.kp.2.2, by first | rfl | trivial⟩
end Go.Am.Seat
/-
  MGU at right terms: the contract, and the plain law's cases.
-/
namespace Go.Am.Seat
open Go.Proofs
/-- What Mgu tells. -/
def mgu (a b : List Cell) : List (Nat × List Cell) × Int := (mguR 1000000 (a ++ b) a.length).getD ([], 3)
theorem mgu_cases {a b : List Cell} (ha : RTm a) (hb : RTm b) : (mgu a b = ([], 3) ∧ ∀ s, Terms s → appT s a ≠ appT s b) ∨ ∃ s, NormO a b s ∧ mgu a b = mguO s := by
  obtain ⟨out, e, h1, h2⟩ := mgu_law ha hb
  have h3 : mgu a b = (out, e) := by rw [mgu, h1]; rfl
  rw [h3]
  rcases h2 with ⟨rfl, rfl, h⟩ | ⟨s, h, h'⟩
  · exact .inl ⟨rfl, h⟩
  · exact .inr ⟨s, h, h'⟩
theorem gsl_cells {x : Sc} {l : List Cell} (h : GSl encC x l) (hl : 1 ≤ l.length) : x = .sl l.length (l.flatMap encC) := by
  rcases h with ⟨_, h⟩ | h
  · rw [h] at hl; simp at hl
  · exact h
theorem fnMade (L : Loops) (l : List Cell) (most : Nat) (s : Me) (x : Sc) (hx : GSl encC x l) (hl : l.length ≤ 281474976710656) (hn : ∀ c ∈ l, c.name.size ≤ 1152921504606846976) (hm : 1 ≤ most ∧ most ≤ 200) : FnL Try.prog L 12 [.av (.sc x), vI most] s fun r s' => (∃ t, r = vC t ∧ RTm t ∧ t.length ≤ most) ∧ s' = s :=
  (fn12 L l most s x hx hl hn hm).mono fun r s' ⟨⟨y, t, h1, h2, h3, h4⟩, h5⟩ => ⟨⟨t, by rw [h1, gsl_cells h2 (right_tm h3).pos], right_tm h3, h4⟩, h5⟩
theorem mdC_ok (t : List Cell) (i : Nat) (h most : Int) : cellOk (mdC t i h most) = true := by
  unfold mdC
  split
  · exact okV _
  · split
    · exact okI _
    · split
      · exact okF _ _
      · exact okA
theorem mdC_n {t : List Cell} {i : Nat} {h most : Int} (hh : h ≤ most) (hk : (mdC t i h most).kind = 3) : 0 ≤ (mdC t i h most).n ∧ h + (mdC t i h most).n ≤ most := by
  unfold mdC at hk ⊢
  split
  · rename_i h1
    rw [if_pos h1] at hk; cases hk
  · rename_i h1
    rw [if_neg h1] at hk
    split
    · rename_i h2
      rw [if_pos h2] at hk; cases hk
    · split
      · rename_i h3
        have hi := fitsIn_lt h3
        rw [fitsIn, List.getElem?_eq_getElem hi] at h3
        have := andI_low3 t[i].n
        have := of_decide_eq_true h3
        rw [List.getElem?_eq_getElem hi]
        simp only [Option.getD_some]
        omega
      · dsimp only; omega
theorem mdG_right {t : List Cell} {most : Int} (hm : 1 ≤ most ∧ most ≤ 200) : ∀ (f i : Nat) (nd : Int) (out : List Cell), Part out nd → out.length = i → 0 ≤ nd → (i : Int) + nd ≤ most → most - i < f → rightOk (mdG t most f i nd out) = true ∧ ((mdG t most f i nd out).length : Int) ≤ most
  | 0, i, nd, out, _, _, _, _, hf => by omega
  | f + 1, i, nd, out, hp, hl, h0, hb, hf => by
    rw [mdG]
    by_cases hn : 0 < nd
    · rw [if_pos hn]
      have hok := mdC_ok t i ((out.length : Int) + nd) most
      have hcn := mdC_n (t := t) (i := i) (h := (out.length : Int) + nd) (most := most) (by omega)
      obtain ⟨c, hc⟩ : ∃ c, c = mdC t i ((out.length : Int) + nd) most := ⟨_, rfl⟩
      rw [← hc] at hok hcn ⊢
      refine mdG_right hm f (i + 1) _ _ (hp.add hn hok rfl) (by rw [List.length_append, hl]; rfl) ?_ ?_ (by omega)
      · split
        · have := hcn (by assumption); omega
        · omega
      · split
        · have := hcn (by assumption); omega
        · omega
    · rw [if_neg hn]
      have hnd : nd = 0 := by omega
      have hend := hp.done hnd
      refine ⟨?_, by omega⟩
      have hpos : out.length ≠ 0 := by
        intro h
        rw [List.length_eq_zero_iff.1 h] at hend
        simp [endG] at hend
      simp only [rightOk, hend, beq_self_eq_true, Bool.and_true, Bool.and_eq_true, decide_eq_true_eq]
      omega
theorem made_tm {t : List Cell} {most : Nat} (hm : 1 ≤ most ∧ most ≤ 200) : RTm (madeG t most) ∧ (madeG t most).length ≤ most := by
  unfold madeG
  split
  · rename_i h
    rw [Bool.and_eq_true] at h
    exact ⟨right_tm h.1, by have := of_decide_eq_true h.2; omega⟩
  · have := mdG_right (t := t) (most := (most : Int)) (by omega) 201 0 1 [] Part.zero rfl (by omega) (by omega) (by omega)
    exact ⟨right_tm this.1, by omega⟩
theorem fnMadeV (L : Loops) (l : List Cell) (most : Nat) (s : Me) (x : Sc) (hx : GSl encC x l) (hl : l.length ≤ 281474976710656) (hn : ∀ c ∈ l, c.name.size ≤ 1152921504606846976) (hm : 1 ≤ most ∧ most ≤ 200) : FnL Try.prog L 12 [.av (.sc x), vI most] s fun r s' => r = vC (madeG l most) ∧ s' = s :=
  (fn12g L l most s x hx hl hn hm).mono fun r s' h => ⟨h.1.1, h.2⟩
/-- The bindings that Mgu tells, as a value. -/
def scB (l : List (Int × List Cell)) : Sc := if l.isEmpty = true then .nilsl else .sl l.length ((l.map bndI).flatMap encB)
theorem scB_gsl (l : List (Int × List Cell)) : GSl encB (scB l) (l.map bndI) := by
  unfold scB
  cases l with
  | nil => exact .inl ⟨rfl, rfl⟩
  | cons a l => exact .inr (by rw [if_neg (by simp), List.length_map])
theorem fnMguV (L : Loops) {a b : List Cell} (ha : RTm a) (hb : RTm b) (s : Me) : FnL Try.prog L 13 [vC a, vC b] s fun r s' => r = .tup [.av (.sc (scB ((mgu a b).1.map toI))), vI (mgu a b).2] ∧ s' = s := by
  obtain ⟨out, e, h1, h2⟩ := mgu_law ha hb
  have h3 : mgu a b = (out, e) := by rw [mgu, h1]; rfl
  have a1 := ha.pos
  have a2 := ha.len
  have b1 := hb.pos
  have b2 := hb.len
  refine (fn13 L 1000000 a b out e s _ _ (gslC a) (gslC b) (by omega) (by omega) (tok_two ha hb) (by omega) h1).mono fun r s' ⟨⟨y, h4, h5, _, h7⟩, h6⟩ => ⟨?_, h6⟩
  rw [h3, h4]
  congr 3
  dsimp only
  unfold scB
  cases hout : out with
  | nil => rw [h7 hout]; rfl
  | cons p l =>
    rw [hout, map_bndOf] at h5
    rcases h5 with ⟨_, h⟩ | h
    · simp at h
    · rw [h, if_neg (by simp), List.length_map]
theorem fnMgu (L : Loops) {a b : List Cell} (ha : RTm a) (hb : RTm b) (s : Me) : FnL Try.prog L 13 [vC a, vC b] s fun r s' => (∃ z, r = .tup [.av (.sc z), vI (mgu a b).2] ∧ GSl encB z ((mgu a b).1.map bndOf)) ∧ s' = s := by
  obtain ⟨out, e, h1, h2⟩ := mgu_law ha hb
  have h3 : mgu a b = (out, e) := by rw [mgu, h1]; rfl
  have a1 := ha.pos
  have a2 := ha.len
  have b1 := hb.pos
  have b2 := hb.len
  refine (fn13 L 1000000 a b out e s _ _ (gslC a) (gslC b) (by omega) (by omega) (tok_two ha hb) (by omega) h1).mono fun r s' ⟨⟨y, h4, h5, _⟩, h6⟩ => ⟨⟨y, ?_, ?_⟩, h6⟩
  · rw [h3]; exact h4
  · rw [h3]; exact h5
set_option maxRecDepth 10000 in
/-- The bounds on what Mgu tells. -/
theorem mguO_len (s : Int → List Cell) : (mguO s).1.length ≤ 1000 ∧ ∀ c ∈ (mguO s).1, c.2.length ≤ 200 := by
  unfold mguO
  split
  · exact ⟨Nat.zero_le _, fun c hc => by simp at hc⟩
  · rename_i h
    refine ⟨Nat.le_trans (List.length_filterMap_le _ _) (by simp), fun c hc => ?_⟩
    obtain ⟨n, hn, h1⟩ := List.mem_filterMap.1 hc
    rw [bnd] at h1
    split at h1
    · cases h1
    · simp only [Option.some.injEq] at h1
      rw [← h1]
      rcases Nat.lt_or_ge 200 (s (n : Nat)).length with h2 | h2
      · exact absurd (List.any_eq_true.2 ⟨n, hn, decide_eq_true h2⟩) h
      · exact h2
theorem mgu_len {a b : List Cell} (ha : RTm a) (hb : RTm b) : (mgu a b).1.length ≤ 1000 ∧ ∀ c ∈ (mgu a b).1, c.2.length ≤ 200 := by
  rcases mgu_cases ha hb with ⟨h, _⟩ | ⟨s, _, h⟩
  · rw [h]; exact ⟨Nat.zero_le _, fun c hc => by simp at hc⟩
  · rw [h]; exact mguO_len s
/-- Two rows told by Mgu are held against each other. -/
theorem fnSameM (L : Loops) (a b : List (Nat × List Cell)) (s : Me) (x y : Sc) (hx : GSl encB x (a.map bndOf)) (hy : GSl encB y (b.map bndOf)) (hl : a.length ≤ 1000) (hc : ∀ c ∈ a, c.2.length ≤ 200) : FnL Try.prog L 17 [.av (.sc x), .av (.sc y)] s fun r s' => r = vB (decide (a = b)) ∧ s' = s := by
  rw [map_bndOf] at hx hy
  refine (fnSame L (a.map toI) (b.map toI) s x y hx hy (by rw [List.length_map]; omega) fun c h => ?_).mono fun r s' ⟨h1, h2⟩ => ⟨?_, h2⟩
  · obtain ⟨d, hd, rfl⟩ := List.mem_map.1 h
    have := hc d hd
    simp only [toI]; omega
  · rw [h1]
    congr 1
    rw [decide_eq_decide]
    refine ⟨fun e => ?_, fun e => by rw [e]⟩
    exact List.map_inj_right (f := toI) (fun p q h => by
      simp only [toI, Prod.mk.injEq] at h
      exact Prod.ext (by omega) h.2) |>.1 e
theorem fnSameV (L : Loops) {a b : List (Nat × List Cell)} {v : Bool} (hv : decide (a = b) = v) (s : Me) (x y : Sc) (hx : GSl encB x (a.map bndOf)) (hy : GSl encB y (b.map bndOf)) (hl : a.length ≤ 1000 ∧ ∀ c ∈ a, c.2.length ≤ 200) : FnL Try.prog L 17 [.av (.sc x), .av (.sc y)] s fun r s' => r = vB v ∧ s' = s :=
  (fnSameM L a b s x y hx hy hl.1 hl.2).mono fun r s' h => ⟨h.1.trans (congrArg vB hv), h.2⟩
/-! ### The other way round; of a term and itself; of one and a deeper one -/
theorem NormO.symm {a b : List Cell} {s : Int → List Cell} (h : NormO a b s) : NormO b a s := by
  have e : ∀ n, occ (b ++ a) n ↔ occ (a ++ b) n := fun n => by simp only [occ, List.mem_append, or_comm]
  exact ⟨⟨h.eq.symm, h.tm, h.vc, fun u hu e => h.abs u hu e.symm, h.least⟩, fun n hn c hc => by
    have := h.ok n ((e n).1 hn) c hc
    exact ⟨this.1, fun hk => (e _).2 (this.2 hk)⟩, fun n hn => h.out n fun k => hn ((e n).2 k)⟩
theorem mgu_symm {a b : List Cell} (ha : RTm a) (hb : RTm b) : mgu b a = mgu a b := by
  rcases mgu_cases ha hb with ⟨h1, h2⟩ | ⟨s, h1, h2⟩
  · rcases mgu_cases hb ha with ⟨h3, h4⟩ | ⟨u, h3, h4⟩
    · rw [h1, h3]
    · exact absurd h3.eq.symm (h2 u h3.tm)
  · rcases mgu_cases hb ha with ⟨h3, h4⟩ | ⟨u, h3, h4⟩
    · exact absurd h1.eq.symm (h4 s h1.tm)
    · rw [h2, h4, h1.toNorm.uniq h3.symm.toNorm]
/-- Nothing is put for any variable. -/
def idS (n : Int) : List Cell := [varCell n]
theorem idS_tm : Terms idS := fun n => rfl
theorem mguO_id : mguO idS = ([], 0) := by
  rw [mguO, if_neg]
  · rw [show (List.range 1000).filterMap (bnd idS) = [] from List.filterMap_eq_nil_iff.2 fun n _ => by simp [bnd, idS]]
  · simp [idS]
theorem appT_id {l : List Cell} (h : ∀ c ∈ l, cellOk c = true) : appT idS l = l := appT_same (s := idS) fun c hc hk => by rw [idS, ← ok_varCell (h c hc) hk]
theorem norm_id (a : List Cell) : Norm a a idS := by
  refine ⟨rfl, idS_tm, fun n c hc _ => ?_, fun u _ _ n => appT_var u n, fun n m h => ?_⟩
  · rw [idS, List.mem_singleton] at hc
    rw [hc]; rfl
  · have := congrArg Cell.n (List.cons.inj h).1
    simp only [varCell] at this
    omega
theorem mgu_self {a : List Cell} (ha : RTm a) : mgu a a = ([], 0) := by
  rcases mgu_cases ha ha with ⟨h1, h2⟩ | ⟨s, h1, h2⟩
  · exact absurd rfl (h2 idS idS_tm)
  · rw [h2, h1.toNorm.uniq (norm_id a), mguO_id]
theorem okF1 : cellOk ⟨3, nmF, 1⟩ = true := by decide
theorem deep_tm {a : List Cell} (ha : RTm a) (hl : a.length ≤ 100) : RTm (⟨3, nmF, 1⟩ :: a) := by
  refine ⟨?_, fun c hc => ?_, by simp, by simp; omega⟩
  · rw [takes, show 0 + arC ⟨3, nmF, 1⟩ = 1 from rfl, ha.tk]; rfl
  · rcases List.mem_cons.1 hc with rfl | hc
    · exact okF1
    · exact ha.ok c hc
theorem mgu_deep {a : List Cell} (ha : RTm a) (hl : a.length ≤ 100) : mgu a (⟨3, nmF, 1⟩ :: a) = ([], 3) := by
  rcases mgu_cases ha (deep_tm ha hl) with ⟨h1, h2⟩ | ⟨s, h1, h2⟩
  · exact h1
  · have := congrArg List.length h1.eq
    rw [appT_cons s (by decide : ¬ (Cell.mk 3 nmF 1).kind = 1), List.length_cons] at this
    omega
end Go.Am.Seat
/-
  MGU, plain: normal ones, small or not, as rows of bindings; rows that rise.
-/
namespace Go.Am.Seat
open Go.Proofs
theorem appT_congr {s u : Int → List Cell} : ∀ {l : List Cell}, (∀ c ∈ l, c.kind = 1 → s c.n = u c.n) → appT s l = appT u l
  | [], _ => rfl
  | c :: l, h => by
    have e0 : ∀ s : Int → List Cell, appT s (c :: l) = (if c.kind = 1 then s c.n else [c]) ++ appT s l := fun s => by simp [appT]
    rw [e0, e0, appT_congr fun d hd => h d (by simp [hd])]
    split
    · rename_i hk; rw [h c (by simp) hk]
    · rfl
theorem fnSameE (L : Loops) (a : List (Int × List Cell)) (s : Me) (x y : Sc) (hx : GSl encB x (a.map bndI)) (hy : GSl encB y (a.map bndI)) (hl : a.length ≤ 1000 ∧ ∀ p ∈ a, p.2.length ≤ 200) : FnL Try.prog L 17 [.av (.sc x), .av (.sc y)] s fun r s' => r = vB true ∧ s' = s :=
  (fnSame L a a s x y hx hy (by omega) (fun c hc => by have := hl.2 c hc; omega)).mono fun r s' h => ⟨h.1.trans (congrArg vB (decide_eq_true rfl)), h.2⟩
theorem occ_range {t : List Cell} (hok : ∀ c ∈ t, cellOk c = true) {n : Int} (h : occ t n) : 0 ≤ n ∧ n ≤ 999 := by
  obtain ⟨c, hc, h1, h2⟩ := h
  have := (ok_var (hok c hc) h1).2
  omega
theorem ok_two {a b : List Cell} (ha : RTm a) (hb : RTm b) : ∀ c ∈ a ++ b, cellOk c = true := fun c hc => (List.mem_append.1 hc).elim (ha.ok c) (hb.ok c)
/-- What is told is small. -/
def small (s : Int → List Cell) : Prop := ∀ n : Nat, n < 1000 → (s n).length ≤ 200
theorem small_iff (s : Int → List Cell) : (List.range 1000).any (fun n => decide (200 < (s (n : Nat)).length)) = true ↔ ¬ small s := by
  rw [List.any_eq_true]
  constructor
  · rintro ⟨n, h1, h2⟩ h
    have := h n (List.mem_range.1 h1)
    have := of_decide_eq_true h2
    omega
  · intro h
    refine Classical.byContradiction fun k => h fun n hn => ?_
    rcases Nat.lt_or_ge 200 (s (n : Nat)).length with h1 | h1
    · exact absurd ⟨n, List.mem_range.2 hn, decide_eq_true h1⟩ k
    · exact h1
/-- The bindings of a normal one. -/
def bnds (s : Int → List Cell) : List (Nat × List Cell) := (List.range 1000).filterMap (bnd s)
theorem mguO_small {s : Int → List Cell} (h : small s) : mguO s = (bnds s, 0) := by
  rw [mguO, if_neg]
  · rfl
  · rw [small_iff]; exact fun k => k h
theorem mguO_big {s : Int → List Cell} (h : ¬ small s) : mguO s = ([], 2) := by
  rw [mguO, if_pos]
  rw [small_iff]; exact h
theorem mgu_norm {a b : List Cell} (ha : RTm a) (hb : RTm b) {s : Int → List Cell} (h : NormO a b s) : mgu a b = mguO s := by
  rcases mgu_cases ha hb with ⟨h1, h2⟩ | ⟨u, h1, h2⟩
  · exact absurd h.eq (h2 s h.tm)
  · rw [h2, h1.toNorm.uniq h.toNorm]
theorem bnds_mem {s : Int → List Cell} {p : Int × List Cell} : p ∈ (bnds s).map toI ↔ ∃ n : Nat, n < 1000 ∧ p = ((n : Int), s n) ∧ s n ≠ [varCell n] := by
  rw [List.mem_map]
  constructor
  · rintro ⟨q, h1, rfl⟩
    obtain ⟨n, h2, h3⟩ := List.mem_filterMap.1 h1
    rw [bnd] at h3
    split at h3
    · cases h3
    · rename_i h4
      simp only [Option.some.injEq] at h3
      subst h3
      exact ⟨n, List.mem_range.1 h2, rfl, h4⟩
  · rintro ⟨n, h1, rfl, h2⟩
    exact ⟨(n, s n), List.mem_filterMap.2 ⟨n, List.mem_range.2 h1, by rw [bnd, if_neg h2]⟩, rfl⟩
theorem bnds_lt (s : Int → List Cell) : ((bnds s).map toI).Pairwise fun a b => a.1 < b.1 := by
  rw [List.pairwise_map, bnds, List.pairwise_filterMap]
  refine List.pairwise_lt_range.imp fun {n m} h p hp q hq => ?_
  have key : ∀ {n : Nat} {p : Nat × List Cell}, bnd s n = some p → p.1 = n := by
    intro n p hp
    rw [bnd] at hp
    split at hp
    · cases hp
    · simp only [Option.some.injEq] at hp
      rw [← hp]
  have h1 := key hp
  have h2 := key hq
  simp only [toI]
  omega
theorem sorted_ext {α : Type} : ∀ {a b : List (Int × α)}, (a.Pairwise fun x y => x.1 < y.1) → (b.Pairwise fun x y => x.1 < y.1) → (∀ p, p ∈ a ↔ p ∈ b) → a = b
  | [], [], _, _, _ => rfl
  | [], y :: b, _, _, h => by have := (h y).2 (by simp); simp at this
  | x :: a, [], _, _, h => by have := (h x).1 (by simp); simp at this
  | x :: a, y :: b, ha, hb, h => by
    obtain ⟨a1, a2⟩ := List.pairwise_cons.1 ha
    obtain ⟨b1, b2⟩ := List.pairwise_cons.1 hb
    have e : x = y := by
      have h1 := (h x).1 (by simp)
      have h2 := (h y).2 (by simp)
      rcases List.mem_cons.1 h1 with h1 | h1
      · exact h1
      · rcases List.mem_cons.1 h2 with h2 | h2
        · exact h2.symm
        · have := b1 x h1
          have := a1 y h2
          omega
    subst e
    rw [sorted_ext a2 b2 fun p => ?_]
    constructor
    · intro hp
      have := (h p).1 (by simp [hp])
      rcases List.mem_cons.1 this with e | h'
      · subst e
        have := a1 p hp
        omega
      · exact h'
    · intro hp
      have := (h p).2 (by simp [hp])
      rcases List.mem_cons.1 this with e | h'
      · subst e
        have := b1 p hp
        omega
      · exact h'
theorem varsG_occ {l : List Cell} {n : Int} : n ∈ varsG l [] ↔ occ l n := by
  constructor
  · intro h
    rcases varsG_kind h with h | h
    · simp at h
    · exact h
  · rintro ⟨c, h1, h2, h3⟩
    rw [← h3]
    exact varsG_mem (.inl ⟨h1, h2⟩)
theorem matR_bound {a b : List Cell} (ha : RTm a) (hb : RTm b) {out : List (Int × List Cell)} (h : matR a b = some out) : out.length ≤ 1000 ∧ ∀ p ∈ out, p.2.length ≤ 200 := by
  have hr := matR_right ha hb h
  refine ⟨?_, fun p hp => (hr.1 p hp).2.2.2.1⟩
  obtain ⟨M, h1, h2⟩ := matR_some h
  have := outG_len (M := M) (l := sortI (varsG a []))
  rw [← h2, (sortI_perm _).length_eq] at this
  have h3 := varsG_len a []
  have := ha.len
  simp only [List.length_nil] at h3
  omega
set_option maxRecDepth 10000 in
/-- What Mgu can tell. -/
theorem mgu_three {a b : List Cell} (ha : RTm a) (hb : RTm b) : ((mgu a b).2 ≠ 0 ∧ (mgu a b).1 = [] ∧ ((mgu a b).2 = 3 ∨ (mgu a b).2 = 2) ∧ sameL a b = false) ∨ ((mgu a b).2 = 0 ∧ ∃ s, NormO a b s ∧ small s ∧ (mgu a b).1 = bnds s) := by
  have hne : (mgu a b).2 ≠ 0 → sameL a b = false := fun h => by
    rw [sameL_false]
    intro e
    subst e
    rw [mgu_self ha] at h
    exact h rfl
  rcases mgu_cases ha hb with ⟨h, _⟩ | ⟨s, hs, h⟩
  · rw [h] at hne ⊢
    exact .inl ⟨by decide, rfl, .inl rfl, hne (by decide)⟩
  · by_cases hm : small s
    · rw [mguO_small hm] at h
      rw [h]
      exact .inr ⟨rfl, s, hs, hm, rfl⟩
    · rw [mguO_big hm] at h
      rw [h] at hne ⊢
      exact .inl ⟨by decide, rfl, .inr rfl, hne (by decide)⟩
end Go.Am.Seat
/-
  MADE BY PROGRAM (am.py): the walks of functions 43.
-/
namespace Go.Am.Seat
open Go.Proofs

theorem ins_sorted {out : List Int} {a : Nat} {n : Int} (hs : out.Pairwise (· < ·)) (ha : a ≤ out.length) (h1 : ∀ q (h : q < out.length), q < a → out[q] < n) (h2 : ∀ h : a < out.length, n < out[a]) : (out.take a ++ [n] ++ out.drop a).Pairwise (· < ·) ∧ ∀ m, m ∈ out.take a ++ [n] ++ out.drop a ↔ m ∈ out ∨ m = n := by
  have ht : ∀ x ∈ out.take a, x < n := fun x hx => by
    obtain ⟨q, hq, rfl⟩ := List.getElem_of_mem hx
    rw [List.length_take] at hq
    rw [List.getElem_take]
    exact h1 q (by omega) (by omega)
  have hd : ∀ x ∈ out.drop a, n < x := fun x hx => by
    obtain ⟨q, hq, rfl⟩ := List.getElem_of_mem hx
    rw [List.length_drop] at hq
    rw [List.getElem_drop]
    have h3 := h2 (by omega)
    rcases Nat.eq_zero_or_pos q with h0 | h0
    · subst h0; exact h3
    · have := List.pairwise_iff_getElem.1 hs a (a + q) (by omega) (by omega) (by omega)
      omega
  constructor
  · rw [List.append_assoc, List.pairwise_append]
    refine ⟨hs.take, ?_, fun x hx y hy => ?_⟩
    · rw [List.singleton_append, List.pairwise_cons]
      exact ⟨hd, hs.drop⟩
    · rcases List.mem_append.1 hy with hy | hy
      · rw [List.mem_singleton.1 hy]; exact ht x hx
      · have := ht x hx
        have := hd y hy
        omega
  · intro m
    rw [List.mem_append, List.mem_append, List.mem_singleton]
    have := List.take_append_drop a out
    constructor
    · rintro ((h | h) | h)
      · exact .inl (List.mem_of_mem_take h)
      · exact .inr h
      · exact .inl (List.mem_of_mem_drop h)
    · rintro (h | h)
      · rw [← this] at h
        rcases List.mem_append.1 h with h | h
        · exact .inl (.inl h)
        · exact .inr h
      · exact .inl (.inr h)
def gd (l : List Int) (a : Nat) : Int := (l[a]?).getD 0
theorem gd_eq {l : List Int} {a : Nat} (h : a < l.length) : gd l a = l[a] := by rw [gd, List.getElem?_eq_getElem h, Option.getD_some]
theorem take_occ {t : List Cell} {i : Nat} (hi : i < t.length) {n : Int} : occ (t.take (i + 1)) n ↔ occ (t.take i) n ∨ (t[i].kind = 1 ∧ t[i].n = n) := by
  rw [List.take_succ_eq_append_getElem hi]
  constructor
  · rintro ⟨c, h1, h2, h3⟩
    rcases List.mem_append.1 h1 with h1 | h1
    · exact .inl ⟨c, h1, h2, h3⟩
    · rw [List.mem_singleton] at h1
      subst h1
      exact .inr ⟨h2, h3⟩
  · rintro (⟨c, h1, h2, h3⟩ | ⟨h2, h3⟩)
    · exact ⟨c, List.mem_append_left _ h1, h2, h3⟩
    · exact ⟨t[i], List.mem_append_right _ (by simp), h2, h3⟩
theorem pur_nil36 {ob : Nat → Obj} {k : Nat} (h : ob k = .cs [] 0) : purV ob (.av (.own k 0 0 1)) = some (.av (.sc (.sl 0 [])), upd ob k (.cs [] 0)) := by
  simp [purV, pur, purD, h, purL]
theorem slcTo {x : Sc} {l : List Int} (h : GSl encI x l) {a : Nat} (ha : a ≤ l.length) : ∃ z, aSlice T 36 (.av (.sc x)) none (some (vI a)) = some (.av (.sc z)) ∧ GSl encI z (l.take a) := by
  obtain ⟨z, h1, h2⟩ := slc_g (lo := none) (hi := some (vI a)) (a := 0) (b := a) T36 rfl T3 rfl (by simp) (k := 1) (fun _ => rfl) h rfl (by simp [Am.bnd, vI]) (Nat.zero_le _) ha
  exact ⟨z, h1, by simpa using h2⟩
theorem slcFrom {x : Sc} {l : List Int} (h : GSl encI x l) {a : Nat} (ha : a ≤ l.length) : ∃ z, aSlice T 36 (.av (.sc x)) (some (vI a)) none = some (.av (.sc z)) ∧ GSl encI z (l.drop a) := by
  obtain ⟨z, h1, h2⟩ := slc_g (lo := some (vI a)) (hi := none) (a := a) (b := l.length) T36 rfl T3 rfl (by simp) (k := 1) (fun _ => rfl) h (by simp [Am.bnd, vI]) rfl ha (Nat.le_refl _)
  exact ⟨z, h1, by simpa using h2⟩
theorem Acc.to {lo hi : Nat} {ob : Nat → Obj} {x : Va} {n n' es : Nat} {cs cs' : List Av} (h : Acc lo hi ob x n es cs) (hn : n = n') (hc : cs = cs') : Acc lo hi ob x n' es cs' := hn ▸ hc ▸ h

-- many steps
theorem bod43 : Try.f43.body = some (Try.f43.body.getD .skip) := rfl
set_option maxHeartbeats 1000000 in
theorem fn43 (L : Loops) (t : List Cell) (s : Me) (x : Sc) (hx : GSl encC x t) (hl : t.length ≤ 1000000) : FnL Try.prog L 43 [.av (.sc x)] s fun r s' => (∃ l y, r = .av (.sc y) ∧ GSl encI y l ∧ l.Pairwise (· < ·) ∧ ∀ n, n ∈ l ↔ occ t n) ∧ s' = s := by
  refine FnL.pure (R := fun r => ∃ l y, r = .av (.sc y) ∧ GSl encI y l ∧ l.Pairwise (· < ·) ∧ ∀ n, n ∈ l ↔ occ t n) ?_
  refine fn_of_body (ts := [2]) Try.func43 bod43 rfl (by simp) (by simp [Try.ntmps43]) fun D0 => ?_
  unfold Try.f43
  simp only [Option.getD_some, initSl]
  refine aw_region_seq C (pb := false) rfl fun K hK => ?_
  repeat' (first | refine wy0 (h := ?_) | fail)
  refine awOps_nil (hK _ _ ?_)
  clear hK K
  refine aw_region_seq C (pb := false) rfl fun K hK => ?_
  repeat' (first | refine wy0 (h := ?_) | fail)
  refine awOps_nil (hK _ _ ?_)
  refine aw_pur 3 (pur_nil36 (upd_same _ _ _)) ?_
  obtain ⟨ty0, hty0'⟩ : ∃ y, y = Sc.sl 0 [] := ⟨_, rfl⟩
  have hty0 : GSl encI ty0 [] := .inr hty0'
  rw [← hty0']
  refine aw_state (J := fun s2 => Kp s s2) ⟨(by first | omega | (dsimp only; omega) | (dsimp only at *; omega)), fun j hj => (upd_ne _ _ (by omega)).trans (upd_ne _ _ (by omega)), rfl⟩ fun s2 hJ => ?_
  clear hK K
  refine aw_seq ?_
  refine aw_region_seq C (pb := false) rfl fun K hK => ?_
  repeat' (first | refine wy0 (h := ?_) | fail)
  refine awOps_nil (hK _ _ ?_)
  clear hK K
  refine aw_block ?_
  refine AW.less (sl' := [(0, .av (.sc x)), (3, .av (.sc (ty0))), (4, vI (0))]) (AllIn.less ⟨rfl, rfl, rfl, trivial⟩) (aw_loop (fun k sl1 s1 => ∃ (i : Nat) (xo : Sc) (out : List Int), k = t.length - i ∧ sl1 = [(0, .av (.sc x)), (3, .av (.sc (xo))), (4, vI (i))] ∧ (Kp s s1) ∧ (i ≤ t.length ∧ out.length ≤ i) ∧ (GSl encI xo out) ∧ (out.Pairwise (· < ·)) ∧ (∀ n, n ∈ out ↔ occ (t.take i) n)) (k := t.length - (0)) ⟨0, ty0, [], rfl, rfl, hJ.up (by omega), by simp, hty0, List.Pairwise.nil, fun n => by simp [occ]⟩ ?_)
  rintro k1 _ s1 ⟨i, xo, out, hk1, rfl, hs1, hb, hxo, hsr, hoc⟩
  refine aw_seq ?_
  refine aw_region_seq C (pb := false) rfl fun K hK => ?_
  repeat' (first | refine wy1 (a := by simp only [go_sem, ↓reduceIte, Nat.reduceEqDiff, reduceCtorEq, Nat.reduceAdd, Nat.reduceMul, Nat.reduceLeDiff, aLoad, aStore, lenC hx]; exact rfl) (h := ?_) | fail)
  refine awOps_nil (hK _ _ ?_)
  clear hK K
  refine aw_cond (by rfl) ?_ ?_
  · intro hc0
    try simp only [decide_eq_true_eq, decide_eq_false_iff_not] at hc0
    have hi2 : i < t.length := by omega
    refine aw_skip ?_
    simp only [thenA_normal, thenA_ret, thenA_exit, blockA_normal, blockA_ret, blockA_exit, ↓reduceIte, Nat.reduceEqDiff]
    refine aw_seq ?_
    refine aw_block ?_
    refine aw_region_seq C (pb := false) rfl fun K hK => ?_
    repeat' (first | refine wy0 (h := ?_) | fail)
    refine awOps_nil (hK _ _ ?_)
    clear hK K
    refine aw_seq ?_
    refine aw_block ?_
    refine AW.less (sl' := [(0, .av (.sc x)), (3, .av (.sc xo)), (4, vI i), (5, vI (0))]) (AllIn.less ⟨rfl, rfl, rfl, rfl, trivial⟩) (aw_loop (fun k sl1 s1 => ∃ (a : Nat), k = out.length - a ∧ sl1 = [(0, .av (.sc x)), (3, .av (.sc xo)), (4, vI i), (5, vI (a))] ∧ (Kp s s1) ∧ (a ≤ out.length) ∧ (∀ q (h : q < out.length), q < a → out[q] < t[i].n)) (k := out.length - (0)) ⟨0, rfl, rfl, hs1.up (by omega), Nat.zero_le _, fun q _ h => absurd h (by omega)⟩ ?_)
    rintro k2 _ s2 ⟨a, hk2, rfl, hs2, hb2, hlt⟩
    refine aw_seq ?_
    refine aw_silcut_seq C (pb := false) 16 _ [(0, .av (.sc x)), (3, .av (.sc xo)), (4, vI i), (5, vI a), (29, vB (decide ((a : Int) < (out.length : Int)) && decide (gd out a < t[i].n)))] rfl (regOk_of [0, 0, 2, 7, 15, 31, 31, 127, 255, 31, 31, 1567, 3615, 7711, 16383, 32767] (by kernel_rfl) rfl) rfl (fun _ _ => rfl) ?_ ?_
    · by_cases ha2 : a < out.length
      · have w1 : decide ((a : Int) < (out.length : Int)) = true := decide_eq_true (by omega)
        have w2 := idxI hxo ha2
        have w3 := gd_eq ha2
        repeat' (first | refine ws1 (a := by simp only [go_sem, ↓reduceIte, Nat.reduceEqDiff, reduceCtorEq, Nat.reduceAdd, Nat.reduceMul, Nat.reduceLeDiff, aLoad, aStore, lenI hxo, idxC hx hi2, w1, w2, w3]; exact rfl) (h := ?_) | refine wsn (h := ?_) | fail)
        exact sil_nil ⟨rfl, rfl, rfl, rfl, by first | rfl | (rw [w1, w3]; rfl) | (rw [w1]; rfl) | simp [get, w1], trivial⟩
      · have w1 : decide ((a : Int) < (out.length : Int)) = false := decide_eq_false (by omega)
        repeat' (first | refine ws1 (a := by simp only [go_sem, ↓reduceIte, Nat.reduceEqDiff, reduceCtorEq, Nat.reduceAdd, Nat.reduceMul, Nat.reduceLeDiff, aLoad, aStore, lenI hxo, idxC hx hi2, w1]; exact rfl) (h := ?_) | refine wsn (h := ?_) | fail)
        exact sil_nil ⟨rfl, rfl, rfl, rfl, by first | rfl | (rw [w1, w3]; rfl) | (rw [w1]; rfl) | simp [get, w1], trivial⟩
    refine aw_cond (by rfl) ?_ ?_
    · intro hc1
      rw [Bool.and_eq_true] at hc1
      have ha2 : a < out.length := by have := of_decide_eq_true hc1.1; omega
      have hla : out[a] < t[i].n := by have := of_decide_eq_true hc1.2; rw [gd_eq ha2] at this; exact this
      refine aw_skip ?_
      simp only [thenA_normal, thenA_ret, thenA_exit, blockA_normal, blockA_ret, blockA_exit, ↓reduceIte, Nat.reduceEqDiff]
      refine aw_block ?_
      refine aw_region C (pb := false) rfl ?_
      repeat' (first | refine wy1 (a := by simp only [go_sem, ↓reduceIte, Nat.reduceEqDiff, reduceCtorEq, Nat.reduceAdd, Nat.reduceMul, Nat.reduceLeDiff, aLoad, aStore, wrap_small ((a : Int) + 1) (by omega) (by omega)]; exact rfl) (h := ?_) | fail)
      refine awOps_nil ?_
      try simp only [thenA_normal, thenA_ret, thenA_exit, blockA_normal, blockA_ret, blockA_exit]
      -- end of round 1 at 0t1t
      refine ⟨out.length - (a + 1), [(0, .av (.sc x)), (3, .av (.sc xo)), (4, vI i), (5, vI (a + 1))], by omega, AllIn.less ⟨rfl, rfl, rfl, rfl, trivial⟩, a + 1, rfl, rfl, ?_, ?_, ?_⟩
      · exact hs2.up (by first | omega | (dsimp only; omega))
      · omega
      · intro q h hq
        by_cases e : q = a
        · subst e; exact hla
        · exact hlt q h (by omega)
    · intro hc1
      have hge : ∀ h : a < out.length, t[i].n ≤ out[a] := fun h => by
        rw [decide_eq_true (show (a : Int) < (out.length : Int) by omega), Bool.true_and, gd_eq h] at hc1
        have := of_decide_eq_false hc1
        omega
      refine aw_exit ?_
      simp only [thenA_normal, thenA_ret, thenA_exit, blockA_normal, blockA_ret, blockA_exit, ↓reduceIte, Nat.reduceEqDiff]
      refine aw_seq ?_
      have h8 : (t[i].kind == 1) = false ∨ ((t[i].kind == 1) = true ∧ a < out.length) ∨ ((t[i].kind == 1) = true ∧ ¬ a < out.length) := by
        cases (t[i].kind == 1) <;> by_cases h : a < out.length <;> simp [h]
      refine aw_silcut_seq C (pb := false) 24 _ [(0, .av (.sc x)), (3, .av (.sc xo)), (4, vI i), (5, vI a), (55, vB (!(t[i].kind == 1) || (decide ((a : Int) < (out.length : Int)) && (gd out a == t[i].n))))] rfl (regOk_of [0, 0, 3, 7, 15, 31, 63, 127, 127, 383, 1023, 2047, 4095, 4095, 16383, 32767, 4095, 4095, 200703, 462847, 987135, 2097151, 4194303, 8388607] (by kernel_rfl) rfl) rfl (fun _ _ => rfl) ?_ ?_
      · rcases h8 with hk0 | ⟨hk0, ha2⟩ | ⟨hk0, ha2⟩
        · skip
          repeat' (first | refine ws1 (a := by simp only [go_sem, ↓reduceIte, Nat.reduceEqDiff, reduceCtorEq, Nat.reduceAdd, Nat.reduceMul, Nat.reduceLeDiff, aLoad, aStore, lenI hxo, idxC hx hi2, hk0, bne]; exact rfl) (h := ?_) | refine wsn (h := ?_) | fail)
          exact sil_nil ⟨rfl, rfl, rfl, rfl, by first | rfl | (rw [hk0]; rfl) | (rw [hk0, w1, w3]; rfl) | (rw [hk0, w1]; rfl) | simp [get, hk0], trivial⟩
        · have w1 : decide ((a : Int) < (out.length : Int)) = true := decide_eq_true (by omega)
          have w2 := idxI hxo ha2
          have w3 := gd_eq ha2
          repeat' (first | refine ws1 (a := by simp only [go_sem, ↓reduceIte, Nat.reduceEqDiff, reduceCtorEq, Nat.reduceAdd, Nat.reduceMul, Nat.reduceLeDiff, aLoad, aStore, lenI hxo, idxC hx hi2, hk0, bne, w1, w2]; exact rfl) (h := ?_) | refine wsn (h := ?_) | fail)
          exact sil_nil ⟨rfl, rfl, rfl, rfl, by first | rfl | (rw [hk0]; rfl) | (rw [hk0, w1, w3]; rfl) | (rw [hk0, w1]; rfl) | simp [get, hk0], trivial⟩
        · have w1 : decide ((a : Int) < (out.length : Int)) = false := decide_eq_false (by omega)
          repeat' (first | refine ws1 (a := by simp only [go_sem, ↓reduceIte, Nat.reduceEqDiff, reduceCtorEq, Nat.reduceAdd, Nat.reduceMul, Nat.reduceLeDiff, aLoad, aStore, lenI hxo, idxC hx hi2, hk0, bne, w1]; exact rfl) (h := ?_) | refine wsn (h := ?_) | fail)
          exact sil_nil ⟨rfl, rfl, rfl, rfl, by first | rfl | (rw [hk0]; rfl) | (rw [hk0, w1, w3]; rfl) | (rw [hk0, w1]; rfl) | simp [get, hk0], trivial⟩
      refine aw_cond (by rfl) ?_ ?_
      · intro hc2
        have hin : t[i].kind = 1 → ∀ {n}, t[i].n = n → n ∈ out := by
          intro hk n hn
          rw [beq_iff_eq.2 hk, Bool.not_true, Bool.false_or, Bool.and_eq_true] at hc2
          have ha2 : a < out.length := by have := of_decide_eq_true hc2.1; omega
          have h3 := beq_iff_eq.1 hc2.2
          rw [gd_eq ha2] at h3
          rw [← hn, ← h3]
          exact List.getElem_mem ha2
        refine aw_exit ?_
        simp only [thenA_normal, thenA_ret, thenA_exit, blockA_normal, blockA_ret, blockA_exit, ↓reduceIte, Nat.reduceEqDiff]
        refine aw_region C (pb := false) rfl ?_
        repeat' (first | refine wy1 (a := by simp only [go_sem, ↓reduceIte, Nat.reduceEqDiff, reduceCtorEq, Nat.reduceAdd, Nat.reduceMul, Nat.reduceLeDiff, aLoad, aStore, wrap_small ((i : Int) + 1) (by omega) (by omega)]; exact rfl) (h := ?_) | fail)
        refine awOps_nil ?_
        try simp only [thenA_normal, thenA_ret, thenA_exit, blockA_normal, blockA_ret, blockA_exit]
        -- end of round 0 at 0t1f.x22t.x1
        refine ⟨t.length - (i + 1), [(0, .av (.sc x)), (3, .av (.sc (xo))), (4, vI (i + 1))], by omega, AllIn.less ⟨rfl, rfl, rfl, trivial⟩, i + 1, xo, out, rfl, rfl, ?_, ?_, ?_, ?_, ?_⟩
        · exact hs2.up (by first | omega | (dsimp only; omega))
        · omega
        · exact hxo
        · exact hsr
        · intro n
          rw [take_occ hi2, hoc]
          constructor
          · exact .inl
          · rintro (h | h)
            · exact h
            · exact (hoc n).1 (hin h.1 h.2)
      · intro hc2
        rw [Bool.or_eq_false_iff, Bool.not_eq_false', beq_iff_eq] at hc2
        have hkd := hc2.1
        have hgt : ∀ h : a < out.length, t[i].n < out[a] := fun h => by
          have h1 := hge h
          have h2 := hc2.2
          rw [decide_eq_true (show (a : Int) < (out.length : Int) by omega), Bool.true_and, gd_eq h] at h2
          have := beq_eq_false_iff_ne.1 h2
          omega
        have hins := ins_sorted hsr hb2 hlt hgt
        obtain ⟨z1, hsl1, hz1⟩ := slcTo hxo hb2
        obtain ⟨z2, hsl2, hz2⟩ := slcFrom hxo hb2
        refine aw_skip ?_
        simp only [thenA_normal, thenA_ret, thenA_exit, blockA_normal, blockA_ret, blockA_exit, ↓reduceIte, Nat.reduceEqDiff]
        refine aw_state (J := fun s5 => Kp s s5) (hs2.up (by first | omega | (dsimp only; omega))) fun s5 hJ5 => ?_
        refine aw_region_seq C (pb := false) rfl fun K hK => ?_
        repeat' (first | refine wy1 (a := by simp only [go_sem, ↓reduceIte, Nat.reduceEqDiff, reduceCtorEq, Nat.reduceAdd, Nat.reduceMul, Nat.reduceLeDiff, aLoad, aStore, hsl1]; exact rfl) (h := ?_) | fail)
        refine awOps_append (by rfl) (by rfl) (by rfl) (by rfl) (show Acc s5.nx (s5.nx + 1) _ (.av (.own s5.nx 0 0 1)) 0 1 [] from .inr ⟨s5.nx, 0, rfl, by omega, by omega, upd_same _ _ _, by simp, by simp⟩) T36 rfl T3 rfl (by simp) (by simp [y3]) (aSrc_g (enc := encI) (k := 1) (fun _ => rfl) hz1 _) (by simp [flat_len (enc := encI) (k := 1) (fun _ => rfl)]) (by simp only [List.length_take]; omega) (by omega) (by omega) fun x6 ob6 hacc6 hlow6 _ => ?_
        repeat' (first | refine wy1 (a := by simp only [go_sem, ↓reduceIte, Nat.reduceEqDiff, reduceCtorEq, Nat.reduceAdd, Nat.reduceMul, Nat.reduceLeDiff, aLoad, aStore, hsl1]; exact rfl) (h := ?_) | fail)
        refine awOps_nil (hK _ _ ?_)
        clear hK K
        refine aw_region_seq C (pb := false) rfl fun K hK => ?_
        repeat' (first | refine wy1 (a := by simp only [go_sem, ↓reduceIte, Nat.reduceEqDiff, reduceCtorEq, Nat.reduceAdd, Nat.reduceMul, Nat.reduceLeDiff, aLoad, aStore, idxC hx hi2]; exact rfl) (h := ?_) | fail)
        refine awOps_append (by rfl) (by rfl) (by rfl) (by rfl) (hacc6.up (Nat.le_refl _) fun j h1 h2 => upd_ne _ _ (by omega)) T36 rfl T3 rfl (by simp) (by simp [y3]) (k := 1) (new := [.sc (.int .i64 t[i].n)]) (by simp [aSrc, evA, get, upd, zerosA]) (by simp) (by simp only [List.length_take]; omega) (by omega) (by omega) fun x7 ob7 hacc7 hlow7 _ => ?_
        repeat' (first | refine wy1 (a := by simp only [go_sem, ↓reduceIte, Nat.reduceEqDiff, reduceCtorEq, Nat.reduceAdd, Nat.reduceMul, Nat.reduceLeDiff, aLoad, aStore, idxC hx hi2]; exact rfl) (h := ?_) | fail)
        refine awOps_nil (hK _ _ ?_)
        clear hK K
        refine aw_region_seq C (pb := false) rfl fun K hK => ?_
        repeat' (first | refine wy1 (a := by simp only [go_sem, ↓reduceIte, Nat.reduceEqDiff, reduceCtorEq, Nat.reduceAdd, Nat.reduceMul, Nat.reduceLeDiff, aLoad, aStore, hsl2]; exact rfl) (h := ?_) | fail)
        refine awOps_append (by rfl) (by rfl) (by rfl) (by rfl) hacc7 T36 rfl T3 rfl (by simp) (by simp [y3]) (aSrc_g (enc := encI) (k := 1) (fun _ => rfl) hz2 _) (by simp [flat_len (enc := encI) (k := 1) (fun _ => rfl)]) (by simp only [List.length_take, List.length_drop]; omega) (by omega) (by omega) fun x8 ob8 hacc8 hlow8 _ => ?_
        repeat' (first | refine wy1 (a := by simp only [go_sem, ↓reduceIte, Nat.reduceEqDiff, reduceCtorEq, Nat.reduceAdd, Nat.reduceMul, Nat.reduceLeDiff, aLoad, aStore, hsl2]; exact rfl) (h := ?_) | fail)
        refine awOps_nil (hK _ _ ?_)
        clear hK K
        refine aw_region C (pb := false) rfl ?_
        repeat' (first | refine wy0 (h := ?_) | fail)
        refine awOps_nil ?_
        obtain ⟨ty, ob9, hpv9, hty, _, hlow9, _⟩ := Acc.pure (enc := encI) (k := 1) (l := out.take a ++ [t[i].n] ++ out.drop a) (fun _ => rfl) (hacc8.to (by simp; omega) (by simp [encI]))
        refine aw_pur 3 hpv9 ?_
        refine aw_state (J := fun s9 => Kp s s9) ⟨by have := hJ5.1; exact (by first | omega | (dsimp only; omega) | (dsimp only at *; omega)), fun j hj => (hlow9 j (by have := hJ5.1; omega)).trans ((hlow8 j (by have := hJ5.1; omega)).trans ((hlow7 j (by have := hJ5.1; omega)).trans ((upd_ne _ _ (by have := hJ5.1; omega)).trans ((hlow6 j (by have := hJ5.1; omega)).trans ((upd_ne _ _ (by have := hJ5.1; omega)).trans (hJ5.2.1 j hj)))))), hJ5.2.2⟩ fun s9 hJ9 => ?_
        try simp only [thenA_normal, thenA_ret, thenA_exit, blockA_normal, blockA_ret, blockA_exit]
        refine aw_region C (pb := false) rfl ?_
        repeat' (first | refine wy1 (a := by simp only [go_sem, ↓reduceIte, Nat.reduceEqDiff, reduceCtorEq, Nat.reduceAdd, Nat.reduceMul, Nat.reduceLeDiff, aLoad, aStore, wrap_small ((i : Int) + 1) (by omega) (by omega)]; exact rfl) (h := ?_) | fail)
        refine awOps_nil ?_
        try simp only [thenA_normal, thenA_ret, thenA_exit, blockA_normal, blockA_ret, blockA_exit]
        -- end of round 0 at 0t1f.x22f
        refine ⟨t.length - (i + 1), [(0, .av (.sc x)), (3, .av (.sc (ty))), (4, vI (i + 1))], by omega, AllIn.less ⟨rfl, rfl, rfl, trivial⟩, i + 1, ty, out.take a ++ [t[i].n] ++ out.drop a, rfl, rfl, ?_, ?_, ?_, ?_, ?_⟩
        · exact hJ9.up (by first | omega | (dsimp only; omega))
        · simp only [List.length_append, List.length_take, List.length_drop, List.length_cons, List.length_nil]
          omega
        · exact hty
        · exact hins.1
        · intro n
          rw [take_occ hi2, hins.2, hoc]
          exact or_congr Iff.rfl ⟨fun h => ⟨hkd, h.symm⟩, fun h => h.2.symm⟩
  · intro hc0
    try simp only [decide_eq_true_eq, decide_eq_false_iff_not] at hc0
    refine aw_exit ?_
    simp only [thenA_normal, thenA_ret, thenA_exit, blockA_normal, blockA_ret, blockA_exit, ↓reduceIte, Nat.reduceEqDiff]
    have h0 := hoc
    rw [List.take_of_length_le (by omega)] at h0
    refine aw_region_seq C (pb := false) rfl fun K hK => ?_
    repeat' (first | refine wy0 (h := ?_) | fail)
    refine awOps_nil (hK _ _ ?_)
    clear hK K
    refine aw_ret ?_
    simp only [go_sem, ↓reduceIte, Nat.reduceEqDiff, reduceCtorEq, Nat.reduceAdd, Nat.reduceMul, Nat.reduceLeDiff, aLoad, aStore, FnQ, resA]
    -- 0f.x0.ret
    exact fun _ => ⟨by first | rfl | trivial, hs1.2.1, hs1.2.2, out, xo, rfl, hxo, hsr, h0⟩
end Go.Am.Seat
/-
  MADE BY PROGRAM (am.py): the walks of functions 46.
-/
namespace Go.Am.Seat
open Go.Proofs

/-- The least variable of a class. -/
def Nd (t : List Cell) (c : Nat → Nat) (i : Nat) : Int := leastG t (clL t.length c) (c i) 0 1000
theorem fnLeast (L : Loops) {t : List Cell} {n i : Nat} {c : Nat → Nat} {d : Int} (hd : Nd t c i = d) (s : Me) (x : Sc) (hx : GSl encC x t) (hn : n = t.length) (hl : n ≤ 1000000) (hi : i < n) : FnL Try.prog L 45 [.av (.sc x), .av (.sc (scN n c)), vI i] s fun r s' => r = vI d ∧ s' = s := by
  subst hn hd
  refine (fn45 L t (clL t.length c) i s x _ hx (scN_gsl _ _) (by omega) (clL_len _ _) (by rw [clL_len]; exact hi)).mono fun r s' h => ⟨h.1.trans ?_, h.2⟩
  rw [clL_get hi, Nd]
theorem TrmL.app' {t : List Cell} {p : Nat → Nat} {D N : Nat → Int} : ∀ {a b : List Nat} {x y : List Cell}, TrmL t p D N a x → TrmL t p D N b y → TrmL t p D N (a ++ b) (x ++ y)
  | [], b, _, y, .nil, h => h
  | q :: a, b, _, y, .cons h k, h2 => by
    rw [List.append_assoc]
    exact .cons h (TrmL.app' k h2)
theorem TrmL.ne {t : List Cell} {p : Nat → Nat} {D N : Nat → Int} {q : Nat} {a : List Nat} {x : List Cell} (h : TrmL t p D N (q :: a) x) : ∃ y z, x = y ++ z ∧ Trm t p D N q y ∧ TrmL t p D N a z := by
  cases h with
  | cons h k => exact ⟨_, _, rfl, h, k⟩
theorem Trm.two {t : List Cell} {c : Nat → Nat} (hc : CI t.length c) {i : Nat} (hi : i < t.length) {l : List Cell} (h : Trm t c (Dd t c) (Nd t c) i l) : (Dd t c i < 0 ∧ l = [varCell (Nd t c i)]) ∨ ∃ (j : Nat) (hj : j < t.length) (ls : List Cell), Dd t c i = (j : Int) ∧ l = t[j] :: ls ∧ TrmL t c (Dd t c) (Nd t c) (partsN t j) ls := by
  have hr := ci_root hc hi
  have hD : Dd t c (c i) = Dd t c i := by unfold Dd; rw [(hc i hi).2]
  have hN : Nd t c (c i) = Nd t c i := by unfold Nd; rw [(hc i hi).2]
  cases h with
  | var hr' h => have e := hr'.uniq hr; subst e; exact .inl ⟨by omega, by rw [hN]⟩
  | @fn _ r j cc ls hr' h hj hl =>
    have e := hr'.uniq hr
    subst e
    obtain ⟨hj2, e2⟩ := List.getElem?_eq_some_iff.1 hj
    exact .inr ⟨j, hj2, ls, by omega, by rw [e2], hl⟩

theorem pur_int1 {ob : Nat → Obj} {k : Nat} {a : Sc} (h : ob k = .cs [.sc a] 0) : purV ob (.av (.own k 0 1 1)) = some (.av (.sc (.sl 1 [a])), upd ob k (.cs [.sc a] 1)) := by
  simp [purV, pur, purD, h, purL]
theorem lenA22 {lo hi : Nat} {ob ob' : Nat → Obj} {x : Va} {n : Nat} {cs : List Av} (h : Acc lo hi ob x n 3 cs) : aLen T ob' 22 x = some (vI n) := by
  rcases h with ⟨rfl, rfl, rfl⟩ | ⟨id, fz, rfl, _⟩
  · simp [aLen, T22, y22, vI]
  · simp [aLen, T22, y22, vI]
theorem hacc6' {lo hi hi' : Nat} {ob ob' : Nat → Obj} {x : Va} {out : List Cell} {c : Cell} (h : Acc lo hi ob x (out.length + 1) 3 ((out.flatMap encC).map .sc ++ (encC c).map .sc)) (hh : hi ≤ hi') (ho : ∀ i, lo ≤ i → i < hi → ob' i = ob i) : Acc lo hi' ob' x (out ++ [c]).length 3 (((out ++ [c]).flatMap encC).map .sc) := by
  have := h.up hh ho
  simpa [List.flatMap_append] using this

-- many steps
theorem bod46 : Try.f46.body = some (Try.f46.body.getD .skip) := rfl
set_option maxHeartbeats 1000000 in
theorem fn46 (L : Loops) (t : List Cell) (n a0 : Nat) (c : Nat → Nat) (l : List Cell) (s : Me) (x : Sc) (hx : GSl encC x t) (hn : n = t.length) (hl : n ≤ 1000000) (ht : TOK t) (hci : CI t.length c) (ha0 : a0 < n) (hT : Trm t c (Dd t c) (Nd t c) a0 l) : FnL Try.prog L 46 [.av (.sc x), .av (.sc (scN n c)), vI a0] s fun r s' => ((200 < l.length ∧ r = .tup [.av (.sc .nilsl), vB false]) ∨ (l.length ≤ 200 ∧ r = .tup [vC l, vB true])) ∧ s' = s := by
  refine FnL.pure (R := fun r => (200 < l.length ∧ r = .tup [.av (.sc .nilsl), vB false]) ∨ (l.length ≤ 200 ∧ r = .tup [vC l, vB true])) ?_
  refine fn_of_body (ts := [6, 7]) Try.func46 bod46 rfl (by simp) (by simp [Try.ntmps46]) fun D0 => ?_
  unfold Try.f46
  simp only [Option.getD_some, initSl]
  refine aw_region_seq C (pb := false) rfl fun K hK => ?_
  repeat' (first | refine wy0 (h := ?_) | fail)
  refine awOps_nil (hK _ _ ?_)
  clear hK K
  refine aw_region_seq C (pb := false) rfl fun K hK => ?_
  repeat' (first | refine wy0 (h := ?_) | fail)
  refine awOps_nil (hK _ _ ?_)
  refine AW.less (sl' := [(0, .av (.sc x)), (1, .av (.sc (scN n c))), (8, .av (.own (s.nx + 2) 0 0 3)), (9, .av (.own (s.nx + 4) 0 1 1))]) (AllIn.less ⟨rfl, rfl, rfl, rfl, trivial⟩) ?_
  refine aw_pur 9 (pur_int1 (upd_same _ _ _)) ?_
  obtain ⟨xt0, hx0⟩ : ∃ y, y = Sc.sl 1 [.int .i64 (a0 : Int)] := ⟨_, rfl⟩
  have hxt0 : GSl encI xt0 ([a0].map fun q => ((q : Nat) : Int)) := .inr hx0
  rw [← hx0]
  refine aw_state (J := fun s2 => Kp s s2 ∧ Acc s.nx s2.nx s2.ob (.av (.own (s.nx + 2) 0 0 3)) ([] : List Cell).length 3 ((([] : List Cell).flatMap encC).map .sc)) ⟨⟨(by first | omega | (dsimp only; omega) | (dsimp only at *; omega)), fun j hj => (upd_ne _ _ (by omega)).trans ((upd_ne _ _ (by omega)).trans (upd_ne _ _ (by omega))), rfl⟩, .inr ⟨s.nx + 2, 0, rfl, by omega, (by first | omega | (dsimp only; omega) | (dsimp only at *; omega)), (upd_ne _ _ (by omega)).trans ((upd_ne _ _ (by omega)).trans (upd_same _ _ _)), by simp, by simp⟩⟩ fun s2 hJ => ?_
  clear hK K
  refine aw_seq ?_
  refine aw_block ?_
  refine AW.less (sl' := [(0, .av (.sc x)), (1, .av (.sc (scN n c))), (8, (_)), (9, .av (.sc (xt0)))]) (AllIn.less ⟨rfl, rfl, rfl, rfl, trivial⟩) (aw_loop (fun k sl1 s1 => ∃ (xo : Va) (xt : Sc) (out : List Cell) (td : List Nat) (rest : List Cell), k = rest.length ∧ sl1 = [(0, .av (.sc x)), (1, .av (.sc (scN n c))), (8, (xo)), (9, .av (.sc (xt)))] ∧ (Kp s s1) ∧ (Acc s.nx s1.nx s1.ob xo out.length 3 ((out.flatMap encC).map .sc)) ∧ (GSl encI xt (td.map fun q => ((q : Nat) : Int))) ∧ (∀ q ∈ td, q < n) ∧ (td.length ≤ 1000000 * (out.length + 1)) ∧ (TrmL t c (Dd t c) (Nd t c) td rest) ∧ (l = out ++ rest ∧ out.length ≤ 200)) (k := (l).length) ⟨_, xt0, [], [a0], l, rfl, rfl, hJ.1, hJ.2, hxt0, fun q hq => by rw [List.mem_singleton.1 hq]; exact ha0, by simp, by have := TrmL.cons hT (TrmL.nil (t := t) (p := c) (D := Dd t c) (N := Nd t c)); rwa [List.append_nil] at this, ⟨rfl, by simp⟩⟩ ?_)
  rintro k1 _ s1 ⟨xo, xt, out, td, rest, hk1, rfl, hs1, hacc, hxt, htd, htl, hTL, hlo⟩
  refine aw_seq ?_
  refine aw_region_seq C (pb := false) rfl fun K hK => ?_
  repeat' (first | refine wy1 (a := by simp only [go_sem, ↓reduceIte, Nat.reduceEqDiff, reduceCtorEq, Nat.reduceAdd, Nat.reduceMul, Nat.reduceLeDiff, aLoad, aStore, lenI hxt, List.length_map]; exact rfl) (h := ?_) | fail)
  refine awOps_nil (hK _ _ ?_)
  clear hK K
  refine aw_cond (by rfl) ?_ ?_
  · intro hc0
    try simp only [decide_eq_true_eq, decide_eq_false_iff_not] at hc0
    have h0 : 0 < td.length := by omega
    obtain ⟨q, td, rfl⟩ : ∃ q l, td = q :: l := by
      cases td with
      | nil => simp at h0
      | cons q l => exact ⟨q, l, rfl⟩
    obtain ⟨y, z, hyz, hy, hz⟩ := hTL.ne
    have hq := htd q (by simp)
    have hq2 : q < t.length := by omega
    have hyp := hy.pos
    have hi0 : aIndex T 36 (.av (.sc xt)) (.av (.sc (.int .i64 0))) = _ := idxI hxt (i := 0) (by simp)
    simp only [List.map_cons, List.getElem_cons_zero] at hi0
    obtain ⟨z1, hsl1, hz1⟩ := slcFrom hxt (a := 1) (by simp)
    have hsl2 : aSlice T 36 (.av (.sc xt)) (some (.av (.sc (.int .i64 1)))) none = some (.av (.sc z1)) := hsl1
    rw [List.map_cons, List.drop_succ_cons, List.drop_zero] at hz1
    have hrl : rest.length = y.length + z.length := by rw [hyz, List.length_append]
    refine aw_skip ?_
    simp only [thenA_normal, thenA_ret, thenA_exit, blockA_normal, blockA_ret, blockA_exit, ↓reduceIte, Nat.reduceEqDiff]
    refine aw_block ?_
    refine aw_seq ?_
    refine aw_region_seq C (pb := false) rfl fun K hK => ?_
    repeat' (first | refine wy1 (a := by simp only [go_sem, ↓reduceIte, Nat.reduceEqDiff, reduceCtorEq, Nat.reduceAdd, Nat.reduceMul, Nat.reduceLeDiff, aLoad, aStore, lenA22 hacc]; exact rfl) (h := ?_) | fail)
    refine awOps_nil (hK _ _ ?_)
    clear hK K
    refine aw_cond (by rfl) ?_ ?_
    · intro hc1
      try simp only [decide_eq_true_eq, decide_eq_false_iff_not] at hc1
      refine aw_region_seq C (pb := false) rfl fun K hK => ?_
      repeat' (first | refine wy0 (h := ?_) | fail)
      refine awOps_nil (hK _ _ ?_)
      clear hK K
      refine aw_ret ?_
      try simp only [thenA_normal, thenA_ret, thenA_exit, blockA_normal, blockA_ret, blockA_exit]
      simp only [go_sem, ↓reduceIte, Nat.reduceEqDiff, reduceCtorEq, Nat.reduceAdd, Nat.reduceMul, Nat.reduceLeDiff, aLoad, aStore, FnQ, resA]
      -- 0t1t.ret
      exact fun _ => ⟨by first | rfl | trivial, hs1.2.1, hs1.2.2, .inl ⟨by rw [hlo.1, List.length_append]; omega, by first | rfl | trivial⟩⟩
    · intro hc1
      try simp only [decide_eq_true_eq, decide_eq_false_iff_not] at hc1
      refine aw_skip ?_
      simp only [thenA_normal, thenA_ret, thenA_exit, blockA_normal, blockA_ret, blockA_exit, ↓reduceIte, Nat.reduceEqDiff]
      refine aw_region_seq C (pb := false) rfl fun K hK => ?_
      repeat' (first | refine wy1 (a := by simp only [go_sem, ↓reduceIte, Nat.reduceEqDiff, reduceCtorEq, Nat.reduceAdd, Nat.reduceMul, Nat.reduceLeDiff, aLoad, aStore, hi0]; exact rfl) (h := ?_) | fail)
      refine awOps_nil (hK _ _ ?_)
      clear hK K
      refine aw_region_seq C (pb := false) rfl fun K hK => ?_
      repeat' (first | refine wy1 (a := by simp only [go_sem, ↓reduceIte, Nat.reduceEqDiff, reduceCtorEq, Nat.reduceAdd, Nat.reduceMul, Nat.reduceLeDiff, aLoad, aStore, hsl2]; exact rfl) (h := ?_) | fail)
      refine awOps_nil (hK _ _ ?_)
      clear hK K
      refine aw_region_seq C (pb := false) rfl fun K hK => ?_
      repeat' (first | refine wy0 (h := ?_) | fail)
      (refine wc (And.intro Try.call44 (fnDoes L rfl _ x hx hn hl hq)) ?_; rintro _ _ ⟨rfl, rfl⟩)
      repeat' (first | refine wy0 (h := ?_) | fail)
      refine awOps_nil (hK _ _ ?_)
      clear hK K
      refine aw_seq ?_
      refine aw_region_seq C (pb := false) rfl fun K hK => ?_
      repeat' (first | refine wy0 (h := ?_) | fail)
      refine awOps_nil (hK _ _ ?_)
      clear hK K
      refine aw_cond (by rfl) ?_ ?_
      · intro hc2
        obtain ⟨hD, hyv⟩ : Dd t c q < 0 ∧ y = [varCell (Nd t c q)] := by
          rcases Trm.two hci hq2 hy with h | ⟨j, _, _, h, _⟩
          · exact h
          · have := of_decide_eq_true hc2; omega
        have hyl : y.length = 1 := by rw [hyv]; rfl
        refine aw_region_seq C (pb := false) rfl fun K hK => ?_
        repeat' (first | refine wy0 (h := ?_) | fail)
        (refine wc (And.intro Try.call45 (fnLeast L rfl _ x hx hn hl hq)) ?_; rintro _ _ ⟨rfl, rfl⟩)
        repeat' (first | refine wy0 (h := ?_) | fail)
        refine awOps_append (by rfl) (by rfl) (by rfl) (by rfl) (hacc.up (Nat.le_refl _) fun j h1 h2 => upd_ne _ _ (by omega)) T22 rfl T42 rfl (by simp) (by simp [y42]) (k := 1) (new := (encC (varCell (Nd t c q))).map .sc) (by simp [aSrc, evA, get, upd, zerosA, encC, varCell, storeL, List.range, List.range.loop]; first | done | exact ⟨Nat.le_refl _, rfl⟩) (by simp [encC]) (by omega) (by omega) (by have := hs1.1; omega) fun x6 ob6 hacc6 hlow6 _ => ?_
        repeat' (first | refine wy0 (h := ?_) | fail)
        refine awOps_nil (hK _ _ ?_)
        refine aw_state (J := fun s9 => Kp s s9 ∧ Acc s.nx s9.nx s9.ob x6 (out ++ [varCell (Nd t c q)]).length 3 (((out ++ [varCell (Nd t c q)]).flatMap encC).map .sc)) ⟨⟨by have := hs1.1; exact (by first | omega | (dsimp only; omega) | (dsimp only at *; omega)), fun j hj => (hlow6 j hj).trans ((upd_ne _ _ (by have := hs1.1; omega)).trans (hs1.2.1 j hj)), hs1.2.2⟩, hacc6' hacc6 (by first | omega | (dsimp only; omega) | (dsimp only at *; omega)) fun _ _ _ => rfl⟩ fun s9 hJ9 => ?_
        clear hK K
        refine aw_exit ?_
        simp only [thenA_normal, thenA_ret, thenA_exit, blockA_normal, blockA_ret, blockA_exit, ↓reduceIte, Nat.reduceEqDiff]
        -- end of round 0 at 0t1f2t.x1
        refine ⟨(z).length, [(0, .av (.sc x)), (1, .av (.sc (scN n c))), (8, (x6)), (9, .av (.sc (z1)))], by omega, AllIn.less ⟨rfl, rfl, rfl, rfl, trivial⟩, x6, z1, out ++ [varCell (Nd t c q)], td, z, rfl, rfl, ?_, ?_, ?_, ?_, ?_, ?_, ?_⟩
        · exact hJ9.1
        · exact hJ9.2
        · exact hz1
        · exact fun a h => htd a (by simp [h])
        · simp only [List.length_append, List.length_cons, List.length_nil] at htl ⊢
          omega
        · exact hz
        · rw [hlo.1, hyz, hyv, List.append_assoc]
          exact ⟨rfl, by simp only [List.length_append, List.length_cons, List.length_nil]; omega⟩
      · intro hc2
        obtain ⟨j, hj, ls, hD, hyv, hls⟩ : ∃ (j : Nat) (hj : j < t.length) (ls : List Cell), Dd t c q = (j : Int) ∧ y = t[j] :: ls ∧ TrmL t c (Dd t c) (Nd t c) (partsN t j) ls := by
          rcases Trm.two hci hq2 hy with ⟨h, _⟩ | h
          · have := of_decide_eq_false hc2; omega
          · exact h
        have hyl : y.length = ls.length + 1 := by rw [hyv]; rfl
        have hm9 : (ls ++ z).length = ls.length + z.length := List.length_append
        obtain ⟨q1, hq1⟩ := ht.1 j hj
        rw [hD]
        refine aw_skip ?_
        simp only [thenA_normal, thenA_ret, thenA_exit, blockA_normal, blockA_ret, blockA_exit, ↓reduceIte, Nat.reduceEqDiff]
        refine aw_region_seq C (pb := false) rfl fun K hK => ?_
        repeat' (first | refine wy1 (a := by simp only [go_sem, ↓reduceIte, Nat.reduceEqDiff, reduceCtorEq, Nat.reduceAdd, Nat.reduceMul, Nat.reduceLeDiff, aLoad, aStore, idxC hx hj]; exact rfl) (h := ?_) | fail)
        refine awOps_append (by rfl) (by rfl) (by rfl) (by rfl) (hacc.up (Nat.le_refl _) fun j h1 h2 => upd_ne _ _ (by omega)) T22 rfl T42 rfl (by simp) (by simp [y42]) (k := 1) (new := (encC t[j]).map .sc) (by simp [aSrc, evA, get, upd, zerosA, encC, storeL, List.range, List.range.loop]; first | done | exact ⟨Nat.le_refl _, rfl⟩) (by simp [encC]) (by omega) (by omega) (by have := hs1.1; omega) fun x6 ob6 hacc6 hlow6 _ => ?_
        repeat' (first | refine wy1 (a := by simp only [go_sem, ↓reduceIte, Nat.reduceEqDiff, reduceCtorEq, Nat.reduceAdd, Nat.reduceMul, Nat.reduceLeDiff, aLoad, aStore, idxC hx hj]; exact rfl) (h := ?_) | fail)
        refine awOps_nil (hK _ _ ?_)
        clear hK K
        refine aw_region_seq C (pb := false) rfl fun K hK => ?_
        repeat' (first | refine wy0 (h := ?_) | fail)
        refine wc (And.intro Try.call68 (fn68o L t j q1 _ x hx (by omega) ht.2 hq1 hj)) ?_
        rintro _ _ ⟨ob5, m5, rfl, hacc5, hm5, hlow5⟩
        repeat' (first | refine wy0 (h := ?_) | fail)
        refine awOps_nil (hK _ _ ?_)
        clear hK K
        refine aw_region_seq C (pb := false) rfl fun K hK => ?_
        repeat' (first | refine wy0 (h := ?_) | fail)
        refine awOps_append (by rfl) (by rfl) (by rfl) (by rfl) hacc5 T36 rfl T3 rfl (by simp) (by simp [y3]) (aSrc_g (enc := encI) (k := 1) (fun _ => rfl) hz1 _) (by simp [flat_len (enc := encI) (k := 1) (fun _ => rfl)]) (by have := parts_le ht hj; rw [← partsN_len, List.length_map]; simp only [List.length_cons] at htl; omega) (by omega) (by dsimp only at hm5; omega) fun x7 ob7 hacc7 hlow7 _ => ?_
        repeat' (first | refine wy0 (h := ?_) | fail)
        refine awOps_nil (hK _ _ ?_)
        obtain ⟨ty9, ob9, hpv9, hty9, _, hlow9, _⟩ := Acc.pure (enc := encI) (k := 1) (l := (partsN t j ++ td).map fun q => ((q : Nat) : Int)) (fun _ => rfl) (hacc7.to (by simp [partsN_len]) (by rw [List.map_append, ← partsG_nat, List.flatMap_append, List.map_append]))
        refine aw_pur 12 hpv9 ?_
        dsimp only at hm5 hlow5
        refine aw_state (J := fun s9 => Kp s s9 ∧ Acc s.nx s9.nx s9.ob x6 (out ++ [t[j]]).length 3 (((out ++ [t[j]]).flatMap encC).map .sc)) ⟨⟨by have := hs1.1; exact (by first | omega | (dsimp only; omega) | (dsimp only at *; omega)), fun j hj => (hlow9 j (by have := hs1.1; first | omega | (dsimp only; omega))).trans ((hlow7 j (by have := hs1.1; first | omega | (dsimp only; omega))).trans ((hlow5 j (by have := hs1.1; first | omega | (dsimp only; omega))).trans ((hlow6 j hj).trans ((upd_ne _ _ (by have := hs1.1; first | omega | (dsimp only; omega))).trans (hs1.2.1 j hj))))), hs1.2.2⟩, hacc6' hacc6 (by first | omega | (dsimp only; omega) | (dsimp only at *; omega)) fun j _ hj => (hlow9 j (by first | omega | (dsimp only; omega))).trans ((hlow7 j (by first | omega | (dsimp only; omega))).trans (hlow5 j (by first | omega | (dsimp only; omega))))⟩ fun s9 hJ9 => ?_
        clear hK K
        refine aw_region C (pb := false) rfl ?_
        repeat' (first | refine wy0 (h := ?_) | fail)
        refine awOps_nil ?_
        try simp only [thenA_normal, thenA_ret, thenA_exit, blockA_normal, blockA_ret, blockA_exit]
        -- end of round 0 at 0t1f2f
        refine ⟨(ls ++ z).length, [(0, .av (.sc x)), (1, .av (.sc (scN n c))), (8, (x6)), (9, .av (.sc (ty9)))], by omega, AllIn.less ⟨rfl, rfl, rfl, rfl, trivial⟩, x6, ty9, out ++ [t[j]], partsN t j ++ td, ls ++ z, rfl, rfl, ?_, ?_, ?_, ?_, ?_, ?_, ?_⟩
        · exact hJ9.1.up (by first | omega | (dsimp only; omega) | (dsimp only at *; omega))
        · exact hJ9.2.up (by first | omega | (dsimp only; omega) | (dsimp only at *; omega)) fun _ _ _ => rfl
        · exact hty9
        · intro a h
          rcases List.mem_append.1 h with h | h
          · have := (partsN_lt ht hj a h).1; omega
          · exact htd a (by simp [h])
        · have := parts_le ht hj
          simp only [List.length_append, List.length_cons, List.length_nil] at htl ⊢
          omega
        · exact TrmL.app' hls hz
        · rw [hlo.1, hyz, hyv]
          exact ⟨by simp, by simp only [List.length_append, List.length_cons, List.length_nil]; omega⟩
  · intro hc0
    try simp only [decide_eq_true_eq, decide_eq_false_iff_not] at hc0
    refine aw_exit ?_
    simp only [thenA_normal, thenA_ret, thenA_exit, blockA_normal, blockA_ret, blockA_exit, ↓reduceIte, Nat.reduceEqDiff]
    have h0 : td = [] := by
      cases td with
      | nil => rfl
      | cons q l => simp at hc0
    subst h0
    have hout : out = l := by
      cases hTL
      rw [hlo.1, List.append_nil]
    obtain ⟨ty8, ob8, hpv8, hty8, _, hlow8, _⟩ := Acc.pure (enc := encC) (k := 3) (fun _ => rfl) hacc
    refine aw_pur 8 hpv8 ?_
    refine aw_region_seq C (pb := false) rfl fun K hK => ?_
    repeat' (first | refine wy0 (h := ?_) | fail)
    refine awOps_nil (hK _ _ ?_)
    clear hK K
    refine aw_ret ?_
    simp only [go_sem, ↓reduceIte, Nat.reduceEqDiff, reduceCtorEq, Nat.reduceAdd, Nat.reduceMul, Nat.reduceLeDiff, aLoad, aStore, FnQ, resA]
    -- 0f.x0.ret
    exact fun _ => ⟨by first | rfl | trivial, fun j hj => (hlow8 j hj).trans (hs1.2.1 j hj), hs1.2.2, .inr ⟨by rw [← hout]; omega, by rw [gsl_cells (x := ty8) (l := l) (by rw [← hout]; exact hty8) hT.pos]⟩⟩
end Go.Am.Seat
/-
  MADE BY PROGRAM (am.py): the walks of functions 41.
-/
namespace Go.Am.Seat
open Go.Proofs

/-- Two places of one class that are no variables bear the same cell. -/
def OkP (t : List Cell) (c : Nat → Nat) (a b : Nat) : Prop := ∀ (ha : a < t.length) (hb : b < t.length), c a = c b → ¬ t[a].kind = 1 → ¬ t[b].kind = 1 → t[a] = t[b]

theorem bod41 : Try.f41.body = some (Try.f41.body.getD .skip) := rfl
theorem fn41 (L : Loops) (t : List Cell) (n : Nat) (c : Nat → Nat) (s : Me) (x : Sc) (hx : GSl encC x t) (hn : n = t.length) (hl : n ≤ 1000000) : FnL Try.prog L 41 [.av (.sc x), .av (.sc (scN n c))] s fun r s' => (∃ w, r = vB w ∧ (w = false → ∀ a b, b < a → OkP t c a b) ∧ (w = true → ∃ a b, ¬ OkP t c a b)) ∧ s' = s := by
  refine FnL.pure (R := fun r => ∃ w, r = vB w ∧ (w = false → ∀ a b, b < a → OkP t c a b) ∧ (w = true → ∃ a b, ¬ OkP t c a b)) ?_
  refine fn_of_body (ts := [4]) Try.func41 bod41 rfl (by simp) (by simp [Try.ntmps41]) fun D0 => ?_
  unfold Try.f41
  simp only [Option.getD_some, initSl]
  refine aw_region_seq C (pb := false) rfl fun K hK => ?_
  repeat' (first | refine wy0 (h := ?_) | fail)
  refine awOps_nil (hK _ _ ?_)
  clear hK K
  refine aw_seq ?_
  refine aw_region_seq C (pb := false) rfl fun K hK => ?_
  repeat' (first | refine wy0 (h := ?_) | fail)
  refine awOps_nil (hK _ _ ?_)
  clear hK K
  refine aw_block ?_
  refine AW.less (sl' := [(0, .av (.sc x)), (1, .av (.sc (scN n c))), (5, vI (0))]) (AllIn.less ⟨rfl, rfl, rfl, trivial⟩) (aw_loop (fun k sl1 s1 => ∃ (i : Nat), k = n - i ∧ sl1 = [(0, .av (.sc x)), (1, .av (.sc (scN n c))), (5, vI (i))] ∧ (Kp s s1) ∧ (i ≤ n) ∧ (∀ a b, a < i → b < a → OkP t c a b)) (k := n - (0)) ⟨0, rfl, rfl, (Kp.refl s).up (by omega), Nat.zero_le _, fun a b h => absurd h (by omega)⟩ ?_)
  rintro k1 _ s1 ⟨i, hk1, rfl, hs1, hb, h1⟩
  refine aw_seq ?_
  refine aw_region_seq C (pb := false) rfl fun K hK => ?_
  repeat' (first | refine wy1 (a := by simp only [go_sem, ↓reduceIte, Nat.reduceEqDiff, reduceCtorEq, Nat.reduceAdd, Nat.reduceMul, Nat.reduceLeDiff, aLoad, aStore, lenC hx, ← hn]; exact rfl) (h := ?_) | fail)
  refine awOps_nil (hK _ _ ?_)
  clear hK K
  refine aw_cond (by rfl) ?_ ?_
  · intro hc0
    try simp only [decide_eq_true_eq, decide_eq_false_iff_not] at hc0
    have hi2 : i < t.length := by omega
    have hi3 : i < n := by omega
    obtain ⟨r1, hix⟩ := idxN (c := c) hi3
    refine aw_skip ?_
    simp only [thenA_normal, thenA_ret, thenA_exit, blockA_normal, blockA_ret, blockA_exit, ↓reduceIte, Nat.reduceEqDiff]
    refine aw_seq ?_
    refine aw_block ?_
    refine aw_region_seq C (pb := false) rfl fun K hK => ?_
    repeat' (first | refine wy0 (h := ?_) | fail)
    refine awOps_nil (hK _ _ ?_)
    clear hK K
    refine aw_block ?_
    refine AW.less (sl' := [(0, .av (.sc x)), (1, .av (.sc (scN n c))), (5, vI i), (6, vI (0))]) (AllIn.less ⟨rfl, rfl, rfl, rfl, trivial⟩) (aw_loop (fun k sl1 s1 => ∃ (j : Nat), k = i - j ∧ sl1 = [(0, .av (.sc x)), (1, .av (.sc (scN n c))), (5, vI i), (6, vI (j))] ∧ (Kp s s1) ∧ (j ≤ i) ∧ (∀ b, b < j → OkP t c i b)) (k := i - (0)) ⟨0, rfl, rfl, hs1.up (by omega), Nat.zero_le _, fun b h => absurd h (by omega)⟩ ?_)
    rintro k2 _ s2 ⟨j, hk2, rfl, hs2, hb2, h2⟩
    refine aw_seq ?_
    refine aw_region_seq C (pb := false) rfl fun K hK => ?_
    repeat' (first | refine wy0 (h := ?_) | fail)
    refine awOps_nil (hK _ _ ?_)
    clear hK K
    refine aw_cond (by rfl) ?_ ?_
    · intro hc1
      try simp only [decide_eq_true_eq, decide_eq_false_iff_not] at hc1
      have hj2 : j < t.length := by omega
      have hj3 : j < n := by omega
      obtain ⟨r2, hjx⟩ := idxN (c := c) hj3
      refine aw_skip ?_
      simp only [thenA_normal, thenA_ret, thenA_exit, blockA_normal, blockA_ret, blockA_exit, ↓reduceIte, Nat.reduceEqDiff]
      refine aw_seq ?_
      refine aw_block ?_
      refine aw_silcut_seq C (pb := false) 36 _ [(0, .av (.sc x)), (1, .av (.sc (scN n c))), (5, vI i), (6, vI j), (53, vB ((c i : Int) == (c j : Int) && !(t[i].kind == 1) && !(t[j].kind == 1) && !(t[i].kind == t[j].kind && (t[i].name == t[j].name && (t[i].n == t[j].n && true)))))] rfl (regOk_of [0, 0, 3, 7, 0, 0, 48, 112, 255, 511, 1023, 1023, 4095, 8191, 16383, 32767, 65535, 131071, 262143, 262143, 1048575, 2097151, 4194303, 8388607, 16777215, 33554431, 67108863, 67108863, 268435455, 536870911, 67108863, 67108863, 3288334335, 7583301631, 17179869183, 34359738367] (by kernel_rfl) rfl) rfl (fun _ _ => rfl) ?_ ?_
      · cases hA0 : ((c i : Int) == (c j : Int) : Bool) <;> cases hA1 : (t[i].kind == 1 : Bool) <;> cases hA2 : (t[j].kind == 1 : Bool)
        all_goals (repeat' (first | refine ws1 (a := by simp only [go_sem, ↓reduceIte, Nat.reduceEqDiff, reduceCtorEq, Nat.reduceAdd, Nat.reduceMul, Nat.reduceLeDiff, aLoad, aStore, hix, hjx, idxC hx hi2, idxC hx hj2, bne, hA0, hA1, hA2]; exact rfl) (h := ?_) | refine wsn (h := ?_) | fail))
        all_goals (exact sil_nil ⟨rfl, rfl, rfl, rfl, rfl, trivial⟩)
      refine aw_cond (by rfl) ?_ ?_
      · intro hc2
        rw [Bool.and_eq_true, Bool.and_eq_true, Bool.and_eq_true, Bool.not_eq_true', Bool.not_eq_true', Bool.not_eq_true', beq_iff_eq, beq_eq_false_iff_ne, beq_eq_false_iff_ne] at hc2
        have hNO : ¬ OkP t c i j := by
          intro h
          have e := h hi2 hj2 (by omega) hc2.1.1.2 hc2.1.2
          have := cellEq_iff.2 e
          rw [show cellEq t[i] t[j] = _ from hc2.2] at this
          cases this
        refine aw_region_seq C (pb := false) rfl fun K hK => ?_
        repeat' (first | refine wy0 (h := ?_) | fail)
        refine awOps_nil (hK _ _ ?_)
        clear hK K
        refine aw_ret ?_
        try simp only [thenA_normal, thenA_ret, thenA_exit, blockA_normal, blockA_ret, blockA_exit]
        simp only [go_sem, ↓reduceIte, Nat.reduceEqDiff, reduceCtorEq, Nat.reduceAdd, Nat.reduceMul, Nat.reduceLeDiff, aLoad, aStore, FnQ, resA]
        -- 0t1t2t.ret
        exact fun _ => ⟨by first | rfl | trivial, hs2.2.1, hs2.2.2, true, rfl, (fun h => by cases h), fun _ => ⟨i, j, hNO⟩⟩
      · intro hc2
        have hOK : OkP t c i j := by
          intro _ _ e1 e2 e3
          have e4 : ((c i : Int) == (c j : Int)) = true := beq_iff_eq.2 (by omega)
          rw [e4, beq_eq_false_iff_ne.2 e2, beq_eq_false_iff_ne.2 e3, Bool.not_false, Bool.true_and, Bool.true_and, Bool.true_and, Bool.not_eq_false'] at hc2
          exact cellEq_iff.1 hc2
        refine aw_skip ?_
        simp only [thenA_normal, thenA_ret, thenA_exit, blockA_normal, blockA_ret, blockA_exit, ↓reduceIte, Nat.reduceEqDiff]
        refine aw_region C (pb := false) rfl ?_
        repeat' (first | refine wy1 (a := by simp only [go_sem, ↓reduceIte, Nat.reduceEqDiff, reduceCtorEq, Nat.reduceAdd, Nat.reduceMul, Nat.reduceLeDiff, aLoad, aStore, wrap_small ((j : Int) + 1) (by omega) (by omega)]; exact rfl) (h := ?_) | fail)
        refine awOps_nil ?_
        try simp only [thenA_normal, thenA_ret, thenA_exit, blockA_normal, blockA_ret, blockA_exit]
        -- end of round 1 at 0t1t2f
        refine ⟨i - (j + 1), [(0, .av (.sc x)), (1, .av (.sc (scN n c))), (5, vI i), (6, vI (j + 1))], by omega, AllIn.less ⟨rfl, rfl, rfl, rfl, trivial⟩, j + 1, rfl, rfl, ?_, ?_, ?_⟩
        · exact hs2.up (by omega)
        · omega
        · intro b hb
          by_cases e : b = j
          · subst e; exact hOK
          · exact h2 b (by omega)
    · intro hc1
      try simp only [decide_eq_true_eq, decide_eq_false_iff_not] at hc1
      refine aw_exit ?_
      simp only [thenA_normal, thenA_ret, thenA_exit, blockA_normal, blockA_ret, blockA_exit, ↓reduceIte, Nat.reduceEqDiff]
      refine aw_region C (pb := false) rfl ?_
      repeat' (first | refine wy1 (a := by simp only [go_sem, ↓reduceIte, Nat.reduceEqDiff, reduceCtorEq, Nat.reduceAdd, Nat.reduceMul, Nat.reduceLeDiff, aLoad, aStore, wrap_small ((i : Int) + 1) (by omega) (by omega)]; exact rfl) (h := ?_) | fail)
      refine awOps_nil ?_
      try simp only [thenA_normal, thenA_ret, thenA_exit, blockA_normal, blockA_ret, blockA_exit]
      -- end of round 0 at 0t1f.x2
      refine ⟨n - (i + 1), [(0, .av (.sc x)), (1, .av (.sc (scN n c))), (5, vI (i + 1))], by omega, AllIn.less ⟨rfl, rfl, rfl, trivial⟩, i + 1, rfl, rfl, ?_, ?_, ?_⟩
      · exact hs2.up (by omega)
      · omega
      · intro a b ha hab
        by_cases e : a = i
        · subst e; exact h2 b (by omega)
        · exact h1 a b (by omega) hab
  · intro hc0
    try simp only [decide_eq_true_eq, decide_eq_false_iff_not] at hc0
    refine aw_exit ?_
    simp only [thenA_normal, thenA_ret, thenA_exit, blockA_normal, blockA_ret, blockA_exit, ↓reduceIte, Nat.reduceEqDiff]
    refine aw_region_seq C (pb := false) rfl fun K hK => ?_
    repeat' (first | refine wy0 (h := ?_) | fail)
    refine awOps_nil (hK _ _ ?_)
    clear hK K
    refine aw_ret ?_
    simp only [go_sem, ↓reduceIte, Nat.reduceEqDiff, reduceCtorEq, Nat.reduceAdd, Nat.reduceMul, Nat.reduceLeDiff, aLoad, aStore, FnQ, resA]
    -- 0f.x0.ret
    refine fun _ => ⟨by first | rfl | trivial, hs1.2.1, hs1.2.2, false, rfl, fun _ a b hab ha hb => ?_, fun h => by cases h⟩
    exact h1 a b (by omega) hab ha hb
end Go.Am.Seat
/-
  THE DOCUMENT'S MGU: its classes tell the normal one, or that there is none.
-/
namespace Go.Am.Seat
open Go.Proofs
theorem doesG_spec (a : Int) : ∀ (t : List Cell) (cl : List Int) (i : Nat), cl.length = t.length → (doesG t cl a i = -1 ∧ ∀ k (h : k < t.length) (h' : k < cl.length), cl[k] = a → t[k].kind = 1) ∨ ∃ (k : Nat) (h : k < t.length) (h' : k < cl.length), doesG t cl a i = ((i + k : Nat) : Int) ∧ cl[k] = a ∧ ¬ t[k].kind = 1
  | [], [], i, _ => .inl ⟨rfl, fun k h => by simp at h⟩
  | [], _ :: _, i, h => by simp at h
  | _ :: _, [], i, h => by simp at h
  | c :: t, b :: cl, i, h => by
    rw [doesG]
    by_cases hb : ((b == a) && (c.kind != 1)) = true
    · rw [if_pos hb]
      rw [Bool.and_eq_true, beq_iff_eq, bne_iff_ne] at hb
      exact .inr ⟨0, by simp, by simp, by simp, hb.1, hb.2⟩
    · rw [if_neg hb]
      rcases doesG_spec a t cl (i + 1) (by simpa using h) with ⟨h1, h2⟩ | ⟨k, h1, h2, h3, h4, h5⟩
      · refine .inl ⟨h1, fun k hk hk' e => ?_⟩
        cases k with
        | zero =>
          simp only [List.getElem_cons_zero] at e ⊢
          refine Classical.byContradiction fun hc => hb ?_
          rw [Bool.and_eq_true, beq_iff_eq, bne_iff_ne]
          exact ⟨e, hc⟩
        | succ k =>
          simp only [List.getElem_cons_succ] at e ⊢
          exact h2 k (by simpa using hk) (by simpa using hk') e
      · exact .inr ⟨k + 1, by simpa using h1, by simpa using h2, by rw [h3]; congr 1; omega, by simpa using h4, by simpa using h5⟩
theorem leastG_spec (a : Int) : ∀ (t : List Cell) (cl : List Int) (i : Nat) (n : Int), cl.length = t.length → leastG t cl a i n ≤ n ∧ (∀ k (h : k < t.length) (h' : k < cl.length), cl[k] = a → t[k].kind = 1 → leastG t cl a i n ≤ t[k].n) ∧ (leastG t cl a i n = n ∨ ∃ (k : Nat) (h : k < t.length) (h' : k < cl.length), cl[k] = a ∧ t[k].kind = 1 ∧ t[k].n = leastG t cl a i n)
  | [], [], i, n, _ => ⟨Int.le_refl _, fun k h => by simp at h, .inl rfl⟩
  | [], _ :: _, i, n, h => by simp at h
  | _ :: _, [], i, n, h => by simp at h
  | c :: t, b :: cl, i, n, h => by
    rw [leastG]
    obtain ⟨n', hn'⟩ : ∃ m, m = (if ((b == a) && (c.kind == 1)) = true then (if c.n < n then c.n else n) else n) := ⟨_, rfl⟩
    rw [← hn']
    have hle : n' ≤ n := by rw [hn']; split <;> (try split) <;> omega
    obtain ⟨h1, h2, h3⟩ := leastG_spec a t cl (i + 1) n' (by simpa using h)
    refine ⟨by omega, fun k hk hk' e ek => ?_, ?_⟩
    · cases k with
      | zero =>
        simp only [List.getElem_cons_zero] at e ek ⊢
        have : n' ≤ c.n := by
          rw [hn', if_pos (by rw [Bool.and_eq_true, beq_iff_eq, beq_iff_eq]; exact ⟨e, ek⟩)]
          split <;> omega
        omega
      | succ k =>
        simp only [List.getElem_cons_succ] at e ek ⊢
        exact h2 k (by simpa using hk) (by simpa using hk') e ek
    · rcases h3 with h3 | ⟨k, k1, k2, k3, k4, k5⟩
      · by_cases hb : ((b == a) && (c.kind == 1)) = true
        · rw [if_pos hb] at hn'
          rw [Bool.and_eq_true, beq_iff_eq, beq_iff_eq] at hb
          by_cases hc : c.n < n
          · rw [if_pos hc] at hn'
            exact .inr ⟨0, by simp, by simp, hb.1, hb.2, by simp only [List.getElem_cons_zero]; omega⟩
          · rw [if_neg hc] at hn'
            exact .inl (by omega)
        · rw [if_neg hb] at hn'
          exact .inl (by omega)
      · exact .inr ⟨k + 1, by simpa using k1, by simpa using k2, by simpa using k3, by simpa using k4, by simpa using k5⟩
section
variable {t : List Cell} {c : Nat → Nat} {k0 : Nat}
theorem dd_spec (i : Nat) : (Dd t c i = -1 ∧ ∀ k (h : k < t.length), c k = c i → t[k].kind = 1) ∨ ∃ (k : Nat) (h : k < t.length), Dd t c i = (k : Int) ∧ c k = c i ∧ ¬ t[k].kind = 1 := by
  rcases doesG_spec (c i) t (clL t.length c) 0 (clL_len _ _) with ⟨h1, h2⟩ | ⟨k, h1, h2, h3, h4, h5⟩
  · exact .inl ⟨h1, fun k hk e => h2 k hk (by rw [clL_len]; exact hk) (by rw [clL_get hk]; omega)⟩
  · rw [clL_get h1] at h4
    exact .inr ⟨k, h1, by rw [Dd, h3, Nat.zero_add], by omega, h5⟩
theorem nd_spec (i : Nat) : (∀ k (h : k < t.length), c k = c i → t[k].kind = 1 → Nd t c i ≤ t[k].n) ∧ (Nd t c i = 1000 ∨ ∃ (k : Nat) (h : k < t.length), c k = c i ∧ t[k].kind = 1 ∧ t[k].n = Nd t c i) := by
  obtain ⟨_, h2, h3⟩ := leastG_spec (c i) t (clL t.length c) 0 1000 (clL_len _ _)
  refine ⟨fun k hk e ek => h2 k hk (by rw [clL_len]; exact hk) (by rw [clL_get hk]; omega) ek, ?_⟩
  rcases h3 with h3 | ⟨k, k1, k2, k3, k4, k5⟩
  · exact .inl h3
  · rw [clL_get k1] at k3
    exact .inr ⟨k, k1, by omega, k4, k5⟩
theorem root_c (hc : CI t.length c) {i r : Nat} (hi : i < t.length) (h : Root c i r) : r = c i := (ci_root hc hi).uniq h |>.symm
theorem cl_c (hc : CI t.length c) {i j : Nat} : Cl t.length c i j ↔ i < t.length ∧ j < t.length ∧ c i = c j := by
  constructor
  · rintro ⟨h1, h2, r, h3, h4⟩
    exact ⟨h1, h2, (root_c hc h1 h3).symm.trans (root_c hc h2 h4)⟩
  · rintro ⟨h1, h2, e⟩
    exact ⟨h1, h2, c i, ci_root hc h1, e ▸ ci_root hc h2⟩
theorem cls_uf (hc : CI t.length c) : UF t.length 1 c fun i => if c i = i then 0 else 1 := by
  refine ⟨fun i hi => (hc i hi).1, fun i hi h => by rw [if_pos h], fun i hi h => ?_, fun i hi => ?_⟩
  · rw [if_neg h, if_pos (hc i hi).2]; omega
  · split <;> omega
theorem cls_js (h : Cls t k0 c) (hok : ∀ c ∈ t, cellOk c = true) : JS t c (Dd t c) (Nd t c) := by
  have hc := h.ci
  refine ⟨fun r hr hf h0 => ?_, fun r hr hf h0 i hi hR => ?_, fun r hr hf i hi hR hk => ?_, fun r hr hf => ?_, fun i j hi hj k1 k2 e => ?_⟩
  · rcases dd_spec (t := t) (c := c) r with ⟨h1, _⟩ | ⟨k, h1, h2, h3, h4⟩
    · omega
    · refine ⟨k, h1, h2, ?_, h4⟩
      have := ci_root hc h1
      rwa [h3, hf] at this
  · rcases dd_spec (t := t) (c := c) r with ⟨_, h2⟩ | ⟨k, _, h2, _, _⟩
    · exact h2 i hi (by rw [← root_c hc hi hR, hf])
    · omega
  · exact (nd_spec r).1 i hi (by rw [← root_c hc hi hR, hf]) hk
  · rcases (nd_spec (t := t) (c := c) r).2 with h1 | ⟨k, k1, k2, k3, k4⟩
    · exact .inl h1
    · refine .inr ⟨k, k1, ?_, k3, k4⟩
      have := ci_root hc k1
      rwa [k2, hf] at this
  · rw [cl_c hc]
    refine ⟨hi, hj, ?_⟩
    have he : t[i] = t[j] := by rw [ok_varCell (hok _ (List.getElem_mem hi)) k1, ok_varCell (hok _ (List.getElem_mem hj)) k2, e]
    rcases Nat.lt_trichotomy i j with h1 | h1 | h1
    · exact ((h.clo j i h1 hj hi he.symm).1 k2).symm
    · rw [h1]
    · exact (h.clo i j h1 hi hj he).1 k1
theorem cls_coh (ht : TOK t) (h : Cls t k0 c) (hop : ∀ a b, OkP t c a b) : Coh t c [] := by
  intro i j hi hj hcl ki kj
  obtain ⟨_, _, e⟩ := (cl_c h.ci).1 hcl
  have he := hop i j hi hj e ki kj
  refine ⟨he, fun ab hab => ?_⟩
  obtain ⟨q, q1, q2⟩ := zip_get hab
  have hk3 : t[i].kind = 3 := by
    refine Classical.byContradiction fun hk => ?_
    have hl := partsN_length hi
    rw [if_neg hk] at hl
    rw [List.length_eq_zero_iff.1 hl] at q1
    simp at q1
  have l1 := (partsN_lt ht hi _ (List.mem_of_getElem? q1)).1
  have l2 := (partsN_lt ht hj _ (List.mem_of_getElem? q2)).1
  refine .cls ((cl_c h.ci).2 ⟨l1, l2, ?_⟩)
  rcases Nat.lt_trichotomy i j with h1 | h1 | h1
  · exact ((h.clo j i h1 hj hi he.symm).2 e.symm (he ▸ hk3) (ab.2, ab.1) (get_zip q2 q1)).symm
  · subst h1
    rw [q1] at q2
    rw [Option.some.inj q2]
  · exact (h.clo i j h1 hi hj he).2 e hk3 ab hab
theorem cls_resp (h : Cls t k0 c) {s : Int → List Cell} (hs : Terms s) (h0 : valS t s 0 = valS t s k0) : Resp t c s := fun i j hcl => by
  obtain ⟨hi, hj, e⟩ := (cl_c h.ci).1 hcl
  exact h.cr s hs h0 i j hi hj e
/-- Where something makes both the same, each class has a term. -/
theorem cls_all (ht : TOK t) (h : Cls t k0 c) {N : Nat → Int} {s : Int → List Cell} (hs : Terms s) (h0 : valS t s 0 = valS t s k0) : ∀ (m i : Nat), (valS t s i).length ≤ m → i < t.length → ∃ l, Trm t c (Dd t c) N i l
  | 0, i, hm, hi => by
    have := takes_ge (valS_tk ht hs hi)
    omega
  | m + 1, i, hm, hi => by
    have hD : Dd t c (c i) = Dd t c i := by unfold Dd; rw [(h.ci i hi).2]
    rcases dd_spec (t := t) (c := c) i with ⟨h1, _⟩ | ⟨j, hj, h2, h3, h4⟩
    · exact ⟨_, .var (ci_root h.ci hi) (by rw [hD]; omega)⟩
    · have hv : valS t s j = valS t s i := h.cr s hs h0 j i hj hi h3
      rw [← hv, valS_fun ht hj h4, List.length_cons] at hm
      obtain ⟨l, hl⟩ := trmL_of (t := t) (p := c) (D := Dd t c) (N := N) (qs := partsN t j) fun q hq => by
        have := flatten_mem_len (List.mem_map_of_mem (f := valS t s) hq)
        exact cls_all ht h hs h0 m q (by omega) (partsN_lt ht hj q hq).1
      exact ⟨_, .fn (ci_root h.ci hi) (by rw [hD]; exact h2) (List.getElem?_eq_getElem hj) hl⟩
/-- What stops a class stops one that has no term. -/
theorem stk_none (ht : TOK t) (hDl : ∀ i, i < t.length → Dd t c i < t.length) {N : Nat → Int} {f : Nat → Bool} (hc : CI t.length c) (hst : ∀ i, i < t.length → Stk t c f i) : ∀ (m i : Nat) (l : List Cell), l.length ≤ m → i < t.length → Trm t c (Dd t c) N i l → f (c i) = true
  | 0, i, l, hm, hi, hT => by have := hT.pos; omega
  | m + 1, i, l, hm, hi, hT => by
    rcases hst i hi with h | ⟨j, q, h1, h2, h3⟩
    · exact h
    · have hD : Dd t c (c i) = Dd t c i := by unfold Dd; rw [(hc i hi).2]
      have hj : j < t.length := by have := hDl i hi; omega
      cases hT with
      | var hr h => rw [root_c hc hi hr, hD] at h; omega
      | @fn _ r j' cc ls hr h4 hj' hl =>
        rw [root_c hc hi hr, hD] at h4
        have e : j' = j := by omega
        subst e
        rw [List.length_cons] at hm
        have key : ∀ {qs : List Nat} {ls : List Cell}, TrmL t c (Dd t c) N qs ls → ∀ q ∈ qs, ∃ l, l.length ≤ ls.length ∧ Trm t c (Dd t c) N q l := by
          intro qs
          induction qs with
          | nil => intro ls _ q hq; simp at hq
          | cons a qs ih =>
            intro ls hL q hq
            obtain ⟨y, z, e, hy, hz⟩ := hL.ne
            rw [e, List.length_append]
            rcases List.mem_cons.1 hq with rfl | hq
            · exact ⟨y, by omega, hy⟩
            · obtain ⟨l, k1, k2⟩ := ih hz q hq
              exact ⟨l, by omega, k2⟩
        obtain ⟨l', k1, k2⟩ := key hl q h2
        have := stk_none ht hDl hc hst m q l' (by omega) (partsN_lt ht hj q h2).1 k2
        rw [this] at h3
        cases h3
end
section
variable {a b : List Cell} {p d : Nat → Nat} {D N : Nat → Int} {m : Nat}
/-- What the classes put, where each place has a term, is normal. -/
theorem norm_of (ha : RTm a) (hb : RTm b) (uf : UF (a ++ b).length m p d) (js : JS (a ++ b) p D N) (co : Coh (a ++ b) p []) (hcl : Cl (a ++ b).length p 0 a.length) (hall : ∀ i, i < (a ++ b).length → ∃ l, Trm (a ++ b) p D N i l) (hre : ∀ u, Terms u → appT u a = appT u b → Resp (a ++ b) p u) : NormO a b (sol (a ++ b) p D N) := by
  obtain ⟨t, ht0⟩ : ∃ t, t = a ++ b := ⟨_, rfl⟩
  rw [← ht0] at uf js co hcl hall hre ⊢
  have ht : TOK t := ht0 ▸ tok_two ha hb
  have hlen : t.length = a.length + b.length := by rw [ht0, List.length_append]
  have hok : ∀ c ∈ t, cellOk c = true := fun c hc => by
    rw [ht0] at hc
    exact (List.mem_append.1 hc).elim (ha.ok c) (hb.ok c)
  have l3 := ha.pos
  have l4 := hb.pos
  have hv : ∀ s, valS t s 0 = appT s a ∧ valS t s a.length = appT s b := fun s => by
    rw [valS, valS, ht0, subT_a ha.tk, subT_b hb.tk]
    exact ⟨rfl, rfl⟩
  have hval : ∀ i (hi : i < t.length) l, Trm t p D N i l → valS t (sol t p D N) i = l := fun i hi l h => sol_val ht uf js co _ i (Nat.le_refl _) hi l h
  have hin : ∀ n, occ t n → ∃ i, ∃ hi : i < t.length, t[i].kind = 1 ∧ t[i].n = n ∧ Trm t p D N i (sol t p D N n) := fun n h => by
    obtain ⟨i, hi, h1, h2⟩ := occ_get h
    obtain ⟨l, hl⟩ := hall i hi
    refine ⟨i, hi, h1, h2, ?_⟩
    rw [← h2, sol_var js hi h1 hl]
    exact hl
  have hout : ∀ n, ¬ occ t n → sol t p D N n = [varCell n] := fun n h => sol_none fun k hk h1 => h ⟨_, List.getElem_mem hk, h1.1, h1.2⟩
  have h0 : 0 < t.length := by omega
  have hal : a.length < t.length := by omega
  have hoks : ∀ n, occ t n → takes (sol t p D N n) 1 = some (sol t p D N n).length ∧ ∀ c ∈ sol t p D N n, cellOk c = true ∧ (c.kind = 1 → occ t c.n) := fun n h => by
    obtain ⟨i, hi, _, _, h3⟩ := hin n h
    exact h3.ok ht uf js hok hi
  refine ⟨⟨?_, fun n => ?_, fun n c hc hk => ?_, fun u hu eu n => ?_, fun n k e => ?_⟩, fun n hn c hc => ?_, fun n hn => hout n (ht0 ▸ hn)⟩
  · obtain ⟨l, hl⟩ := hall 0 h0
    rw [← (hv _).1, ← (hv _).2, hval 0 h0 l hl, hval a.length hal l (hl.cls hcl)]
  · by_cases h : occ t n
    · exact (hoks n h).1
    · rw [hout n h]; rfl
  · by_cases h : occ t n
    · exact ok_varCell ((hoks n h).2 c hc).1 hk
    · rw [hout n h, List.mem_singleton] at hc
      rw [hc]; rfl
  · by_cases h : occ t n
    · obtain ⟨i, hi, h1, h2, h3⟩ := hin n h
      rw [h3.app ht uf js hok (hre u hu eu) hi, valS_var ht hi h1, h2]
    · rw [hout n h, appT_var]
  · by_cases h : occ t n
    · obtain ⟨i, hi, h1, h2, h3⟩ := hin n h
      rw [e] at h3
      obtain ⟨r, hr, hrD, hN⟩ : ∃ r, Root p i r ∧ D r < 0 ∧ N r = k := by
        cases h3 with
        | var hr h => exact ⟨_, hr, h, rfl⟩
        | @fn _ r j c ls hr h4 hj hl =>
          obtain ⟨j', hj', e2, e3, e4⟩ := js.dpos r (uf.root_lt hi hr) hr.fix (by omega)
          have : j' = j := by omega
          subst this
          rw [List.getElem?_eq_getElem hj'] at hj
          exact absurd (by rw [Option.some.inj hj]; rfl) e4
      have := js.nle r (uf.root_lt hi hr) hr.fix i hi hr h1
      omega
    · rw [hout n h] at e
      have := congrArg Cell.n (List.cons.inj e).1
      simp only [varCell] at this
      omega
  · rw [← ht0] at hn ⊢
    exact (hoks n hn).2 c hc
end
/-- A proposition's word. -/
noncomputable def cd (p : Prop) : Bool := @decide p (Classical.propDecidable p)
theorem cd_true {p : Prop} : cd p = true ↔ p := by unfold cd; exact @decide_eq_true_iff p (Classical.propDecidable p)
theorem cd_false {p : Prop} : cd p = false ↔ ¬ p := by unfold cd; exact @decide_eq_false_iff_not p (Classical.propDecidable p)
section
variable {a b : List Cell} {c : Nat → Nat}
/-- What is told of two terms by the document's classes. -/
theorem ref_none (ha : RTm a) (hb : RTm b) (h : Cls (a ++ b) a.length c) (hx : (∃ i j, ¬ OkP (a ++ b) c i j) ∨ ¬ ∀ i, i < (a ++ b).length → ∃ l, Trm (a ++ b) c (Dd (a ++ b) c) (Nd (a ++ b) c) i l) : mgu a b = ([], 3) := by
  rcases mgu_cases ha hb with ⟨h1, _⟩ | ⟨s, hs, _⟩
  · exact h1
  · have ht := tok_two ha hb
    have h0 : valS (a ++ b) s 0 = valS (a ++ b) s a.length := by rw [valS, valS, subT_a ha.tk, subT_b hb.tk]; exact hs.eq
    rcases hx with ⟨i, j, hx⟩ | hx
    · exact absurd (fun hi hj e ki kj => (valS_parts ht hs.tm hi hj ki kj (h.cr s hs.tm h0 i j hi hj e)).1) hx
    · exact absurd (fun i hi => cls_all ht h hs.tm h0 _ i (Nat.le_refl _) hi) hx
theorem ref_norm (ha : RTm a) (hb : RTm b) (h : Cls (a ++ b) a.length c) (hop : ∀ i j, OkP (a ++ b) c i j) (hall : ∀ i, i < (a ++ b).length → ∃ l, Trm (a ++ b) c (Dd (a ++ b) c) (Nd (a ++ b) c) i l) : NormO a b (sol (a ++ b) c (Dd (a ++ b) c) (Nd (a ++ b) c)) := by
  have ht := tok_two ha hb
  have l3 := ha.pos
  have l4 := hb.pos
  have hl : (a ++ b).length = a.length + b.length := List.length_append
  refine norm_of ha hb (cls_uf h.ci) (cls_js h (ok_two ha hb)) (cls_coh ht h hop) ((cl_c h.ci).2 ⟨by omega, by omega, h.fst⟩) hall fun u hu e => cls_resp h hu ?_
  rw [valS, valS, subT_a ha.tk, subT_b hb.tk]; exact e
end
end Go.Am.Seat
