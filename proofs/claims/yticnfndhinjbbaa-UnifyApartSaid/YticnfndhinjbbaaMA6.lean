/-
  Part 6 of the proof: Lk, Li, Lt, Lo, Ln, Lf, Lg, Lh, W18, Hd, W25, W11, Mg, W59, W57, W21, AmQc, W58, W22, W23, Mh, Mi, W26, W27.
-/
import Derived.Test.YticnfndhinjbbaaMA5
set_option linter.unusedVariables false
set_option linter.unusedSimpArgs false
/-
  THE PLAIN LAW of joining: it ends, and what it tells.
-/
namespace Go.Am.Seat
theorem Coh.to {t : List Cell} {p q : Nat → Nat} {td td' : List (Nat × Nat)} (h : Coh t p td) (h1 : ∀ i j, Cl t.length q i j → Cl t.length p i j) (h2 : ∀ i j, Con t.length p td i j → Con t.length q td' i j) : Coh t q td' := fun i j hi hj hc ki kj =>
  ⟨(h i j hi hj (h1 i j hc) ki kj).1, fun ab hab => h2 _ _ ((h i j hi hj (h1 i j hc) ki kj).2 ab hab)⟩
theorem Resp.to {t : List Cell} {p q : Nat → Nat} {s : Int → List Cell} (h : Resp t p s) (h1 : ∀ i j, Cl t.length q i j → Cl t.length p i j) : Resp t q s := fun i j hc => h i j (h1 i j hc)
theorem Resp.union {t : List Cell} {m : Nat} {p d : Nat → Nat} {s : Int → List Cell} (h : Resp t p s) (uf : UF t.length m p d) {x y : Nat} (hx : x < t.length) (hy : y < t.length) (hxy : x ≠ y) (px : p x = x) (py : p y = y) (hv : valS t s x = valS t s y) : Resp t (upd p y x) s := by
  rintro i j ⟨hi, hj, r, r1, r2⟩
  have toX : ∀ {k}, k < t.length → (Root p k x ∨ Root p k y) → valS t s k = valS t s x := by
    intro k hk h'
    rcases h' with h' | h'
    · exact h k x ⟨hk, hx, x, h', .here px⟩
    · rw [hv]; exact h k y ⟨hk, hy, y, h', .here py⟩
  rcases union_inv uf hx hy hxy px py hi r1 with ⟨e1, h1⟩ | ⟨h1, h2, h3⟩
  · rcases union_inv uf hx hy hxy px py hj r2 with ⟨_, h4⟩ | ⟨h4, _, _⟩
    · rw [toX hi h1, toX hj h4]
    · exact absurd e1 h4
  · rcases union_inv uf hx hy hxy px py hj r2 with ⟨e4, _⟩ | ⟨_, _, h6⟩
    · exact absurd e4 h1
    · exact h i j ⟨hi, hj, r, h3, h6⟩
theorem valS_parts {t : List Cell} (ht : TOK t) {s : Int → List Cell} (hs : Terms s) {i j : Nat} (hi : i < t.length) (hj : j < t.length) (ki : ¬ t[i].kind = 1) (kj : ¬ t[j].kind = 1) (h : valS t s i = valS t s j) : t[i] = t[j] ∧ ∀ ab ∈ (partsN t i).zip (partsN t j), valS t s ab.1 = valS t s ab.2 := by
  rw [valS_fun ht hi ki, valS_fun ht hj kj] at h
  obtain ⟨e1, e2⟩ := List.cons.inj h
  have hl := parts_eqlen hi hj e1
  have e3 := flat_inj (fun x hx => by
    obtain ⟨k, hk, rfl⟩ := List.mem_map.1 hx
    exact valS_tk ht hs (partsN_lt ht hi k hk).1) (fun x hx => by
    obtain ⟨k, hk, rfl⟩ := List.mem_map.1 hx
    exact valS_tk ht hs (partsN_lt ht hj k hk).1) (by rw [List.length_map, List.length_map, hl]) e2
  refine ⟨e1, fun ab hab => ?_⟩
  obtain ⟨k, k1, k2⟩ := zip_get hab
  have := congrArg (fun l : List (List Cell) => l[k]?) e3
  simpa [k1, k2] using this
theorem takes_ge : ∀ {l : List Cell} {m q : Nat}, takes l m = some q → m ≤ q
  | l, 0, q, _ => Nat.zero_le _
  | [], m + 1, q, h => (takes_nil (by omega) h).elim
  | c :: l, m + 1, q, h => by
    obtain ⟨p, rfl, h1⟩ := takes_cons (by omega) h
    have := takes_ge h1
    omega
theorem parts_le {t : List Cell} (ht : TOK t) {i : Nat} (hi : i < t.length) : (partsN t i).length ≤ t.length := by
  obtain ⟨k, hk⟩ := ht.1 i hi
  have hle := takes_le hk
  rw [List.drop_eq_getElem_cons hi] at hk
  obtain ⟨p, rfl, h1⟩ := takes_cons (by omega) hk
  have := takes_ge h1
  rw [partsN_length hi]
  rw [List.length_drop] at hle
  unfold arC at this
  split
  · rename_i h3
    rw [if_pos h3] at this
    omega
  · omega
theorem joinF_law {t : List Cell} (ht : TOK t) : ∀ (F : Nat) {m : Nat} {p d : Nat → Nat} {D N : Nat → Int} {td : List (Nat × Nat)}, UF t.length m p d → JS t p D N → Coh t p td → (∀ ab ∈ td, ab.1 < t.length ∧ ab.2 < t.length) → m + roots p t.length ≤ t.length → roots p t.length * (t.length + 1) + td.length + t.length + 2 ≤ F →
    ∃ ok p' D' N', joinF t F p D N td = some (ok, p', D', N') ∧
      (ok = true → ∃ m' d', UF t.length m' p' d' ∧ m' ≤ t.length ∧ JS t p' D' N' ∧ Coh t p' [] ∧ ∀ i j, Con t.length p td i j → Cl t.length p' i j) ∧
      ∀ s, Terms s → Resp t p s → (∀ ab ∈ td, valS t s ab.1 = valS t s ab.2) → ok = true ∧ Resp t p' s
  | 0, m, p, d, D, N, td, _, _, _, _, _, hF => by omega
  | F + 1, m, p, d, D, N, td, uf, js, co, hlt, hm, hF => by
    rcases List.eq_nil_or_concat td with rfl | ⟨td0, ⟨a, b⟩, rfl⟩
    · exact ⟨true, p, D, N, rfl, fun _ => ⟨m, d, uf, by omega, js, co, fun i j h => h.nil⟩, fun s _ h _ => ⟨rfl, h⟩⟩
    rw [List.concat_eq_append] at *
    obtain ⟨ha, hb⟩ := hlt (a, b) (by simp)
    dsimp only at ha hb
    have hlt0 : ∀ ab ∈ td0, ab.1 < t.length ∧ ab.2 < t.length := fun ab h => hlt ab (by simp [h])
    rw [List.length_append, List.length_cons, List.length_nil] at hF
    obtain ⟨x, p1, e1, x1, x2, uf1, s1⟩ := own1_law (F := F) uf ha (by have := uf.le a ha; omega)
    obtain ⟨y, p2, e2, y1, y2, uf2, s2⟩ := own1_law (F := F) uf1 hb (by have := uf.le b hb; omega)
    have hs := s1.trans s2
    have rx : Root p2 a x := (hs a ha x).1 x1
    have ry : Root p2 b y := (s2 b hb y).1 y1
    have px := rx.fix
    have py := ry.fix
    have js2 := js.same hs
    have hr2 : roots p2 t.length = roots p t.length := (roots_congr fun i hi => hs.fix hi).symm
    simp only [joinF, List.getLast?_append, List.getLast?_singleton, Option.some_or, List.dropLast_concat, e1, e2]
    have hcl : ∀ i j, Cl t.length p i j → Cl t.length p2 i j := fun i j h => h.same hs
    have hcl' : ∀ i j, Cl t.length p2 i j → Cl t.length p i j := fun i j h => h.same hs.symm
    by_cases hxy : x = y
    · rw [if_pos hxy]
      have hab : Cl t.length p2 a b := ⟨ha, hb, x, rx, hxy ▸ ry⟩
      have hcon : ∀ i j, Con t.length p (td0 ++ [(a, b)]) i j → Con t.length p2 td0 i j := fun i j h => h.mono (fun i j h => .cls (hcl i j h)) fun c e h => by
        rcases List.mem_append.1 h with h | h
        · exact .pair h
        · simp only [List.mem_singleton, Prod.mk.injEq] at h
          rw [h.1, h.2]; exact .cls hab
      obtain ⟨ok, p', D', N', k1, k2, k3⟩ := joinF_law ht F (td := td0) uf2 js2 (co.to hcl' hcon) hlt0 (by omega) (by rw [hr2]; omega)
      refine ⟨ok, p', D', N', k1, fun h => ?_, fun s h1 h2 h3 => k3 s h1 (h2.to hcl') fun ab h => h3 ab (by simp [h])⟩
      obtain ⟨m', d', q1, q2, q3, q4, q5⟩ := k2 h
      exact ⟨m', d', q1, q2, q3, q4, fun i j h => q5 i j (hcon i j h)⟩
    rw [if_neg hxy]
    obtain ⟨d3, uf3⟩ := uf2.union x2 y2 hxy px py
    have hr3 := roots_union (p := p2) hxy py y2
    have cx := union_root hxy px py rx
    have cy := union_root hxy px py ry
    rw [if_neg hxy] at cx
    rw [if_pos rfl] at cy
    have hab : Cl t.length (upd p2 y x) a b := ⟨ha, hb, x, cx, cy⟩
    have hcon2 : ∀ i j, Con t.length p (td0 ++ [(a, b)]) i j → Con t.length p2 (td0 ++ [(a, b)]) i j := fun i j h => h.mono (fun i j h => .cls (hcl i j h)) fun c e h => .pair h
    have co2 : Coh t p2 (td0 ++ [(a, b)]) := co.to hcl' hcon2
    have hcu : ∀ td', (∀ ab ∈ td0, ab ∈ td') → ∀ i j, Con t.length p2 (td0 ++ [(a, b)]) i j → Con t.length (upd p2 y x) td' i j := fun td' hsub i j h => h.mono (fun i j h => .cls (h.union hxy px py)) fun c e h => by
      rcases List.mem_append.1 h with h | h
      · exact .pair (hsub _ h)
      · simp only [List.mem_singleton, Prod.mk.injEq] at h
        rw [h.1, h.2]; exact .cls hab
    have hvxy : ∀ s, Resp t p s → valS t s a = valS t s b → valS t s x = valS t s y := fun s h e => by
      have h1 := h a x (hcl' _ _ ⟨ha, x2, x, rx, .here px⟩)
      have h2 := h b y (hcl' _ _ ⟨hb, y2, y, ry, .here py⟩)
      rw [← h1, ← h2, e]
    have go : ∀ {D'' : Nat → Int} {td' : List (Nat × Nat)}, (∀ ab ∈ td0, ab ∈ td') → JS t (upd p2 y x) D'' (upd N x (minI (N x) (N y))) → Coh t (upd p2 y x) td' → (∀ ab ∈ td', ab.1 < t.length ∧ ab.2 < t.length) → td'.length ≤ td0.length + t.length →
        (∀ s, Terms s → Resp t p s → valS t s a = valS t s b → (∀ ab ∈ td0, valS t s ab.1 = valS t s ab.2) → ∀ ab ∈ td', valS t s ab.1 = valS t s ab.2) →
        ∃ ok p' D' N', joinF t F (upd p2 y x) D'' (upd N x (minI (N x) (N y))) td' = some (ok, p', D', N') ∧
          (ok = true → ∃ m' d', UF t.length m' p' d' ∧ m' ≤ t.length ∧ JS t p' D' N' ∧ Coh t p' [] ∧ ∀ i j, Con t.length p (td0 ++ [(a, b)]) i j → Cl t.length p' i j) ∧
          ∀ s, Terms s → Resp t p s → (∀ ab ∈ td0 ++ [(a, b)], valS t s ab.1 = valS t s ab.2) → ok = true ∧ Resp t p' s := by
      intro D'' td' hsub js3 co3 hlt' hlen hval
      have hfuel : roots (upd p2 y x) t.length * (t.length + 1) + td'.length + t.length + 2 ≤ F := by
        have e : roots p t.length * (t.length + 1) = roots (upd p2 y x) t.length * (t.length + 1) + (t.length + 1) := by
          rw [← hr2, ← hr3, Nat.add_mul, Nat.one_mul]
        omega
      obtain ⟨ok, p', D', N', k1, k2, k3⟩ := joinF_law ht F (td := td') uf3 js3 co3 hlt' (by omega) hfuel
      refine ⟨ok, p', D', N', k1, fun h => ?_, fun s h1 h2 h3 => ?_⟩
      · obtain ⟨m', d', q1, q2, q3, q4, q5⟩ := k2 h
        exact ⟨m', d', q1, q2, q3, q4, fun i j h => q5 i j (hcu td' hsub i j (hcon2 i j h))⟩
      · have e := h3 (a, b) (by simp)
        exact k3 s h1 ((h2.to hcl').union uf2 x2 y2 hxy px py (hvxy s h2 e)) (hval s h1 h2 e fun ab h => h3 ab (by simp [h]))
    by_cases dy : D y < 0
    · rw [if_pos dy]
      refine go (fun _ h => h) (js2.union uf2 x2 y2 hxy px py (fun _ _ => rfl) ?_) (co2.union js2 uf2 x2 y2 hxy px py (hcu td0 fun _ h => h) fun i j hi hj e1 e2 => by omega) hlt0 (by omega) (fun s _ _ _ h => h)
      rcases Int.lt_or_le (D x) 0 with h0 | h0
      · exact .inr (.inr ⟨h0, h0, dy⟩)
      · exact .inl ⟨rfl, h0⟩
    rw [if_neg dy]
    by_cases dx : D x < 0
    · rw [if_pos dx]
      refine go (fun _ h => h) (js2.union uf2 x2 y2 hxy px py (fun r h => upd_ne _ _ h) (.inr (.inl ⟨upd_same _ _ _, by omega⟩))) (co2.union js2 uf2 x2 y2 hxy px py (hcu td0 fun _ h => h) fun i j hi hj e1 e2 => by omega) hlt0 (by omega) (fun s _ _ _ h => h)
    rw [if_neg dx]
    obtain ⟨u, hu, eu, ru, ku⟩ := js2.dpos x x2 px (by omega)
    obtain ⟨v, hv, ev, rv, kv⟩ := js2.dpos y y2 py (by omega)
    rw [eu, ev, Int.toNat_natCast, Int.toNat_natCast, List.getElem?_eq_getElem hu, List.getElem?_eq_getElem hv]
    dsimp only
    have hval : ∀ s, Terms s → Resp t p s → valS t s a = valS t s b → t[u] = t[v] ∧ ∀ ab ∈ (partsN t u).zip (partsN t v), valS t s ab.1 = valS t s ab.2 := fun s h1 h2 e => by
      refine valS_parts ht h1 hu hv ku kv ?_
      have h3 := h2 u x (hcl' _ _ ⟨hu, x2, x, ru, .here px⟩)
      have h4 := h2 v y (hcl' _ _ ⟨hv, y2, y, rv, .here py⟩)
      rw [h3, h4, hvxy s h2 e]
    by_cases hc : cellEq t[u] t[v] = true
    · rw [if_pos hc]
      have hce := cellEq_iff.1 hc
      have hlz : ((partsN t u).zip (partsN t v)).length ≤ t.length := by
        have := parts_le ht hu
        rw [List.length_zip]; omega
      refine go (fun _ h => by simp [h]) (js2.union uf2 x2 y2 hxy px py (fun _ _ => rfl) (.inl ⟨rfl, by omega⟩)) (co2.union js2 uf2 x2 y2 hxy px py (hcu _ fun _ h => by simp [h]) fun i j hi hj e1 e2 => ?_) (fun ab h => ?_) (by rw [List.length_append]; omega) (fun s h1 h2 e h ab hab => ?_)
      · have : i = u := by omega
        have : j = v := by omega
        subst i j
        exact ⟨hce, fun ab h => by simp [h]⟩
      · rcases List.mem_append.1 h with h | h
        · exact hlt0 ab h
        · have := List.of_mem_zip (a := ab.1) (b := ab.2) h
          exact ⟨(partsN_lt ht hu _ this.1).1, (partsN_lt ht hv _ this.2).1⟩
      · rcases List.mem_append.1 hab with h' | h'
        · exact h ab h'
        · exact (hval s h1 h2 e).2 ab h'
    · rw [if_neg hc]
      exact ⟨false, _, _, _, rfl, fun h => absurd h (by decide), fun s h1 h2 h3 => absurd (cellEq_iff.2 (hval s h1 h2 (h3 (a, b) (by simp))).1) hc⟩
end Go.Am.Seat
/-
  THE PLAIN LAW: the classes at first, each place by itself but for variables.
-/
namespace Go.Am.Seat
theorem upN_non {t : List Cell} {i : Nat} (hi : i < t.length) (hk : ¬ t[i].kind = 1) : upN t i = i := by
  unfold upN upM
  rw [List.getElem?_eq_getElem hi]
  simp only
  rw [if_neg hk, Int.toNat_natCast]
theorem upN_var {t : List Cell} {i : Nat} (hi : i < t.length) (hk : t[i].kind = 1) : upN t i = fstV t t[i].n := by
  unfold upN upM
  rw [List.getElem?_eq_getElem hi]
  simp only
  rw [if_pos hk, Int.toNat_natCast]
theorem fstV_spec {t : List Cell} {i : Nat} (hi : i < t.length) (hk : t[i].kind = 1) : ∃ h : fstV t t[i].n < t.length, t[fstV t t[i].n].kind = 1 ∧ t[fstV t t[i].n].n = t[i].n := by
  have hle := fstV_le hi hk
  have hlt : fstV t t[i].n < t.length := by omega
  refine ⟨hlt, ?_⟩
  have := List.findIdx_getElem (p := fun c : Cell => c.kind == 1 && c.n == t[i].n) (xs := t) (w := hlt)
  simp only [Bool.and_eq_true, beq_iff_eq] at this
  exact this
theorem upN_fix {t : List Cell} {i : Nat} (hi : i < t.length) : upN t (upN t i) = upN t i ∧ upN t i < t.length := by
  by_cases hk : t[i].kind = 1
  · obtain ⟨h1, h2, h3⟩ := fstV_spec hi hk
    rw [upN_var hi hk]
    exact ⟨by rw [upN_var h1 h2, h3], h1⟩
  · rw [upN_non hi hk]
    exact ⟨upN_non hi hk, hi⟩
theorem made_root {t : List Cell} {i : Nat} (hi : i < t.length) : Root (upN t) i (upN t i) := by
  by_cases e : upN t i = i
  · rw [e]; exact .here e
  · exact .step e (.here (upN_fix hi).1)
theorem made_uf (t : List Cell) : UF t.length 1 (upN t) fun i => if upN t i = i then 0 else 1 := by
  refine ⟨fun i hi => (upN_fix hi).2, fun i hi h => by rw [if_pos h], fun i hi h => ?_, fun i hi => ?_⟩
  · rw [if_neg h, if_pos (upN_fix hi).1]; omega
  · split <;> omega
theorem made_eq {t : List Cell} {i r : Nat} (hi : i < t.length) (h : Root (upN t) i r) : upN t i = r := (made_root hi).uniq h
theorem made_js (t : List Cell) : JS t (upN t) (doesM t) (nameM t) := by
  refine ⟨fun r hr hf h0 => ?_, fun r hr hf h0 i hi hR => ?_, fun r hr hf i hi hR hk => ?_, fun r hr hf => ?_, fun i j hi hj k1 k2 e => ?_⟩
  · rw [doesM, List.getElem?_eq_getElem hr] at h0 ⊢
    simp only at h0 ⊢
    by_cases hk : t[r].kind = 1
    · rw [if_pos hk] at h0; omega
    · rw [if_neg hk]
      exact ⟨r, hr, rfl, .here hf, hk⟩
  · rw [doesM, List.getElem?_eq_getElem hr] at h0
    simp only at h0
    by_cases hk : t[r].kind = 1
    · by_cases hki : t[i].kind = 1
      · exact hki
      · have := made_eq hi hR
        rw [upN_non hi hki] at this
        subst this
        exact hk
    · rw [if_neg hk] at h0; omega
  · have := made_eq hi hR
    obtain ⟨h1, h2, h3⟩ := fstV_spec hi hk
    rw [upN_var hi hk] at this
    subst this
    rw [nameM, List.getElem?_eq_getElem hr]
    simp only
    rw [if_pos h2, h3]
    exact Int.le_refl _
  · rw [nameM, List.getElem?_eq_getElem hr]
    simp only
    by_cases hk : t[r].kind = 1
    · rw [if_pos hk]
      exact .inr ⟨r, hr, .here hf, hk, rfl⟩
    · rw [if_neg hk]; exact .inl rfl
  · refine ⟨hi, hj, upN t i, made_root hi, ?_⟩
    have : upN t i = upN t j := by rw [upN_var hi k1, upN_var hj k2, e]
    rw [this]
    exact made_root hj
theorem made_coh {t : List Cell} (ht : TOK t) (td : List (Nat × Nat)) : Coh t (upN t) td := by
  intro i j hi hj hc ki kj
  obtain ⟨_, _, r, r1, r2⟩ := hc
  have e1 := made_eq hi r1
  have e2 := made_eq hj r2
  rw [upN_non hi ki] at e1
  rw [upN_non hj kj] at e2
  have : i = j := by omega
  subst this
  refine ⟨rfl, fun ab hab => ?_⟩
  obtain ⟨k, k1, k2⟩ := zip_get hab
  have e : ab.1 = ab.2 := by rw [k1] at k2; exact Option.some.inj k2
  have hlt := (partsN_lt ht hi _ (List.mem_of_getElem? k1)).1
  rw [← e]
  exact .cls ⟨hlt, hlt, _, made_root hlt, made_root hlt⟩
theorem made_resp {t : List Cell} (ht : TOK t) (s : Int → List Cell) : Resp t (upN t) s := by
  have key : ∀ {i r}, i < t.length → Root (upN t) i r → valS t s i = valS t s r := by
    intro i r hi hr
    have e := made_eq hi hr
    subst e
    by_cases hk : t[i].kind = 1
    · obtain ⟨h1, h2, h3⟩ := fstV_spec hi hk
      rw [upN_var hi hk, valS_var ht hi hk, valS_var ht h1 h2, h3]
    · rw [upN_non hi hk]
  rintro i j ⟨hi, hj, r, r1, r2⟩
  rw [key hi r1, key hj r2]
theorem roots_lt {p : Nat → Nat} : ∀ {n i : Nat}, i < n → p i ≠ i → roots p n + 1 ≤ n
  | 0, i, h, _ => by omega
  | n + 1, i, h, hp => by
    rw [roots]
    by_cases e : i = n
    · subst e
      rw [if_neg hp]
      have := roots_le p i
      omega
    · have := roots_lt (show i < n by omega) hp
      split <;> omega
theorem made_uf2 (t : List Cell) : ∃ m d, UF t.length m (upN t) d ∧ m + roots (upN t) t.length ≤ t.length := by
  by_cases h : ∃ i, i < t.length ∧ upN t i ≠ i
  · obtain ⟨i, hi, hp⟩ := h
    exact ⟨1, _, made_uf t, by have := roots_lt hi hp; omega⟩
  · have h' : ∀ i, i < t.length → upN t i = i := fun i hi => Classical.byContradiction fun k => h ⟨i, hi, k⟩
    have uf := made_uf t
    exact ⟨0, fun _ => 0, ⟨uf.lt, fun _ _ _ => rfl, fun i hi k => absurd (h' i hi) k, fun _ _ => Nat.le_refl _⟩, by have := roots_le (upN t) t.length; omega⟩
/-- The classes of two right terms. -/
theorem join_law {t : List Cell} (ht : TOK t) {k F : Nat} (h0 : 0 < t.length) (hk : k < t.length) (hF : t.length * (t.length + 1) + t.length + 3 ≤ F) :
    ∃ ok p' D' N', joinF t F (upN t) (doesM t) (nameM t) [(0, k)] = some (ok, p', D', N') ∧
      (ok = true → ∃ m' d', UF t.length m' p' d' ∧ m' ≤ t.length ∧ JS t p' D' N' ∧ Coh t p' [] ∧ Cl t.length p' 0 k) ∧
      ∀ s, Terms s → valS t s 0 = valS t s k → ok = true ∧ Resp t p' s := by
  obtain ⟨m, d, uf, hm⟩ := made_uf2 t
  have hr := roots_le (upN t) t.length
  have hmul : roots (upN t) t.length * (t.length + 1) ≤ t.length * (t.length + 1) := Nat.mul_le_mul_right _ hr
  obtain ⟨ok, p', D', N', k1, k2, k3⟩ := joinF_law ht F (td := [(0, k)]) uf (made_js t) (made_coh ht _) (fun ab h => by simp only [List.mem_singleton] at h; subst h; exact ⟨h0, hk⟩) hm (by simp only [List.length_cons, List.length_nil]; omega)
  refine ⟨ok, p', D', N', k1, fun h => ?_, fun s h1 h2 => k3 s h1 (made_resp ht s) fun ab h => by simp only [List.mem_singleton] at h; subst h; exact h2⟩
  obtain ⟨m', d', q1, q2, q3, q4, q5⟩ := k2 h
  exact ⟨m', d', q1, q2, q3, q4, q5 _ _ (.pair (by simp))⟩
end Go.Am.Seat
/-
  THE PLAIN LAW: a class's term.
-/
namespace Go.Am.Seat
section
variable (t : List Cell) (p : Nat → Nat) (D N : Nat → Int)
mutual
/-- The term of a place's class. -/
inductive Trm : Nat → List Cell → Prop
  | var {i r : Nat} (hr : Root p i r) (h : D r < 0) : Trm i [varCell (N r)]
  | fn {i r j : Nat} {c : Cell} {l : List Cell} (hr : Root p i r) (h : D r = (j : Int)) (hj : t[j]? = some c) (hl : TrmL (partsN t j) l) : Trm i (c :: l)
inductive TrmL : List Nat → List Cell → Prop
  | nil : TrmL [] []
  | cons {q : Nat} {l : List Nat} {a b : List Cell} (h : Trm q a) (k : TrmL l b) : TrmL (q :: l) (a ++ b)
end
end
section
variable {t : List Cell} {p : Nat → Nat} {D N : Nat → Int}
theorem Trm.pos {i : Nat} {l : List Cell} (h : Trm t p D N i l) : 1 ≤ l.length := by
  cases h <;> simp
mutual
theorem Trm.uniq : ∀ {i : Nat} {l l' : List Cell}, Trm t p D N i l → Trm t p D N i l' → l = l'
  | _, _, _, .var hr h, k => by
    cases k with
    | var hr' h' => rw [hr.uniq hr']
    | fn hr' h' hj hl => rw [hr.uniq hr', h'] at h; omega
  | _, _, _, .fn hr h hj hl, k => by
    cases k with
    | var hr' h' => rw [hr'.uniq hr, h] at h'; omega
    | fn hr' h' hj' hl' =>
      have e := hr.uniq hr'
      subst e
      rw [h] at h'
      have e2 := Int.ofNat.inj h'
      subst e2
      rw [hj] at hj'
      cases hj'
      rw [TrmL.uniq hl hl']
theorem TrmL.uniq : ∀ {q : List Nat} {l l' : List Cell}, TrmL t p D N q l → TrmL t p D N q l' → l = l'
  | _, _, _, .nil, k => by cases k; rfl
  | _, _, _, .cons h hk, k => by
    cases k with
    | cons h' hk' => rw [Trm.uniq h h', TrmL.uniq hk hk']
end
theorem Trm.cls {i j : Nat} {l : List Cell} (h : Trm t p D N i l) (hc : Cl t.length p i j) : Trm t p D N j l := by
  obtain ⟨_, _, r, r1, r2⟩ := hc
  cases h with
  | var hr h => rw [hr.uniq r1] at h ⊢; exact .var r2 h
  | fn hr h hj hl => rw [hr.uniq r1] at h; exact .fn r2 h hj hl
theorem TrmL.vals {v : Nat → List Cell} : ∀ {qs : List Nat} {l : List Cell}, TrmL t p D N qs l → (∀ q ∈ qs, ∀ l, Trm t p D N q l → v q = l) → (qs.map v).flatten = l
  | _, _, .nil, _ => rfl
  | _, _, .cons (q := q) h hk, hv => by
    rw [List.map_cons, List.flatten_cons, hv q (by simp) _ h, TrmL.vals hk fun q hq => hv q (by simp [hq])]
theorem TrmL.cls : ∀ {qs qs' : List Nat} {l : List Cell}, TrmL t p D N qs l → qs.length = qs'.length → (∀ ab ∈ qs.zip qs', Cl t.length p ab.1 ab.2) → TrmL t p D N qs' l
  | [], [], _, h, _, _ => h
  | [], _ :: _, _, _, h, _ => by simp at h
  | _ :: _, [], _, _, h, _ => by simp at h
  | q :: qs, q' :: qs', _, .cons h hk, hl, hc => by
    refine .cons (h.cls (hc (q, q') (by simp))) (TrmL.cls hk (by simpa using hl) fun ab hab => hc ab (by simp [hab]))
open Classical in
/-- What the classes put for each variable. -/
noncomputable def sol (t : List Cell) (p : Nat → Nat) (D N : Nat → Int) (n : Int) : List Cell := if h : ∃ l : List Cell, ∃ (i : Nat) (hi : i < t.length), t[i].kind = 1 ∧ t[i].n = n ∧ Trm t p D N i l then h.choose else [varCell n]
theorem sol_var (js : JS t p D N) {i : Nat} (hi : i < t.length) (hk : t[i].kind = 1) {l : List Cell} (h : Trm t p D N i l) : sol t p D N t[i].n = l := by
  have hx : ∃ l : List Cell, ∃ (j : Nat) (hj : j < t.length), t[j].kind = 1 ∧ t[j].n = t[i].n ∧ Trm t p D N j l := ⟨l, i, hi, hk, rfl, h⟩
  unfold sol
  rw [dif_pos hx]
  obtain ⟨j, hj, k1, k2, k3⟩ := hx.choose_spec
  exact (k3.cls (js.vars j i hj hi k1 hk k2)).uniq h
theorem UF.root_lt {n m : Nat} {d : Nat → Nat} (uf : UF n m p d) {i r : Nat} (hi : i < n) (h : Root p i r) : r < n := by
  obtain ⟨s, h1, h2⟩ := uf.root (d i) i (Nat.le_refl _) hi
  rw [← h1.uniq h]; exact h2
theorem sol_val {m : Nat} {d : Nat → Nat} (ht : TOK t) (uf : UF t.length m p d) (js : JS t p D N) (co : Coh t p []) : ∀ (k i : Nat), t.length - i ≤ k → (hi : i < t.length) → ∀ l, Trm t p D N i l → valS t (sol t p D N) i = l
  | 0, i, hk, hi, l, h => by omega
  | k + 1, i, hk, hi, l, h => by
    by_cases hv : t[i].kind = 1
    · rw [valS_var ht hi hv]; exact sol_var js hi hv h
    · cases h with
      | @var _ r hr h0 => exact absurd (js.dneg r (uf.root_lt hi hr) hr.fix h0 i hi hr) hv
      | @fn _ r j c ls hr h0 hj hl =>
        obtain ⟨j', hj', e1, e2, e3⟩ := js.dpos r (uf.root_lt hi hr) hr.fix (by omega)
        have : j' = j := by omega
        subst this
        obtain ⟨e4, e5⟩ := co i j' hi hj' ⟨hi, hj', r, hr, e2⟩ hv e3
        rw [List.getElem?_eq_getElem hj'] at hj
        cases hj
        have hlen := parts_eqlen hj' hi e4.symm
        have hl2 : TrmL t p D N (partsN t i) ls := hl.cls hlen fun ab hab => by
          obtain ⟨q, q1, q2⟩ := zip_get hab
          exact (e5 (ab.2, ab.1) (get_zip q2 q1)).nil.symm
        rw [valS_fun ht hi hv, hl2.vals fun q hq l' h' => sol_val ht uf js co k q (by have := (partsN_lt ht hi q hq).2; omega) (partsN_lt ht hi q hq).1 l' h', e4]
end
end Go.Am.Seat
/-
  THE PLAIN LAW: whatever makes two terms alike absorbs what the classes put.
-/
namespace Go.Am.Seat
section
variable {t : List Cell} {p d : Nat → Nat} {D N : Nat → Int} {m : Nat}
theorem appT_var (s : Int → List Cell) (n : Int) : appT s [varCell n] = s n := by
  simp [appT, varCell]
theorem appT_cons (s : Int → List Cell) {c : Cell} (hk : ¬ c.kind = 1) (l : List Cell) : appT s (c :: l) = c :: appT s l := by
  simp [appT, hk]
mutual
theorem Trm.app (ht : TOK t) (uf : UF t.length m p d) (js : JS t p D N) (hok : ∀ c ∈ t, cellOk c = true) {s : Int → List Cell} (hs : Resp t p s) : ∀ {i : Nat} {l : List Cell}, i < t.length → Trm t p D N i l → appT s l = valS t s i
  | i, _, hi, .var (r := r) hr h => by
    have hrl := uf.root_lt hi hr
    have hv := js.dneg r hrl hr.fix h i hi hr
    have hn := js.nle r hrl hr.fix i hi hr hv
    have ho := (ok_var (hok _ (List.getElem_mem hi)) hv).2
    rw [appT_var]
    rcases js.nin r hrl hr.fix with h1 | ⟨k, hk, h1, h2, h3⟩
    · omega
    · rw [← h3, ← valS_var (s := s) ht hk h2]
      exact hs k i ⟨hk, hi, r, h1, hr⟩
  | i, _, hi, .fn (r := r) (j := j) (c := c) (l := l) hr h hj hl => by
    have hrl := uf.root_lt hi hr
    obtain ⟨j', hj', e1, e2, e3⟩ := js.dpos r hrl hr.fix (by omega)
    have e : j' = j := by omega
    have hj2 : j < t.length := by omega
    have e3' : ¬ t[j].kind = 1 := by subst e; exact e3
    have e2' : Root p j r := e ▸ e2
    have hc : c = t[j] := by
      rw [List.getElem?_eq_getElem hj2] at hj
      exact (Option.some.inj hj).symm
    rw [hc, appT_cons s e3', TrmL.app ht uf js hok hs (fun q hq => (partsN_lt ht hj2 q hq).1) hl, ← valS_fun ht hj2 e3']
    exact hs j i ⟨hj2, hi, r, e2', hr⟩
theorem TrmL.app (ht : TOK t) (uf : UF t.length m p d) (js : JS t p D N) (hok : ∀ c ∈ t, cellOk c = true) {s : Int → List Cell} (hs : Resp t p s) : ∀ {qs : List Nat} {l : List Cell}, (∀ q ∈ qs, q < t.length) → TrmL t p D N qs l → appT s l = (qs.map (valS t s)).flatten
  | _, _, _, .nil => rfl
  | _, _, hq, .cons h hk => by
    rw [appT_append, List.map_cons, List.flatten_cons, Trm.app ht uf js hok hs (hq _ (by simp)) h, TrmL.app ht uf js hok hs (fun q h => hq q (by simp [h])) hk]
end
end
end Go.Am.Seat
/-
  THE PLAIN LAW: what makes two terms alike, in normal form, is one alone.
-/
namespace Go.Am.Seat
structure Norm (a b : List Cell) (s : Int → List Cell) : Prop where
  eq : appT s a = appT s b
  tm : Terms s
  vc : ∀ n, ∀ c ∈ s n, c.kind = 1 → c = varCell c.n
  abs : ∀ u, Terms u → appT u a = appT u b → ∀ n, appT u (s n) = u n
  least : ∀ n m, s n = [varCell m] → m ≤ n
theorem Terms.pos {s : Int → List Cell} (h : Terms s) (n : Int) : 1 ≤ (s n).length := takes_ge (h n)
theorem appT_len {s : Int → List Cell} (h : Terms s) (l : List Cell) : l.length ≤ (appT s l).length :=
  appL_len (M := fun n => some (s n)) (fun n t e => by cases e; exact h.pos n) l
theorem appT_fix {s : Int → List Cell} (h : Terms s) : ∀ {l : List Cell}, appT s l = l → ∀ c ∈ l, c.kind = 1 → s c.n = [c]
  | [], _, c, hc, _ => by simp at hc
  | d :: l, e, c, hc, hk => by
    have hl := appT_len h l
    have e0 : appT s (d :: l) = (if d.kind = 1 then s d.n else [d]) ++ appT s l := by simp [appT]
    rw [e0] at e
    have e1 := congrArg List.length e
    rw [List.length_append, List.length_cons] at e1
    have hp : 1 ≤ (if d.kind = 1 then s d.n else [d]).length := by
      split
      · exact h.pos _
      · simp
    obtain ⟨x, hx⟩ := List.length_eq_one_iff.1 (show (if d.kind = 1 then s d.n else [d]).length = 1 by omega)
    rw [hx] at e
    obtain ⟨e2, e3⟩ := List.cons.inj (show x :: appT s l = d :: l from e)
    rcases List.mem_cons.1 hc with rfl | hc
    · rw [if_pos hk] at hx
      rw [hx, e2]
    · exact appT_fix h e3 c hc hk
theorem Norm.idem {a b : List Cell} {s : Int → List Cell} (h : Norm a b s) (n : Int) : appT s (s n) = s n := h.abs s h.tm h.eq n
theorem appT_same {s u : Int → List Cell} : ∀ {l : List Cell}, (∀ c ∈ l, c.kind = 1 → u c.n = [c]) → appT u l = l
  | [], _ => rfl
  | c :: l, h => by
    have e0 : appT u (c :: l) = (if c.kind = 1 then u c.n else [c]) ++ appT u l := by simp [appT]
    rw [e0, appT_same (s := s) fun d hd => h d (by simp [hd])]
    split
    · rename_i hk; rw [h c (by simp) hk]; rfl
    · rfl
theorem Norm.uniq {a b : List Cell} {s u : Int → List Cell} (h : Norm a b s) (k : Norm a b u) : s = u := by
  funext n
  have e : appT u (s n) = u n := h.abs u k.tm k.eq n
  rw [← e]
  refine (appT_same (s := s) fun c hc hk => ?_).symm
  have h1 := appT_fix h.tm (h.idem n) c hc hk
  have hcv := h.vc n c hc hk
  have e2 : appT s (u c.n) = s c.n := k.abs s h.tm h.eq c.n
  rw [h1] at e2
  have hl := appT_len h.tm (u c.n)
  rw [e2] at hl
  have hp := k.tm.pos c.n
  obtain ⟨x, hx⟩ := List.length_eq_one_iff.1 (show (u c.n).length = 1 by simp only [List.length_cons, List.length_nil] at hl; omega)
  rw [hx] at e2
  by_cases hxk : x.kind = 1
  · have hxv := k.vc c.n x (by rw [hx]; simp) hxk
    have e3 : s x.n = [c] := by simpa [appT, hxk] using e2
    rw [hcv] at e3
    have l1 := h.least x.n c.n e3
    rw [hxv] at hx
    have l2 := k.least c.n x.n hx
    have : x.n = c.n := by omega
    rw [hx, this, ← hcv]
  · have e3 : [x] = [c] := by simpa [appT, hxk] using e2
    rw [hx, e3]
end Go.Am.Seat
/-
  THE PLAIN LAW: counting the classes' terms ends, and is fine just if no class is within itself.
-/
namespace Go.Am.Seat
/-- How many classes are not seen yet. -/
def unseen (p sn : Nat → Nat) : Nat → Nat
  | 0 => 0
  | n + 1 => unseen p sn n + if p n = n ∧ sn n = 0 then 1 else 0
theorem unseen_le {p sn sn' : Nat → Nat} : ∀ {n : Nat}, (∀ i, i < n → p i = i → sn' i = 0 → sn i = 0) → unseen p sn' n ≤ unseen p sn n
  | 0, _ => Nat.le_refl _
  | n + 1, h => by
    have ih := unseen_le (n := n) fun i hi => h i (by omega)
    rw [unseen, unseen]
    by_cases e : p n = n ∧ sn' n = 0
    · rw [if_pos e, if_pos ⟨e.1, h n (by omega) e.1 e.2⟩]; omega
    · rw [if_neg e]
      split <;> omega
theorem unseen_lt {p sn sn' : Nat → Nat} {x : Nat} (px : p x = x) (h0 : sn x = 0) (h1 : sn' x ≠ 0) : ∀ {n : Nat}, x < n → (∀ i, i < n → p i = i → sn' i = 0 → sn i = 0) → unseen p sn' n + 1 ≤ unseen p sn n
  | 0, h, _ => by omega
  | n + 1, hx, h => by
    rw [unseen, unseen]
    by_cases e : n = x
    · subst e
      rw [if_neg fun k => h1 k.2, if_pos ⟨px, h0⟩]
      have := unseen_le (n := n) fun i hi => h i (by omega)
      omega
    · have ih := unseen_lt px h0 h1 (show x < n by omega) fun i hi => h i (by omega)
      by_cases e2 : p n = n ∧ sn' n = 0
      · rw [if_pos e2, if_pos ⟨e2.1, h n (by omega) e2.1 e2.2⟩]; omega
      · rw [if_neg e2]
        split <;> omega
theorem unseen_top (p sn : Nat → Nat) : ∀ n, unseen p sn n ≤ n
  | 0 => Nat.le_refl _
  | n + 1 => by
    have := unseen_top p sn n
    rw [unseen]
    split <;> omega
theorem capN_le (k : Nat) : capN k ≤ 201 := by unfold capN; split <;> omega
theorem capN_add (a b : Nat) : capN (capN a + capN b) = capN (a + b) := by
  unfold capN
  by_cases h1 : 201 < a <;> by_cases h2 : 201 < b <;> by_cases h3 : 201 < a + b <;> simp only [h1, h2, h3, if_true, if_false] <;> (try split) <;> omega
/-- What holds while the classes' terms are counted. -/
structure SInv (t : List Cell) (p d : Nat → Nat) (m : Nat) (D N : Nat → Int) (st : SzS) : Prop where
  uf : UF t.length m st.p d
  cls : SameC t.length p st.p
  two : ∀ x, x < t.length → p x = x → st.sn x = 2 → st.fine = true → ∃ l, Trm t p D N x l ∧ st.sz x = capN l.length
  val : ∀ x, x < t.length → p x = x → st.sn x ≤ 2
/-- Nothing makes the classes' places the same. -/
def NoU (t : List Cell) (p : Nat → Nat) : Prop := ∀ s, Terms s → Resp t p s → False
/-- What counting leaves as it was. -/
structure SMon (t : List Cell) (p : Nat → Nat) (st st' : SzS) : Prop where
  one : ∀ x, x < t.length → p x = x → (st'.sn x = 1 ↔ st.sn x = 1)
  mono : ∀ x, x < t.length → p x = x → st'.sn x = 0 → st.sn x = 0
  fin : st'.fine = true → st.fine = true
  bad : st'.fine = false → st.fine = true → NoU t p
theorem SMon.refl (t : List Cell) (p : Nat → Nat) (st : SzS) : SMon t p st st := ⟨fun _ _ _ => Iff.rfl, fun _ _ _ h => h, fun h => h, fun h k => by rw [h] at k; cases k⟩
theorem SMon.trans {t : List Cell} {p : Nat → Nat} {a b c : SzS} (h : SMon t p a b) (k : SMon t p b c) : SMon t p a c :=
  ⟨fun x hx px => (k.one x hx px).trans (h.one x hx px), fun x hx px e => h.mono x hx px (k.mono x hx px e), fun e => h.fin (k.fin e), fun e e' => by
    cases hb : b.fine
    · exact h.bad hb e'
    · exact k.bad e hb⟩
/-- The row of sizes of what is seen. -/
def SKeep (t : List Cell) (p : Nat → Nat) (st st' : SzS) : Prop := ∀ x, x < t.length → p x = x → st.sn x ≠ 0 → st'.sz x = st.sz x
section
variable {t : List Cell} {p d : Nat → Nat} {D N : Nat → Int} {m : Nat}
/-- What a call is asked at: every class that is being counted is greater. -/
def Gray (t : List Cell) (p : Nat → Nat) (st : SzS) (a : Nat) : Prop := ∀ x, x < t.length → p x = x → st.sn x = 1 → ∀ s, Terms s → Resp t p s → (valS t s a).length < (valS t s x).length
def OfLaw (t : List Cell) (p d : Nat → Nat) (m : Nat) (D N : Nat → Int) (F : Nat) : Prop := ∀ (st : SzS) (a : Nat), SInv t p d m D N st → a < t.length → Gray t p st a → unseen p st.sn t.length + m + 2 ≤ F →
  ∃ r st', ofF t D F st a = some (r, st') ∧ SInv t p d m D N st' ∧ SMon t p st st' ∧ SKeep t p st st' ∧ (st'.fine = true → (∃ l, Trm t p D N a l ∧ r = capN l.length) ∧ ∀ x, Root p a x → st'.sn x ≠ 0)
theorem flatten_mem_len {l : List (List Cell)} {x : List Cell} (h : x ∈ l) : x.length ≤ l.flatten.length := by
  induction l with
  | nil => simp at h
  | cons a l ih =>
    rw [List.flatten_cons, List.length_append]
    rcases List.mem_cons.1 h with rfl | h
    · omega
    · have := ih h; omega
theorem ofL_law {F : Nat} (ih : OfLaw t p d m D N F) {x : Nat} (hx : x < t.length) (px : p x = x) : ∀ {qs : List Nat} {st : SzS} {k : Nat}, SInv t p d m D N st → st.sn x = 1 → (∀ q ∈ qs, q < t.length ∧ Gray t p st q) → unseen p st.sn t.length + m + 2 ≤ F → (st.fine = true → st.sz x = capN k) →
    ∃ st', ofL (ofF t D F) x qs st = some st' ∧ SInv t p d m D N st' ∧ SMon t p st st' ∧ (∀ y, y < t.length → p y = y → st.sn y ≠ 0 → y ≠ x → st'.sz y = st.sz y) ∧ (st'.fine = true → ∃ l, TrmL t p D N qs l ∧ st'.sz x = capN (k + l.length))
  | [], st, k, inv, h1, hq, hF, hs => ⟨st, rfl, inv, SMon.refl _ _ _, fun _ _ _ _ _ => rfl, fun hf => ⟨[], .nil, by rw [hs hf]; rfl⟩⟩
  | q :: qs, st, k, inv, h1, hq, hF, hs => by
    obtain ⟨r, st1, e1, i1, m1, k1, f1⟩ := ih st q inv (hq q (by simp)).1 (hq q (by simp)).2 hF
    have hsn1 : st1.sn x = 1 := (m1.one x hx px).2 h1
    obtain ⟨l0, hl0⟩ : ∃ l0, st1.fine = true → Trm t p D N q l0 ∧ r = capN l0.length := by
      cases hf : st1.fine
      · exact ⟨[], fun h => by cases h⟩
      · obtain ⟨⟨l0, h⟩, _⟩ := f1 hf
        exact ⟨l0, fun _ => h⟩
    have i2 : SInv t p d m D N ⟨st1.p, upd st1.sz x (capN (st1.sz x + r)), st1.sn, st1.fine⟩ := ⟨i1.uf, i1.cls, fun y hy py e ef => by
      have hne : y ≠ x := fun e' => by subst e'; rw [hsn1] at e; cases e
      dsimp only at e ef ⊢
      rw [upd_ne _ _ hne]
      exact i1.two y hy py e ef, i1.val⟩
    have hle := unseen_le (p := p) (sn := st.sn) (sn' := st1.sn) (n := t.length) m1.mono
    have hmn : SMon t p st1 ⟨st1.p, upd st1.sz x (capN (st1.sz x + r)), st1.sn, st1.fine⟩ := ⟨fun _ _ _ => Iff.rfl, fun _ _ _ h => h, fun h => h, fun h k => by rw [show st1.fine = false from h] at k; cases k⟩
    obtain ⟨st2, e2, i3, m3, k3, f3⟩ := ofL_law ih hx px (qs := qs) (st := ⟨st1.p, upd st1.sz x (capN (st1.sz x + r)), st1.sn, st1.fine⟩) (k := k + l0.length) i2 hsn1
      (fun q' h' => ⟨(hq q' (by simp [h'])).1, fun y hy py e s h2 h3 => (hq q' (by simp [h'])).2 y hy py ((m1.one y hy py).1 e) s h2 h3⟩) (by dsimp only; omega)
      (fun hf => by
        dsimp only at hf ⊢
        rw [upd_same, (hl0 hf).2, k1 x hx px (by omega), hs (m1.fin hf), capN_add])
    refine ⟨st2, by rw [ofL, e1]; exact e2, i3, m1.trans (hmn.trans m3), fun y hy py e hne => ?_, fun hf => ?_⟩
    · rw [k3 y hy py (fun e' => e (m1.mono y hy py e')) hne]
      dsimp only
      rw [upd_ne _ _ hne, k1 y hy py e]
    · have hf1 : st1.fine = true := m3.fin hf
      obtain ⟨l, h2, h3⟩ := f3 hf
      exact ⟨_, .cons (hl0 hf1).1 h2, by rw [h3, List.length_append]; congr 1; omega⟩
theorem of_law (ht : TOK t) (uf0 : UF t.length m p d) (js : JS t p D N) : ∀ F, OfLaw t p d m D N F
  | 0 => fun _ _ _ _ _ h => by omega
  | F + 1 => fun st a inv ha hg hF => by
    obtain ⟨x, p1, e1, r1, hx, uf1, s1⟩ := own1_law (F := F) inv.uf ha (by have := inv.uf.le a ha; omega)
    have ra : Root p a x := (inv.cls a ha x).2 r1
    have px := ra.fix
    have cls1 := inv.cls.trans s1
    have hcl : Cl t.length p a x := ⟨ha, hx, x, ra, .here px⟩
    rw [ofF, e1]
    dsimp only
    by_cases h1 : st.sn x = 1
    · rw [if_pos h1]
      refine ⟨0, _, rfl, ⟨uf1, cls1, fun _ _ _ _ h => (by cases h), inv.val⟩, ⟨fun _ _ _ => Iff.rfl, fun _ _ _ h => h, fun h => (by cases h), fun _ _ s h2 h3 => ?_⟩, fun _ _ _ _ => rfl, fun h => (by cases h)⟩
      have := hg x hx px h1 s h2 h3
      rw [h3 a x hcl] at this
      omega
    rw [if_neg h1]
    by_cases h2 : st.sn x = 2 ∨ st.fine = false
    · rw [if_pos h2]
      refine ⟨_, _, rfl, ⟨uf1, cls1, inv.two, inv.val⟩, ⟨fun _ _ _ => Iff.rfl, fun _ _ _ h => h, fun h => h, fun h k => by rw [show st.fine = false from h] at k; cases k⟩, fun _ _ _ _ => rfl, fun hf => ?_⟩
      dsimp only at hf
      rcases h2 with h2 | h2
      · obtain ⟨l, h3, h4⟩ := inv.two x hx px h2 hf
        exact ⟨⟨l, h3.cls hcl.symm, h4⟩, fun y hy => by rw [hy.uniq ra]; dsimp only; omega⟩
      · rw [h2] at hf; cases hf
    rw [if_neg h2]
    have h0 : st.sn x = 0 := by have := inv.val x hx px; omega
    have hfine : st.fine = true := by
      cases h : st.fine
      · exact absurd (.inr h) h2
      · rfl
    have i1 : SInv t p d m D N ⟨p1, upd st.sz x 1, upd st.sn x 1, st.fine⟩ := ⟨uf1, cls1, fun y hy py e ef => by
      dsimp only at e ef ⊢
      by_cases hne : y = x
      · subst hne; rw [upd_same] at e; cases e
      · rw [upd_ne _ _ hne] at e ⊢
        exact inv.two y hy py e ef, fun y hy py => by
      dsimp only
      by_cases hne : y = x
      · subst hne; rw [upd_same]; omega
      · rw [upd_ne _ _ hne]; exact inv.val y hy py⟩
    have hun : unseen p (upd st.sn x 1) t.length + 1 ≤ unseen p st.sn t.length := unseen_lt px h0 (by rw [upd_same]; omega) hx fun y hy py e => by
      by_cases hne : y = x
      · subst hne; exact h0
      · rwa [upd_ne _ _ hne] at e
    have hD0 : 0 ≤ D x → ∃ (j : Nat) (hj : j < t.length), D x = (j : Int) ∧ Root p j x ∧ ¬ t[j].kind = 1 := js.dpos x hx px
    have hqs : ∀ q ∈ (if 0 ≤ D x then partsN t (D x).toNat else []), q < t.length ∧ Gray t p ⟨p1, upd st.sz x 1, upd st.sn x 1, st.fine⟩ q := by
      intro q hq
      split at hq
      · rename_i h
        obtain ⟨j, hj, e2, e3, e4⟩ := hD0 h
        rw [e2, Int.toNat_natCast] at hq
        refine ⟨(partsN_lt ht hj q hq).1, fun y hy py e s h3 h4 => ?_⟩
        dsimp only at e
        have hlt : (valS t s q).length < (valS t s x).length := by
          rw [← h4 j x ⟨hj, hx, x, e3, .here px⟩, valS_fun ht hj e4, List.length_cons]
          have := flatten_mem_len (List.mem_map_of_mem (f := valS t s) hq)
          omega
        by_cases hne : y = x
        · rw [hne]; exact hlt
        · rw [upd_ne _ _ hne] at e
          have := hg y hy py e s h3 h4
          rw [h4 a x hcl] at this
          omega
      · simp at hq
    obtain ⟨st2, e2, i2, m2, k2, f2⟩ := ofL_law (of_law ht uf0 js F) hx px (k := 1) i1 (upd_same _ _ _) hqs (by dsimp only; omega) (fun _ => by dsimp only; rw [upd_same]; rfl)
    rw [e2]
    have hsn2 : st2.sn x = 1 := (m2.one x hx px).2 (upd_same _ _ _)
    have fin : st2.fine = true → ∃ l, Trm t p D N x l ∧ st2.sz x = capN l.length := by
      intro hf
      obtain ⟨l, h3, h4⟩ := f2 hf
      by_cases h : 0 ≤ D x
      · rw [if_pos h] at h3
        obtain ⟨j, hj, e3, e4, e5⟩ := hD0 h
        rw [e3, Int.toNat_natCast] at h3
        exact ⟨t[j] :: l, .fn (.here px) e3 (List.getElem?_eq_getElem hj) h3, by rw [h4, List.length_cons]; congr 1; omega⟩
      · rw [if_neg h] at h3
        cases h3
        exact ⟨_, .var (.here px) (by omega), by rw [h4]; rfl⟩
    refine ⟨_, _, rfl, ⟨i2.uf, i2.cls, fun y hy py e ef => ?_, fun y hy py => ?_⟩, ⟨fun y hy py => ?_, fun y hy py e => ?_, m2.fin, m2.bad⟩, fun y hy py e => ?_, fun hf => ?_⟩
    · dsimp only at e ef ⊢
      by_cases hne : y = x
      · subst hne; exact fin ef
      · rw [upd_ne _ _ hne] at e
        exact i2.two y hy py e ef
    · dsimp only
      by_cases hne : y = x
      · subst hne; rw [upd_same]; omega
      · rw [upd_ne _ _ hne]; exact i2.val y hy py
    · dsimp only
      by_cases hne : y = x
      · subst hne; rw [upd_same, h0]; omega
      · rw [upd_ne _ _ hne, m2.one y hy py]
        dsimp only
        rw [upd_ne _ _ hne]
    · dsimp only at e
      by_cases hne : y = x
      · subst hne; exact h0
      · rw [upd_ne _ _ hne] at e
        have := m2.mono y hy py e
        dsimp only at this
        rwa [upd_ne _ _ hne] at this
    · dsimp only
      have hne : y ≠ x := fun e' => by subst e'; exact e h0
      rw [k2 y hy py (by dsimp only; rw [upd_ne _ _ hne]; exact e) hne]
      dsimp only
      rw [upd_ne _ _ hne]
    · obtain ⟨l, h3, h4⟩ := fin hf
      exact ⟨⟨l, h3.cls hcl.symm, h4⟩, fun y hy => by rw [hy.uniq ra]; dsimp only; rw [upd_same]; omega⟩
/-- Counting all. -/
theorem ofAll_law (ht : TOK t) (uf0 : UF t.length m p d) (js : JS t p D N) {F : Nat} (hF : t.length + m + 2 ≤ F) : ∀ {qs : List Nat} {st : SzS}, SInv t p d m D N st → (∀ q ∈ qs, q < t.length) → (∀ y, y < t.length → p y = y → st.sn y ≠ 1) →
    ∃ st', ofAll t D F qs st = some st' ∧ SInv t p d m D N st' ∧ SMon t p st st' ∧ SKeep t p st st' ∧ (st'.fine = true → ∀ q ∈ qs, (∃ l, Trm t p D N q l) ∧ ∀ x, Root p q x → st'.sn x ≠ 0)
  | [], st, inv, hq, h1 => ⟨st, rfl, inv, SMon.refl _ _ _, fun _ _ _ _ => rfl, fun _ q h => by simp at h⟩
  | q :: qs, st, inv, hq, h1 => by
    obtain ⟨r, st1, e1, i1, m1, k1, f1⟩ := of_law ht uf0 js F st q inv (hq q (by simp)) (fun y hy py e => absurd e (h1 y hy py)) (by have := unseen_top p st.sn t.length; omega)
    obtain ⟨st2, e2, i2, m2, k2, f2⟩ := ofAll_law ht uf0 js hF (qs := qs) i1 (fun q' h => hq q' (by simp [h])) fun y hy py e => h1 y hy py ((m1.one y hy py).1 e)
    refine ⟨st2, by rw [ofAll, e1]; exact e2, i2, m1.trans m2, fun y hy py e => by rw [k2 y hy py fun e' => e (m1.mono y hy py e'), k1 y hy py e], fun hf q' hq' => ?_⟩
    rcases List.mem_cons.1 hq' with rfl | hq'
    · obtain ⟨⟨l, h2, _⟩, h3⟩ := f1 (m2.fin hf)
      refine ⟨⟨l, h2⟩, fun x hx e => ?_⟩
      exact h3 x hx (m2.mono x (uf0.root_lt (hq q' (by simp)) hx) hx.fix e)
    · exact f2 hf q' hq'
end
end Go.Am.Seat
/-
  THE PLAIN LAW of Mgu: it ends; it tells the normal one, or that there is none, or that it is too big.
-/
namespace Go.Am.Seat
section
variable {t : List Cell} {p d : Nat → Nat} {D N : Nat → Int} {m : Nat}
def TfLaw (t : List Cell) (p d : Nat → Nat) (m : Nat) (D N : Nat → Int) (F : Nat) : Prop := ∀ (q : Nat → Nat) (a : Nat) (l : List Cell), UF t.length m q d → SameC t.length p q → a < t.length → Trm t p D N a l → l.length + m + 2 ≤ F →
  ∃ q', termF t D N F q a = some (l, q') ∧ UF t.length m q' d ∧ SameC t.length p q'
theorem termL_law {F : Nat} (ih : TfLaw t p d m D N F) : ∀ {qs : List Nat} {q : Nat → Nat} {l out : List Cell}, UF t.length m q d → SameC t.length p q → (∀ a ∈ qs, a < t.length) → TrmL t p D N qs l → l.length + m + 2 ≤ F →
    ∃ q', termL (termF t D N F) qs q out = some (out ++ l, q') ∧ UF t.length m q' d ∧ SameC t.length p q'
  | [], q, _, out, uf, cl, _, .nil, _ => ⟨q, by rw [List.append_nil]; rfl, uf, cl⟩
  | a :: qs, q, _, out, uf, cl, ha, .cons (a := la) (b := lb) h hk, hF => by
    rw [List.length_append] at hF
    obtain ⟨q1, e1, uf1, cl1⟩ := ih q a la uf cl (ha a (by simp)) h (by omega)
    obtain ⟨q2, e2, uf2, cl2⟩ := termL_law ih (out := out ++ la) uf1 cl1 (fun b hb => ha b (by simp [hb])) hk (by omega)
    exact ⟨q2, by rw [termL, e1]; dsimp only; rw [e2, List.append_assoc], uf2, cl2⟩
theorem termF_law (ht : TOK t) : ∀ F, TfLaw t p d m D N F
  | 0 => fun _ _ _ _ _ _ _ h => by omega
  | F + 1 => fun q a l uf cl ha h hF => by
    obtain ⟨x, q1, e1, r1, hx, uf1, s1⟩ := own1_law (F := F) uf ha (by have := uf.le a ha; have := h.pos; omega)
    have ra : Root p a x := (cl a ha x).2 r1
    have cl1 := cl.trans s1
    rw [termF, e1]
    dsimp only
    cases h with
    | var hr h0 =>
      have e := hr.uniq ra
      subst e
      rw [if_pos h0]
      exact ⟨q1, rfl, uf1, cl1⟩
    | @fn _ r j c ls hr h0 hj hl =>
      have e := hr.uniq ra
      subst e
      have hj2 : j < t.length := (List.getElem?_eq_some_iff.1 hj).1
      rw [if_neg (by omega), h0, Int.toNat_natCast, hj]
      dsimp only
      rw [List.length_cons] at hF
      obtain ⟨q2, e2, uf2, cl2⟩ := termL_law (termF_law ht F) (out := [c]) uf1 cl1 (fun b hb => (partsN_lt ht hj2 b hb).1) hl (by omega)
      exact ⟨q2, by rw [e2]; rfl, uf2, cl2⟩
theorem lastB_some {n : Int} {k : Nat} : ∀ {i : Nat}, lastB t i n = some k → ∃ h : k < t.length, t[k].kind = 1 ∧ t[k].n = n
  | 0, h => by cases h
  | i + 1, h => by
    rw [lastB] at h
    split at h
    · rename_i c hc
      split at h
      · rename_i h2
        cases h
        obtain ⟨h3, h4⟩ := List.getElem?_eq_some_iff.1 hc
        subst h4
        exact ⟨h3, h2⟩
      · exact lastB_some h
    · exact lastB_some h
theorem lastB_none {n : Int} : ∀ {i : Nat}, lastB t i n = none → ∀ k (h : k < t.length), k < i → ¬ (t[k].kind = 1 ∧ t[k].n = n)
  | 0, _, k, _, hk => by omega
  | i + 1, h, k, hkt, hk => by
    rw [lastB] at h
    by_cases e : k = i
    · subst e
      rw [List.getElem?_eq_getElem hkt] at h
      dsimp only at h
      intro h2
      rw [if_pos h2] at h
      cases h
    · split at h
      · split at h
        · cases h
        · exact lastB_none h k hkt (by omega)
      · exact lastB_none h k hkt (by omega)
theorem sol_none {n : Int} (h : ∀ k (h : k < t.length), ¬ (t[k].kind = 1 ∧ t[k].n = n)) : sol t p D N n = [varCell n] := by
  unfold sol
  rw [dif_neg]
  rintro ⟨l, i, hi, h1, h2, _⟩
  exact h i hi ⟨h1, h2⟩
/-- One variable's binding, where it has one. -/
def bnd (s : Int → List Cell) (n : Nat) : Option (Nat × List Cell) := if s n = [varCell n] then none else some (n, s n)
theorem capN_big {k : Nat} : 200 < capN k ↔ 200 < k := by unfold capN; split <;> omega
theorem bindL_law (ht : TOK t) (uf0 : UF t.length m p d) (js : JS t p D N) (hall : ∀ i, i < t.length → ∃ l, Trm t p D N i l) {sz : Nat → Nat} (hsz : ∀ x, x < t.length → p x = x → ∃ l, Trm t p D N x l ∧ sz x = capN l.length) {F : Nat} (hF : m + 300 ≤ F) :
    ∀ {ns : List Nat} {q : Nat → Nat} {out : List (Nat × List Cell)}, UF t.length m q d → SameC t.length p q →
    bindL t D N sz F ns q out = some (if ns.any (fun n => decide (200 < (sol t p D N (n : Nat)).length)) = true then ([], 2) else (out ++ ns.filterMap (bnd (sol t p D N)), 0))
  | [], q, out, _, _ => by simp [bindL]
  | n :: ns, q, out, uf, cl => by
    rw [bindL]
    cases hb : lastB t t.length n with
    | none =>
      have e : sol t p D N (n : Nat) = [varCell n] := sol_none fun k h => lastB_none hb k h h
      dsimp only
      rw [bindL_law ht uf0 js hall hsz hF uf cl, List.any_cons, List.filterMap_cons, bnd, if_pos e, e]
      simp
    | some a =>
      obtain ⟨ha, hk, hn⟩ := lastB_some hb
      dsimp only
      obtain ⟨x, q1, e1, r1, hx, uf1, s1⟩ := own1_law (F := F) uf ha (by have := uf.le a ha; omega)
      have ra : Root p a x := (cl a ha x).2 r1
      have px := ra.fix
      have cl1 := cl.trans s1
      obtain ⟨l, hl, hsx⟩ := hsz x hx px
      have hla : Trm t p D N a l := hl.cls ⟨hx, ha, x, .here px, ra⟩
      have es : sol t p D N (n : Nat) = l := by rw [← hn]; exact sol_var js ha hk hla
      rw [e1]
      dsimp only
      have hiff : (D x < 0 ∧ N x = (n : Int)) ↔ l = [varCell n] := by
        constructor
        · rintro ⟨h1, h2⟩
          cases hl with
          | var hr h => rw [hr.self px, h2]
          | fn hr h => rw [hr.self px] at h; omega
        · intro h
          cases hl with
          | var hr h0 =>
            have e := hr.self px
            subst e
            have := List.cons.inj h
            exact ⟨h0, congrArg Cell.n this.1⟩
          | @fn _ r j c ls hr h0 hj hl =>
            have e := hr.self px
            subst e
            obtain ⟨j', hj', e2, e3, e4⟩ := js.dpos r hx px (by omega)
            have : j' = j := by omega
            subst this
            rw [List.getElem?_eq_getElem hj'] at hj
            have := List.cons.inj h
            rw [← Option.some.inj hj] at this
            exact absurd (by rw [this.1]; rfl) e4
      by_cases hc : D x < 0 ∧ N x = (n : Int)
      · have e := hiff.1 hc
        rw [if_pos hc, bindL_law ht uf0 js hall hsz hF uf1 cl1, List.any_cons, List.filterMap_cons, bnd, es, if_pos e, e]
        simp
      · have e : ¬ l = [varCell n] := fun e => hc (hiff.2 e)
        rw [if_neg hc, hsx]
        by_cases hbig : 200 < l.length
        · rw [if_pos (capN_big.2 hbig), List.any_cons, es, decide_eq_true hbig]
          rfl
        · rw [if_neg fun h => hbig (capN_big.1 h)]
          obtain ⟨q2, e2, uf2, cl2⟩ := termF_law ht F q1 x l uf1 cl1 hx hl (by omega)
          rw [e2]
          dsimp only
          rw [if_neg (by omega), bindL_law ht uf0 js hall hsz hF uf2 cl2, List.any_cons, List.filterMap_cons, bnd, es, if_neg e, decide_eq_false hbig]
          simp
end
/-- The bindings told of a normal one. -/
def mguO (s : Int → List Cell) : List (Nat × List Cell) × Int := if (List.range 1000).any (fun n => decide (200 < (s (n : Nat)).length)) = true then ([], 2) else ((List.range 1000).filterMap (bnd s), 0)
/-- A variable stands in a row. -/
def occ (t : List Cell) (n : Int) : Prop := ∃ c ∈ t, c.kind = 1 ∧ c.n = n
theorem ok_varCell {c : Cell} (h : cellOk c = true) (hk : c.kind = 1) : c = varCell c.n := by
  obtain ⟨h1, _⟩ := ok_var h hk
  cases c
  simp only at hk h1
  subst hk h1
  rfl
section
variable {t : List Cell} {p d : Nat → Nat} {D N : Nat → Int} {m : Nat}
mutual
theorem Trm.ok (ht : TOK t) (uf : UF t.length m p d) (js : JS t p D N) (hok : ∀ c ∈ t, cellOk c = true) : ∀ {i : Nat} {l : List Cell}, i < t.length → Trm t p D N i l → takes l 1 = some l.length ∧ ∀ c ∈ l, cellOk c = true ∧ (c.kind = 1 → occ t c.n)
  | i, _, hi, .var (r := r) hr h => by
    have hrl := uf.root_lt hi hr
    have hv := js.dneg r hrl hr.fix h i hi hr
    have hn := js.nle r hrl hr.fix i hi hr hv
    have ho := (ok_var (hok _ (List.getElem_mem hi)) hv).2
    refine ⟨rfl, fun c hc => ?_⟩
    rw [List.mem_singleton] at hc
    subst hc
    rcases js.nin r hrl hr.fix with h1 | ⟨k, hk, h1, h2, h3⟩
    · omega
    · have := hok _ (List.getElem_mem hk)
      have e := ok_varCell this h2
      rw [h3] at e
      rw [← e]
      exact ⟨this, fun _ => ⟨_, List.getElem_mem hk, h2, rfl⟩⟩
  | i, _, hi, .fn (r := r) (j := j) (c := c) (l := l) hr h hj hl => by
    obtain ⟨hj2, ec⟩ := List.getElem?_eq_some_iff.1 hj
    have hp := partsN_length hj2
    obtain ⟨h1, h2⟩ := TrmL.ok ht uf js hok (fun q hq => (partsN_lt ht hj2 q hq).1) hl
    refine ⟨?_, fun e he => ?_⟩
    · have ha : arC c = (partsN t j).length := by rw [hp, ec]; rfl
      rw [takes, Nat.zero_add, ha, h1]
      rfl
    · rcases List.mem_cons.1 he with rfl | he
      · have := List.getElem_mem hj2
        rw [ec] at this
        exact ⟨hok _ this, fun hk => ⟨_, this, hk, rfl⟩⟩
      · exact h2 e he
theorem TrmL.ok (ht : TOK t) (uf : UF t.length m p d) (js : JS t p D N) (hok : ∀ c ∈ t, cellOk c = true) : ∀ {qs : List Nat} {l : List Cell}, (∀ q ∈ qs, q < t.length) → TrmL t p D N qs l → takes l qs.length = some l.length ∧ ∀ c ∈ l, cellOk c = true ∧ (c.kind = 1 → occ t c.n)
  | _, _, _, .nil => ⟨rfl, fun _ h => by simp at h⟩
  | _, _, hq, .cons h hk => by
    obtain ⟨h1, h2⟩ := Trm.ok ht uf js hok (hq _ (by simp)) h
    obtain ⟨h3, h4⟩ := TrmL.ok ht uf js hok (fun q h => hq q (by simp [h])) hk
    refine ⟨by rw [List.length_cons, Nat.add_comm]; exact takes_cat h1 h3, fun e he => ?_⟩
    rcases List.mem_append.1 he with he | he
    · exact h2 e he
    · exact h4 e he
end
end
end Go.Am.Seat
/-
  THE PLAIN LAW of Mgu, of two right terms.
-/
namespace Go.Am.Seat
theorem subT_a {a b : List Cell} (ha : takes a 1 = some a.length) : subT (a ++ b) 0 = a := by
  rw [subT_of (k := a.length) (by rw [List.drop_zero]; exact takes_app ha), List.drop_zero, List.take_left]
theorem subT_b {a b : List Cell} (hb : takes b 1 = some b.length) : subT (a ++ b) a.length = b := by
  rw [subT_of (k := b.length) (by rw [List.drop_left]; exact hb), List.drop_left, List.take_length]
theorem occ_get {t : List Cell} {n : Int} (h : occ t n) : ∃ (i : Nat) (hi : i < t.length), t[i].kind = 1 ∧ t[i].n = n := by
  obtain ⟨c, hc, h1, h2⟩ := h
  obtain ⟨i, hi, rfl⟩ := List.getElem_of_mem hc
  exact ⟨i, hi, h1, h2⟩
/-- The normal one of two terms, made of their cells. -/
structure NormO (a b : List Cell) (s : Int → List Cell) : Prop extends Norm a b s where
  ok : ∀ n, occ (a ++ b) n → ∀ c ∈ s n, cellOk c = true ∧ (c.kind = 1 → occ (a ++ b) c.n)
  out : ∀ n, ¬ occ (a ++ b) n → s n = [varCell n]
set_option maxRecDepth 10000 in
theorem mgu_law {a b : List Cell} (ha : RTm a) (hb : RTm b) : ∃ out e, mguR 1000000 (a ++ b) a.length = some (out, e) ∧
    ((out = [] ∧ e = 3 ∧ ∀ s, Terms s → appT s a ≠ appT s b) ∨ ∃ s, NormO a b s ∧ (out, e) = mguO s) := by
  obtain ⟨t, ht0⟩ : ∃ t, t = a ++ b := ⟨_, rfl⟩
  have ht : TOK t := ht0 ▸ tok_two ha hb
  have hlen : t.length = a.length + b.length := by rw [ht0, List.length_append]
  have hok : ∀ c ∈ t, cellOk c = true := fun c hc => by
    rw [ht0] at hc
    exact (List.mem_append.1 hc).elim (ha.ok c) (hb.ok c)
  have l1 := ha.len
  have l2 := hb.len
  have l3 := ha.pos
  have l4 := hb.pos
  have hv : ∀ s, valS t s 0 = appT s a ∧ valS t s a.length = appT s b := fun s => by
    rw [valS, valS, ht0, subT_a ha.tk, subT_b hb.tk]
    exact ⟨rfl, rfl⟩
  have hmul : t.length * (t.length + 1) ≤ 400 * 401 := Nat.mul_le_mul (by omega) (by omega)
  obtain ⟨ok, p, D, N, e1, j1, j2⟩ := join_law ht (k := a.length) (F := 1000000) (by omega) (by omega) (by omega)
  rw [← ht0]
  rw [mguR, e1]
  dsimp only
  cases hokb : ok with
  | false =>
    rw [if_pos rfl]
    refine ⟨[], 3, rfl, .inl ⟨rfl, rfl, fun s hs e => ?_⟩⟩
    have := (j2 s hs (by rw [(hv s).1, (hv s).2]; exact e)).1
    rw [hokb] at this
    cases this
  | true =>
    obtain ⟨m, d, uf, hm, js, co, hcl⟩ := j1 hokb
    rw [if_neg (by decide)]
    have inv0 : SInv t p d m D N (st0 p) := ⟨uf, fun _ _ _ => Iff.rfl, fun _ _ _ h => (by cases h), fun _ _ _ => Nat.zero_le _⟩
    obtain ⟨st, e2, i2, m2, k2, f2⟩ := ofAll_law ht uf js (F := 1000000) (by omega) (qs := List.range t.length) inv0 (fun q hq => List.mem_range.1 hq) (fun _ _ _ h => by cases h)
    rw [e2]
    dsimp only
    cases hf : st.fine with
    | false =>
      rw [if_pos rfl]
      refine ⟨[], 3, rfl, .inl ⟨rfl, rfl, fun s hs e => ?_⟩⟩
      exact m2.bad hf rfl s hs (j2 s hs (by rw [(hv s).1, (hv s).2]; exact e)).2
    | true =>
      rw [if_neg (by decide)]
      have hall : ∀ i, i < t.length → ∃ l, Trm t p D N i l := fun i hi => (f2 hf i (List.mem_range.2 hi)).1
      have hsz : ∀ x, x < t.length → p x = x → ∃ l, Trm t p D N x l ∧ st.sz x = capN l.length := fun x hx px => by
        have h0 := (f2 hf x (List.mem_range.2 hx)).2 x (.here px)
        have h1 : st.sn x ≠ 1 := fun e => by have := (m2.one x hx px).1 e; cases this
        have h2 := i2.val x hx px
        exact i2.two x hx px (by omega) hf
      rw [bindL_law ht uf js hall hsz (by omega) i2.uf i2.cls]
      refine ⟨(mguO (sol t p D N)).1, (mguO (sol t p D N)).2, ?_, .inr ⟨sol t p D N, ?_, Prod.ext rfl rfl⟩⟩
      · rw [mguO, List.nil_append]
      have hval : ∀ i (hi : i < t.length) l, Trm t p D N i l → valS t (sol t p D N) i = l := fun i hi l h => sol_val ht uf js co _ i (Nat.le_refl _) hi l h
      have hin : ∀ n, occ t n → ∃ i, ∃ hi : i < t.length, t[i].kind = 1 ∧ t[i].n = n ∧ Trm t p D N i (sol t p D N n) := fun n h => by
        obtain ⟨i, hi, h1, h2⟩ := occ_get h
        obtain ⟨l, hl⟩ := hall i hi
        refine ⟨i, hi, h1, h2, ?_⟩
        rw [← h2, sol_var js hi h1 hl]
        exact hl
      have hout : ∀ n, ¬ occ t n → sol t p D N n = [varCell n] := fun n h => sol_none fun k hk h1 => h ⟨_, List.getElem_mem hk, h1.1, h1.2⟩
      have h0 : 0 < t.length := by omega
      have hal : a.length < t.length := by omega
      have hoks : ∀ n, occ t n → takes (sol t p D N n) 1 = some (sol t p D N n).length ∧ ∀ c ∈ sol t p D N n, cellOk c = true ∧ (c.kind = 1 → occ t c.n) := fun n h => by
        obtain ⟨i, hi, _, _, h3⟩ := hin n h
        exact h3.ok ht uf js hok hi
      refine ⟨⟨?_, fun n => ?_, fun n c hc hk => ?_, fun u hu eu n => ?_, fun n k e => ?_⟩, fun n hn c hc => ?_, fun n hn => hout n (ht0 ▸ hn)⟩
      · obtain ⟨l, hl⟩ := hall 0 h0
        rw [← (hv _).1, ← (hv _).2, hval 0 h0 l hl, hval a.length hal l (hl.cls hcl)]
      · by_cases h : occ t n
        · exact (hoks n h).1
        · rw [hout n h]; rfl
      · by_cases h : occ t n
        · exact ok_varCell ((hoks n h).2 c hc).1 hk
        · rw [hout n h, List.mem_singleton] at hc
          rw [hc]; rfl
      · by_cases h : occ t n
        · obtain ⟨i, hi, h1, h2, h3⟩ := hin n h
          rw [h3.app ht uf js hok (j2 u hu (by rw [(hv u).1, (hv u).2]; exact eu)).2 hi, valS_var ht hi h1, h2]
        · rw [hout n h, appT_var]
      · by_cases h : occ t n
        · obtain ⟨i, hi, h1, h2, h3⟩ := hin n h
          rw [e] at h3
          obtain ⟨r, hr, hrD, hN⟩ : ∃ r, Root p i r ∧ D r < 0 ∧ N r = k := by
            cases h3 with
            | var hr h => exact ⟨_, hr, h, rfl⟩
            | @fn _ r j c ls hr h4 hj hl =>
              obtain ⟨j', hj', e2, e3, e4⟩ := js.dpos r (uf.root_lt hi hr) hr.fix (by omega)
              have : j' = j := by omega
              subst this
              rw [List.getElem?_eq_getElem hj'] at hj
              exact absurd (by rw [Option.some.inj hj]; rfl) e4
          have := js.nle r (uf.root_lt hi hr) hr.fix i hi hr h1
          omega
        · rw [hout n h] at e
          have := congrArg Cell.n (List.cons.inj e).1
          simp only [varCell] at this
          omega
      · rw [← ht0] at hn ⊢
        exact (hoks n hn).2 c hc
end Go.Am.Seat
/-
  MADE BY PROGRAM (am.py): the walks of functions 18.
-/
namespace Go.Am.Seat
open Go.Proofs
theorem bod18 : Try.f18.body = some (Try.f18.body.getD .skip) := rfl
theorem fn18 (L : Loops) (a b : List Cell) (s : Me) (x y : Sc) (hx : GSl encC x a) (hy : GSl encC y b) (ha : 0 < a.length ∧ a.length ≤ 1000000) (hb : 0 < b.length ∧ b.length ≤ 1000000) : FnL Try.prog L 18 [.av (.sc x), .av (.sc y)] s fun r s' => (r = vB (sameL (numG a) (numG b))) ∧ s' = s := by
  refine FnL.pure (R := fun r => r = vB (sameL (numG a) (numG b))) ?_
  obtain rfl := gsl_pos hx ha.1
  obtain rfl := gsl_pos hy hb.1
  refine fn_of_body (ts := [4]) Try.func18 bod18 rfl (by simp) (by simp [Try.ntmps18]) fun D0 => ?_
  unfold Try.f18
  simp only [Option.getD_some, initSl]
  refine aw_region_seq C (pb := false) rfl fun K hK => ?_
  repeat' (first | refine wy0 (h := ?_) | fail)
  refine awOps_nil (hK _ _ ?_)
  clear hK K
  refine aw_region_seq C (pb := false) rfl fun K hK => ?_
  repeat' (first | refine wy0 (h := ?_) | fail)
  (refine wc (And.intro Try.call56 (fn56 L a _ ha)) ?_; rintro _ _ ⟨rfl, rfl⟩)
  repeat' (first | refine wy0 (h := ?_) | fail)
  (refine wc (And.intro Try.call56 (fn56 L b _ hb)) ?_; rintro _ _ ⟨rfl, rfl⟩)
  (refine wc (And.intro Try.call48 (fn48 L (numG a) (numG b) _ _ _ (gslC _) (gslC _) (by rw [numG, List.length_map]; omega))) ?_; rintro _ _ ⟨rfl, rfl⟩)
  repeat' (first | refine wy0 (h := ?_) | fail)
  refine awOps_nil (hK _ _ ?_)
  clear hK K
  refine aw_ret ?_
  simp only [go_sem, ↓reduceIte, Nat.reduceEqDiff, reduceCtorEq, Nat.reduceAdd, Nat.reduceMul, Nat.reduceLeDiff, aLoad, aStore, FnQ, resA]
  -- .ret
  exact fun _ => ⟨by first | rfl | trivial, by first | exact fun _ _ => rfl | trivial, by first | rfl | trivial, by first | rfl | trivial⟩
end Go.Am.Seat
/-
  What the program's words tell at head's few terms.
-/
namespace Go.Am.Seat
def cB : Cell := ⟨3, ⟨#[98]⟩, 0⟩
def cC : Cell := ⟨3, ⟨#[99]⟩, 0⟩
def cV (n : Int) : Cell := ⟨1, .empty, n⟩
def cN (n : Int) : Cell := ⟨2, .empty, n⟩
def fT (l : List Cell) : List Cell := ⟨3, nmF, l.length⟩ :: l
theorem tl1 : mguR 100 (fT [cV 0, cB] ++ fT [cC, cV 1]) 3 = some ([(0, [cC]), (1, [cB])], 0) := by kernel_rfl
theorem tl2 : mguR 100 (fT [cV 1, cV 0] ++ fT [cV 0, cV 1]) 3 = some ([(1, [cV 0])], 0) := by kernel_rfl
theorem tl3 : mguR 100 ([cV 0] ++ fT [cV 0]) 1 = some ([], 3) := by kernel_rfl
theorem tl4 : mguR 100 (fT [cB] ++ fT [cC]) 2 = some ([], 3) := by kernel_rfl
theorem tl5 : mguR 100 (fT [cN 1] ++ fT [cN 2]) 2 = some ([], 3) := by kernel_rfl
theorem sortI_id {l : List Int} (h : l.Pairwise fun a b => a ≤ b) : sortI l = l := by
  apply List.mergeSort_of_pairwise
  exact h.imp fun h => by simpa using h
theorem tl6 : matR (fT [cV 0, cV 1]) (fT [cV 1, cV 0]) = some [(0, [cV 1]), (1, [cV 0])] := by
  unfold matR
  rw [show varsG (fT [cV 0, cV 1]) [] = [0, 1] by kernel_rfl, sortI_id (by simp)]
  kernel_rfl
theorem tl7 : matR (fT [cB]) (fT [cV 0]) = none := by kernel_rfl
theorem tl8 : matR (fT [cV 0, cV 0]) (fT [cV 0, cV 0]) = some [] := by
  unfold matR
  rw [show varsG (fT [cV 0, cV 0]) [] = [0] by kernel_rfl, sortI_id (by simp)]
  kernel_rfl
theorem tl9 : sameL (numG (fT [cV 7, cV 2])) (numG (fT [cV 0, cV 7])) = true := by kernel_rfl
theorem tl10 : sameL (numG (fT [cV 0, cV 0])) (numG (fT [cV 0, cV 1])) = false := by kernel_rfl
end Go.Am.Seat
/-
  MADE BY PROGRAM (am.py): the walks of functions 25.
-/
namespace Go.Am.Seat
open Go.Proofs
theorem bod25 : Try.f25.body = some (Try.f25.body.getD .skip) := rfl
theorem fn25 (L : Loops) (n : Int) (s : Me)  : FnL Try.prog L 25 [vI n] s fun r s' => (r = aggC ⟨1, .empty, n⟩) ∧ s' = s := by
  refine FnL.pure (R := fun r => r = aggC ⟨1, .empty, n⟩) ?_
  refine fn_of_bodyC (a := 2) (t := 42) tok Try.func25 bod25 rfl (by simp [Try.ntmps25]) fun D0 => ?_
  unfold Try.f25
  simp only [Option.getD_some, initSl]
  refine aw_region_seq C (pb := false) rfl fun K hK => ?_
  repeat' (first | refine wy0 (h := ?_) | fail)
  refine awOps_nil (hK _ _ ?_)
  clear hK K
  refine aw_region_seq C (pb := false) rfl fun K hK => ?_
  repeat' (first | refine wy0 (h := ?_) | refine wz0 (h := ?_) | fail)
  refine awOps_nil (hK _ _ ?_)
  clear hK K
  refine aw_ret ?_
  simp only [go_sem, ↓reduceIte, Nat.reduceEqDiff, reduceCtorEq, Nat.reduceAdd, Nat.reduceMul, Nat.reduceLeDiff, aLoad, aStore, FnQc]
  -- .ret
  refine ⟨_, _, aggC ⟨1, .empty, n⟩, rfl, ?_, fun _ => ⟨by first | rfl | trivial, fun i hi => (upd_ne _ _ (by omega)).trans (upd_ne _ _ (by omega)), by first | rfl | trivial, by first | rfl | trivial⟩⟩
  simp only [upd_same]
  rfl
end Go.Am.Seat
/-
  MADE BY PROGRAM (am.py): the walks of functions 11.
-/
namespace Go.Am.Seat
open Go.Proofs

def slB (out : List (Nat × List Cell)) (e : Int) : Sc := if e = 0 then .sl out.length ((out.map bndOf).flatMap encB) else .nilsl
theorem fnF (L : Loops) (l : List Cell) (id fz : Nat) (s : Me) (hid : s.ob id = .cs (celC l) fz) (hlt : id < s.nx) (hl : 0 < l.length ∧ l.length ≤ 1000000) : FnL Try.prog L 31 [.av (.own id 0 l.length 3)] s fun r s' => r = vC (fT l) ∧ s' = s := fn31 L l id fz s hid hlt hl
/-- Mgu at given terms. -/
theorem mguD (L : Loops) {a b : List Cell} {out : List (Nat × List Cell)} {e : Int} (s : Me) (h : mguR 100 (a ++ b) a.length = some (out, e)) (ha : rightOk a = true) (hb : rightOk b = true) (hne : e = 0 → out ≠ []) : FnL Try.prog L 13 [vC a, vC b] s fun r s' => r = .tup [.av (.sc (slB out e)), vI e] ∧ s' = s := by
  have ra := right_tm ha
  have rb := right_tm hb
  have a1 := ra.pos
  have a2 := ra.len
  have b1 := rb.pos
  have b2 := rb.len
  refine (fn13 L 100 a b out e s _ _ (gslC a) (gslC b) (by omega) (by omega) (tok_two ra rb) (by omega) h).mono fun r s' ⟨⟨y, h1, h2, h3⟩, h4⟩ => ⟨?_, h4⟩
  rw [h1]
  congr 3
  unfold slB
  split
  · rename_i h0
    rcases h2 with ⟨_, h2⟩ | h2
    · exact absurd (List.map_eq_nil_iff.1 h2) (hne h0)
    · rw [h2, List.length_map]
  · rename_i h0
    rw [h3.1 h0]
theorem matD (L : Loops) {a b : List Cell} {out : List (Int × List Cell)} (s : Me) (h : matR a b = some out) (ha : rightOk a = true) (hb : rightOk b = true) (hr : RightB out) : FnL Try.prog L 15 [vC a, vC b] s fun r s' => (∃ y, r = .tup [.av (.sc y), vB true] ∧ GSl encB y (out.map bndI)) ∧ s' = s := by
  have ra := right_tm ha
  have rb := right_tm hb
  have a2 := ra.len
  have b2 := rb.len
  refine (fn15 L a b _ s _ _ (gslC a) (gslC b) (by omega) rb.tok h fun o ho => by cases ho; exact hr).mono fun r s' ⟨⟨y, o, h1, h2, h3⟩, h4⟩ => ⟨⟨y, h1, ?_⟩, h4⟩
  rw [h3] at h2
  exact h2
theorem matN (L : Loops) {a b : List Cell} (s : Me) (h : matR a b = none) (ha : rightOk a = true) (hb : rightOk b = true) : FnL Try.prog L 15 [vC a, vC b] s fun r s' => (∃ y, r = .tup [.av (.sc y), vB false] ∧ GSl encB y []) ∧ s' = s := by
  have ra := right_tm ha
  have rb := right_tm hb
  have a2 := ra.len
  have b2 := rb.len
  refine (fn15 L a b _ s _ _ (gslC a) (gslC b) (by omega) rb.tok h fun o ho => by cases ho).mono fun r s' ⟨⟨y, o, h1, h2, h3⟩, h4⟩ => ⟨⟨y, h1, ?_⟩, h4⟩
  rw [h3] at h2
  exact h2
theorem pur2C {ob : Nat → Obj} {i : Nat} {a : List Cell} (hi : ob i = .cs (celC a) 0) : pur 3 ob (.own i 0 a.length 3) = some (.sl a.length (a.flatMap encC), upd ob i (.cs (celC a) (max 0 (0 + a.length * 3)))) := by
  have hl := celC_len (l := a)
  simp only [pur, hi]
  rw [if_pos (by omega), List.drop_zero, List.take_of_length_le (by omega), show purL (pur 2) _ (celC a) = _ from purL_plain (fun ob s => by simp [pur]) _ _]
  rfl
theorem pur2S {ob : Nat → Obj} {s : Sc} : pur 3 ob (.sc s) = some (s, ob) := by simp [pur]
theorem pur_bnd1 {ob : Nat → Obj} {k i : Nat} {a : List Cell} {n : Int} (hki : i ≠ k) (h : ob k = .cs [.sc (.int .i64 n), .own i 0 a.length 3] 0) (hi : ob i = .cs (celC a) 0) : purV ob (.av (.own k 0 1 2)) = some (.av (.sc (.sl 1 [.int .i64 n, .sl a.length (a.flatMap encC)])), upd (upd ob k (.cs [.sc (.int .i64 n), .own i 0 a.length 3] (max 0 (0 + 1 * 2)))) i (.cs (celC a) (max 0 (0 + a.length * 3)))) := by
  have e : purL (pur 3) (upd ob k (.cs [.sc (.int .i64 n), .own i 0 a.length 3] (max 0 (0 + 1 * 2)))) [.sc (.int .i64 n), .own i 0 a.length 3] = some ([.int .i64 n, .sl a.length (a.flatMap encC)], upd (upd ob k (.cs [.sc (.int .i64 n), .own i 0 a.length 3] (max 0 (0 + 1 * 2)))) i (.cs (celC a) (max 0 (0 + a.length * 3)))) := by
    simp only [purL, pur2S, Option.bind_some]
    rw [pur2C ((upd_ne _ _ hki).trans hi)]
    rfl
  simp only [purV, purD]
  rw [pur]
  simp only [h, List.length_cons, List.length_nil, List.drop_zero]
  rw [if_pos (by omega)]
  rw [show List.take (1 * 2) [Av.sc (.int .i64 n), Av.own i 0 a.length 3] = [Av.sc (.int .i64 n), Av.own i 0 a.length 3] from rfl, e]
  rfl
theorem pur_bnd2 {ob : Nat → Obj} {k i i2 : Nat} {a b : List Cell} {n m : Int} (hki : i ≠ k) (hki2 : i2 ≠ k) (hii : i2 ≠ i) (h : ob k = .cs [.sc (.int .i64 n), .own i 0 a.length 3, .sc (.int .i64 m), .own i2 0 b.length 3] 0) (hi : ob i = .cs (celC a) 0) (hi2 : ob i2 = .cs (celC b) 0) : purV ob (.av (.own k 0 2 2)) = some (.av (.sc (.sl 2 [.int .i64 n, .sl a.length (a.flatMap encC), .int .i64 m, .sl b.length (b.flatMap encC)])), upd (upd (upd ob k (.cs [.sc (.int .i64 n), .own i 0 a.length 3, .sc (.int .i64 m), .own i2 0 b.length 3] (max 0 (0 + 2 * 2)))) i (.cs (celC a) (max 0 (0 + a.length * 3)))) i2 (.cs (celC b) (max 0 (0 + b.length * 3)))) := by
  have e : purL (pur 3) (upd ob k (.cs [.sc (.int .i64 n), .own i 0 a.length 3, .sc (.int .i64 m), .own i2 0 b.length 3] (max 0 (0 + 2 * 2)))) [.sc (.int .i64 n), .own i 0 a.length 3, .sc (.int .i64 m), .own i2 0 b.length 3] = some ([.int .i64 n, .sl a.length (a.flatMap encC), .int .i64 m, .sl b.length (b.flatMap encC)], upd (upd (upd ob k (.cs [.sc (.int .i64 n), .own i 0 a.length 3, .sc (.int .i64 m), .own i2 0 b.length 3] (max 0 (0 + 2 * 2)))) i (.cs (celC a) (max 0 (0 + a.length * 3)))) i2 (.cs (celC b) (max 0 (0 + b.length * 3)))) := by
    simp only [purL, pur2S, Option.bind_some]
    rw [pur2C ((upd_ne _ _ hki).trans hi)]
    simp only [Option.bind_some]
    rw [pur2C ((upd_ne _ _ hii).trans ((upd_ne _ _ hki2).trans hi2))]
    rfl
  simp only [purV, purD]
  rw [pur]
  simp only [h, List.length_cons, List.length_nil, List.drop_zero]
  rw [if_pos (by omega)]
  rw [show List.take (2 * 2) [Av.sc (.int .i64 n), Av.own i 0 a.length 3, Av.sc (.int .i64 m), Av.own i2 0 b.length 3] = [Av.sc (.int .i64 n), Av.own i 0 a.length 3, Av.sc (.int .i64 m), Av.own i2 0 b.length 3] from rfl, e]
  rfl
theorem rb6 : RightB [(0, [cV 1]), (1, [cV 0])] := by
  refine ⟨fun b hb => ?_, by simp⟩
  simp only [List.mem_cons, List.not_mem_nil, or_false] at hb
  rcases hb with rfl | rfl <;> refine ⟨by decide, by decide, by decide, by decide, fun c hc => ?_, by decide, fun h hh => by have := hh.2.2; simp [cV] at this⟩ <;> (simp only [List.mem_cons, List.not_mem_nil, or_false] at hc; subst hc; kernel_rfl)
theorem rb8 : RightB [] := ⟨fun b hb => by simp at hb, by simp⟩
theorem ldB3 {ob : Nat → Obj} {id : Nat} {a b c : Sc} {fz : Nat} (h : ob id = .cs [.sc a, .sc b, .sc c] fz) : (aLoad T ob 42 (.av (.ptr id 0))).map (fun r => (r, ob)) = some (.agg [.sc a, .sc b, .sc c], ob) := by
  rw [ldA h]
  simp only [T42, Option.bind_some, y42]
  rw [if_pos (by simp)]
  rfl
theorem slB_g (out : List (Nat × List Cell)) : GSl encB (slB out 0) ((out.map toI).map bndI) := .inr (by simp only [slB, if_pos, List.length_map, ← map_bndOf])
theorem varT (L : Loops) (s : Me) : FnL Try.prog L 18 [vC (fT [cV 7, cV 2]), vC (fT [cV 0, cV 7])] s fun r s' => r = vB true ∧ s' = s :=
  (fn18 L (fT [cV 7, cV 2]) (fT [cV 0, cV 7]) s _ _ (gslC _) (gslC _) (by decide) (by decide)).mono fun r s' h => ⟨h.1.trans (congrArg vB tl9), h.2⟩
theorem varF (L : Loops) (s : Me) : FnL Try.prog L 18 [vC (fT [cV 0, cV 0]), vC (fT [cV 0, cV 1])] s fun r s' => r = vB false ∧ s' = s :=
  (fn18 L (fT [cV 0, cV 0]) (fT [cV 0, cV 1]) s _ _ (gslC _) (gslC _) (by decide) (by decide)).mono fun r s' h => ⟨h.1.trans (congrArg vB tl10), h.2⟩
structure HD (s s1 : Me) : Prop where
  kp : Kp s s1
  b : s1.ob (s.nx + 3) = .cs [.sc (.int .i64 3), .sc (.str ⟨#[98]⟩), .sc (.int .i64 0)] 0
  c : s1.ob (s.nx + 4) = .cs [.sc (.int .i64 3), .sc (.str ⟨#[99]⟩), .sc (.int .i64 0)] 0
  hi : s.nx + 4 < s1.nx
theorem HD.frame {s s1 : Me} (h : HD s s1) {ob' : Nat → Obj} {m : Nat} (hm : s1.nx ≤ m) (ho : ∀ j, j < s1.nx → ob' j = s1.ob j) : HD s ⟨ob', m, s1.ls⟩ :=
  ⟨⟨Nat.le_trans h.kp.1 hm, fun j hj => (ho j (Nat.lt_of_lt_of_le hj h.kp.1)).trans (h.kp.2.1 j hj), h.kp.2.2⟩, (ho _ (by have := h.hi; omega)).trans h.b, (ho _ h.hi).trans h.c, Nat.lt_of_lt_of_le h.hi hm⟩

-- many steps
theorem bod11 : Try.f11.body = some (Try.f11.body.getD .skip) := rfl
set_option maxHeartbeats 4000000 in
set_option maxRecDepth 20000 in
theorem fn11 (L : Loops)  (s : Me)  : FnL Try.prog L 11 [] s fun r s' => (r = vB true) ∧ s' = s := by
  refine FnL.pure (R := fun r => r = vB true) ?_
  refine fn_of_body (ts := [0]) Try.func11 bod11 rfl (by simp) (by simp [Try.ntmps11]) fun D0 => ?_
  unfold Try.f11
  simp only [Option.getD_some, initSl]
  refine aw_region_seq C (pb := false) rfl fun K hK => ?_
  repeat' (first | refine wy0 (h := ?_) | fail)
  refine awOps_nil (hK _ _ ?_)
  clear hK K
  refine aw_region_seq C (pb := false) rfl fun K hK => ?_
  repeat' (first | refine wy1 (a := by simp (disch := omega) only [go_sem, ↓reduceIte, Nat.reduceEqDiff, reduceCtorEq, Nat.reduceAdd, Nat.reduceMul, Nat.reduceLeDiff, aLoad, aStore, upd_ne, upd_same, storeL, zeroA]; exact rfl) (h := ?_) | refine wz1 (a := by simp (disch := omega) only [go_sem, ↓reduceIte, Nat.reduceEqDiff, reduceCtorEq, Nat.reduceAdd, Nat.reduceMul, Nat.reduceLeDiff, aLoad, aStore, upd_ne, upd_same, storeL, zeroA]; exact rfl) (h := ?_) | fail)
  refine awOps_nil (hK _ _ ?_)
  refine AW.less (sl' := [(1, .av (.ptr (s.nx + 3) 0)), (2, .av (.ptr (s.nx + 4) 0))]) (AllIn.less ⟨rfl, rfl, trivial⟩) ?_
  refine aw_state (J := fun s2 => HD s s2) ⟨⟨(by first | omega | (dsimp only; omega) | (dsimp only at *; omega)), fun j hj => (upd_ne _ _ (by omega)).trans ((upd_ne _ _ (by omega)).trans ((upd_ne _ _ (by omega)).trans (upd_ne _ _ (by omega)))), rfl⟩, (upd_ne _ _ (by omega)).trans (upd_same _ _ _), upd_same _ _ _, (by first | omega | (dsimp only; omega) | (dsimp only at *; omega))⟩ fun s2 h2 => ?_
  clear hK K
  obtain ⟨o2, ho2⟩ : ∃ o, o = upd (upd s2.ob (s2.nx + 2) (.cs (celC [cV 0, cB]) 0)) (s2.nx + 6) (.cs (celC [cC, cV 1]) 0) := ⟨_, rfl⟩
  have ha2 : o2 (s2.nx + 2) = .cs (celC [cV 0, cB]) 0 := by rw [ho2, upd_ne _ _ (by omega), upd_same]
  have hd2 : o2 (s2.nx + 6) = .cs (celC [cC, cV 1]) 0 := by rw [ho2, upd_same]
  have hf2 : ∀ j, j < s2.nx → o2 j = s2.ob j := fun j hj => by rw [ho2, upd_ne _ _ (by omega), upd_ne _ _ (by omega)]
  have hbo2 := (hf2 _ (by have := h2.hi; omega)).trans h2.b
  have hco2 := (hf2 _ h2.hi).trans h2.c
  refine aw_dra_seq C (pb := false) 14 [] [o2] rfl (by kernel_rfl) (by kernel_rfl) rfl (fun j hj => hf2 j hj) fun K hK => ?_
  refine dra_callsil [0] (by rfl) (by rfl) (by rfl) (by rfl) (by kernel_rfl) ⟨And.intro Try.call25 (fn25 L 0 _), trivial⟩ ?_
  (first | refine dra_yes [0] (by rfl) (by rfl) (by rfl) (by rfl) (by kernel_rfl) ⟨⟨_, by simp  only [go_sem, ↓reduceIte, Nat.reduceEqDiff, reduceCtorEq, Nat.reduceAdd, Nat.reduceMul, Nat.reduceLeDiff, aLoad, aStore, osL_0, osL_1, osL_2, osL_3, osL_4, osL_5, osL_6, hbo2, hco2]; (try exact rfl), fun _ => rfl⟩, trivial⟩ ?_ | refine dra_no (by rfl) (by rfl) (by rfl) ?_)
  refine dra_yes [0] (by rfl) (by rfl) (by rfl) (by rfl) (by kernel_rfl) ⟨⟨_, (by simp only [go_sem, ↓reduceIte, Nat.reduceEqDiff, reduceCtorEq, Nat.reduceAdd, Nat.reduceMul, Nat.reduceLeDiff, aLoad, aStore, osL_0, osL_1, osL_2, osL_3, osL_4, osL_5, osL_6, hbo2, hco2]; try exact rfl), fun j => upd_self ha2 j⟩, trivial⟩ ?_
  refine dra_callsil [0] (by rfl) (by rfl) (by rfl) (by rfl) (by kernel_rfl) ⟨And.intro Try.call31 (fnF L [cV 0, cB] _ 0 _ ha2 (by first | omega | (dsimp only; omega) | (dsimp only at *; omega)) (by decide)), trivial⟩ ?_
  (first | refine dra_yes [0] (by rfl) (by rfl) (by rfl) (by rfl) (by kernel_rfl) ⟨⟨_, by simp  only [go_sem, ↓reduceIte, Nat.reduceEqDiff, reduceCtorEq, Nat.reduceAdd, Nat.reduceMul, Nat.reduceLeDiff, aLoad, aStore, osL_0, osL_1, osL_2, osL_3, osL_4, osL_5, osL_6, hbo2, hco2]; (try exact rfl), fun _ => rfl⟩, trivial⟩ ?_ | refine dra_no (by rfl) (by rfl) (by rfl) ?_)
  refine dra_callsil [0] (by rfl) (by rfl) (by rfl) (by rfl) (by kernel_rfl) ⟨And.intro Try.call25 (fn25 L 1 _), trivial⟩ ?_
  refine dra_yes [0] (by rfl) (by rfl) (by rfl) (by rfl) (by kernel_rfl) ⟨⟨_, (by simp only [go_sem, ↓reduceIte, Nat.reduceEqDiff, reduceCtorEq, Nat.reduceAdd, Nat.reduceMul, Nat.reduceLeDiff, aLoad, aStore, osL_0, osL_1, osL_2, osL_3, osL_4, osL_5, osL_6, hbo2, hco2]; try exact rfl), fun j => upd_self hd2 j⟩, trivial⟩ ?_
  refine dra_callsil [0] (by rfl) (by rfl) (by rfl) (by rfl) (by kernel_rfl) ⟨And.intro Try.call31 (fnF L [cC, cV 1] _ 0 _ hd2 (by first | omega | (dsimp only; omega) | (dsimp only at *; omega)) (by decide)), trivial⟩ ?_
  refine dra_callsil [0] (by rfl) (by rfl) (by rfl) (by rfl) (by kernel_rfl) ⟨And.intro Try.call13 (mguD L (a := fT [cV 0, cB]) (b := fT [cC, cV 1]) _ tl1 (by kernel_rfl) (by kernel_rfl) (by decide)), trivial⟩ ?_
  iterate 5 (first | refine dra_yes [0] (by rfl) (by rfl) (by rfl) (by rfl) (by kernel_rfl) ⟨⟨_, by simp  only [go_sem, ↓reduceIte, Nat.reduceEqDiff, reduceCtorEq, Nat.reduceAdd, Nat.reduceMul, Nat.reduceLeDiff, aLoad, aStore, osL_0, osL_1, osL_2, osL_3, osL_4, osL_5, osL_6, hbo2, hco2]; (try exact rfl), fun _ => rfl⟩, trivial⟩ ?_ | refine dra_no (by rfl) (by rfl) (by rfl) ?_)
  refine dra_nil (hK _ ?_)
  simp only [osL_0, osL_1, osL_2, osL_3, osL_4, osL_5, osL_6, List.length_cons, List.length_nil, Nat.reduceAdd]
  refine AW.less (sl' := [(1, .av (.ptr (s.nx + 3) 0)), (2, .av (.ptr (s.nx + 4) 0)), (3, .av (.sc (slB [(0, [cC]), (1, [cB])] 0))), (4, vI 0)]) (AllIn.less ⟨rfl, rfl, rfl, rfl, trivial⟩) ?_
  refine aw_state (J := fun s' => HD s s') (h2.frame (by first | omega | (dsimp only; omega) | (dsimp only at *; omega)) fun j hj => hf2 j hj) fun s3 h3 => ?_
  clear hK K
  refine aw_region_seq C (pb := false) rfl fun K hK => ?_
  (refine wc (And.intro Try.call25 (fn25 L 1 _)) ?_; rintro _ _ ⟨rfl, rfl⟩)
  (refine wc (And.intro Try.call25 (fn25 L 0 _)) ?_; rintro _ _ ⟨rfl, rfl⟩)
  repeat' (first | refine wy1 (a := by simp only [go_sem, ↓reduceIte, Nat.reduceEqDiff, reduceCtorEq, Nat.reduceAdd, Nat.reduceMul, Nat.reduceLeDiff, aLoad, aStore, h3.b, h3.c]; exact rfl) (h := ?_) | fail)
  (refine wc (And.intro Try.call31 (fnF L [cV 1, cV 0] _ 0 _ (upd_same _ _ _) (by first | omega | (dsimp only; omega) | (dsimp only at *; omega)) (by decide))) ?_; rintro _ _ ⟨rfl, rfl⟩)
  (refine wc (And.intro Try.call25 (fn25 L 0 _)) ?_; rintro _ _ ⟨rfl, rfl⟩)
  (refine wc (And.intro Try.call25 (fn25 L 1 _)) ?_; rintro _ _ ⟨rfl, rfl⟩)
  repeat' (first | refine wy1 (a := by simp only [go_sem, ↓reduceIte, Nat.reduceEqDiff, reduceCtorEq, Nat.reduceAdd, Nat.reduceMul, Nat.reduceLeDiff, aLoad, aStore, h3.b, h3.c]; exact rfl) (h := ?_) | fail)
  (refine wc (And.intro Try.call31 (fnF L [cV 0, cV 1] _ 0 _ (upd_same _ _ _) (by first | omega | (dsimp only; omega) | (dsimp only at *; omega)) (by decide))) ?_; rintro _ _ ⟨rfl, rfl⟩)
  (refine wc (And.intro Try.call13 (mguD L (a := fT [cV 1, cV 0]) (b := fT [cV 0, cV 1]) _ tl2 (by kernel_rfl) (by kernel_rfl) (by decide))) ?_; rintro _ _ ⟨rfl, rfl⟩)
  repeat' (first | refine wy1 (a := by simp only [go_sem, ↓reduceIte, Nat.reduceEqDiff, reduceCtorEq, Nat.reduceAdd, Nat.reduceMul, Nat.reduceLeDiff, aLoad, aStore, h3.b, h3.c]; exact rfl) (h := ?_) | fail)
  refine awOps_nil (hK _ _ ?_)
  refine AW.less (sl' := [(1, .av (.ptr (s.nx + 3) 0)), (2, .av (.ptr (s.nx + 4) 0)), (3, .av (.sc (slB [(0, [cC]), (1, [cB])] 0))), (4, vI 0), (5, .av (.sc (slB [(1, [cV 0])] 0))), (6, vI 0)]) (AllIn.less ⟨rfl, rfl, rfl, rfl, rfl, rfl, trivial⟩) ?_
  refine aw_state (J := fun s' => HD s s') (h3.frame (by first | omega | (dsimp only; omega) | (dsimp only at *; omega)) fun j hj => ((upd_ne _ _ (by omega)).trans (upd_ne _ _ (by omega)))) fun s4 h4 => ?_
  clear hK K
  refine aw_region_seq C (pb := false) rfl fun K hK => ?_
  (refine wc (And.intro Try.call25 (fn25 L 0 _)) ?_; rintro _ _ ⟨rfl, rfl⟩)
  repeat' (first | refine wy1 (a := by simp only [go_sem, ↓reduceIte, Nat.reduceEqDiff, reduceCtorEq, Nat.reduceAdd, Nat.reduceMul, Nat.reduceLeDiff, aLoad, aStore, h4.b, h4.c]; exact rfl) (h := ?_) | fail)
  (refine wc (And.intro Try.call25 (fn25 L 0 _)) ?_; rintro _ _ ⟨rfl, rfl⟩)
  repeat' (first | refine wy1 (a := by simp only [go_sem, ↓reduceIte, Nat.reduceEqDiff, reduceCtorEq, Nat.reduceAdd, Nat.reduceMul, Nat.reduceLeDiff, aLoad, aStore, h4.b, h4.c]; exact rfl) (h := ?_) | fail)
  (refine wc (And.intro Try.call31 (fnF L [cV 0] _ 0 _ (upd_same _ _ _) (by first | omega | (dsimp only; omega) | (dsimp only at *; omega)) (by decide))) ?_; rintro _ _ ⟨rfl, rfl⟩)
  refine wc (And.intro Try.call13 (FnL.pur (PurArgs.pur (celC_pure (l := [cV 0]) ((upd_ne _ _ (by omega)).trans (upd_same _ _ _))) (PurArgs.keep PurArgs.nil)) (mguD L _ tl3 (by kernel_rfl) (by kernel_rfl) (by decide)))) ?_
  rintro _ _ ⟨rfl, rfl⟩
  repeat' (first | refine wy1 (a := by simp only [go_sem, ↓reduceIte, Nat.reduceEqDiff, reduceCtorEq, Nat.reduceAdd, Nat.reduceMul, Nat.reduceLeDiff, aLoad, aStore, h4.b, h4.c]; exact rfl) (h := ?_) | fail)
  refine awOps_nil (hK _ _ ?_)
  refine AW.less (sl' := [(1, .av (.ptr (s.nx + 3) 0)), (2, .av (.ptr (s.nx + 4) 0)), (3, .av (.sc (slB [(0, [cC]), (1, [cB])] 0))), (4, vI 0), (5, .av (.sc (slB [(1, [cV 0])] 0))), (6, vI 0), (8, vI 3)]) (AllIn.less ⟨rfl, rfl, rfl, rfl, rfl, rfl, rfl, trivial⟩) ?_
  refine aw_state (J := fun s' => HD s s') (h4.frame (by first | omega | (dsimp only; omega) | (dsimp only at *; omega)) fun j hj => ((upd_ne _ _ (by omega)).trans ((upd_ne _ _ (by omega)).trans (upd_ne _ _ (by omega))))) fun s5 h5 => ?_
  clear hK K
  obtain ⟨o5, ho5⟩ : ∃ o, o = upd (upd s5.ob (s5.nx + 1) (.cs (celC [cB]) 0)) (s5.nx + 4) (.cs (celC [cC]) 0) := ⟨_, rfl⟩
  have ha5 : o5 (s5.nx + 1) = .cs (celC [cB]) 0 := by rw [ho5, upd_ne _ _ (by omega), upd_same]
  have hd5 : o5 (s5.nx + 4) = .cs (celC [cC]) 0 := by rw [ho5, upd_same]
  have hf5 : ∀ j, j < s5.nx → o5 j = s5.ob j := fun j hj => by rw [ho5, upd_ne _ _ (by omega), upd_ne _ _ (by omega)]
  have hbo5 := (hf5 _ (by have := h5.hi; omega)).trans h5.b
  have hco5 := (hf5 _ h5.hi).trans h5.c
  refine aw_dra_seq C (pb := false) 12 [] [o5] rfl (by kernel_rfl) (by kernel_rfl) rfl (fun j hj => hf5 j hj) fun K hK => ?_
  (first | refine dra_yes [0] (by rfl) (by rfl) (by rfl) (by rfl) (by kernel_rfl) ⟨⟨_, by simp  only [go_sem, ↓reduceIte, Nat.reduceEqDiff, reduceCtorEq, Nat.reduceAdd, Nat.reduceMul, Nat.reduceLeDiff, aLoad, aStore, osL_0, osL_1, osL_2, osL_3, osL_4, osL_5, osL_6, hbo5, hco5]; (try exact rfl), fun _ => rfl⟩, trivial⟩ ?_ | refine dra_no (by rfl) (by rfl) (by rfl) ?_)
  refine dra_yes [0] (by rfl) (by rfl) (by rfl) (by rfl) (by kernel_rfl) ⟨⟨_, (by simp only [go_sem, ↓reduceIte, Nat.reduceEqDiff, reduceCtorEq, Nat.reduceAdd, Nat.reduceMul, Nat.reduceLeDiff, aLoad, aStore, osL_0, osL_1, osL_2, osL_3, osL_4, osL_5, osL_6, hbo5, hco5]; try exact rfl), fun j => upd_self ha5 j⟩, trivial⟩ ?_
  refine dra_callsil [0] (by rfl) (by rfl) (by rfl) (by rfl) (by kernel_rfl) ⟨And.intro Try.call31 (fnF L [cB] _ 0 _ ha5 (by first | omega | (dsimp only; omega) | (dsimp only at *; omega)) (by decide)), trivial⟩ ?_
  (first | refine dra_yes [0] (by rfl) (by rfl) (by rfl) (by rfl) (by kernel_rfl) ⟨⟨_, by simp  only [go_sem, ↓reduceIte, Nat.reduceEqDiff, reduceCtorEq, Nat.reduceAdd, Nat.reduceMul, Nat.reduceLeDiff, aLoad, aStore, osL_0, osL_1, osL_2, osL_3, osL_4, osL_5, osL_6, hbo5, hco5]; (try exact rfl), fun _ => rfl⟩, trivial⟩ ?_ | refine dra_no (by rfl) (by rfl) (by rfl) ?_)
  refine dra_yes [0] (by rfl) (by rfl) (by rfl) (by rfl) (by kernel_rfl) ⟨⟨_, (by simp only [go_sem, ↓reduceIte, Nat.reduceEqDiff, reduceCtorEq, Nat.reduceAdd, Nat.reduceMul, Nat.reduceLeDiff, aLoad, aStore, osL_0, osL_1, osL_2, osL_3, osL_4, osL_5, osL_6, hbo5, hco5]; try exact rfl), fun j => upd_self hd5 j⟩, trivial⟩ ?_
  refine dra_callsil [0] (by rfl) (by rfl) (by rfl) (by rfl) (by kernel_rfl) ⟨And.intro Try.call31 (fnF L [cC] _ 0 _ hd5 (by first | omega | (dsimp only; omega) | (dsimp only at *; omega)) (by decide)), trivial⟩ ?_
  refine dra_callsil [0] (by rfl) (by rfl) (by rfl) (by rfl) (by kernel_rfl) ⟨And.intro Try.call13 (mguD L (a := fT [cB]) (b := fT [cC]) _ tl4 (by kernel_rfl) (by kernel_rfl) (by decide)), trivial⟩ ?_
  iterate 5 (first | refine dra_yes [0] (by rfl) (by rfl) (by rfl) (by rfl) (by kernel_rfl) ⟨⟨_, by simp  only [go_sem, ↓reduceIte, Nat.reduceEqDiff, reduceCtorEq, Nat.reduceAdd, Nat.reduceMul, Nat.reduceLeDiff, aLoad, aStore, osL_0, osL_1, osL_2, osL_3, osL_4, osL_5, osL_6, hbo5, hco5]; (try exact rfl), fun _ => rfl⟩, trivial⟩ ?_ | refine dra_no (by rfl) (by rfl) (by rfl) ?_)
  refine dra_nil (hK _ ?_)
  simp only [osL_0, osL_1, osL_2, osL_3, osL_4, osL_5, osL_6, List.length_cons, List.length_nil, Nat.reduceAdd]
  refine AW.less (sl' := [(1, .av (.ptr (s.nx + 3) 0)), (2, .av (.ptr (s.nx + 4) 0)), (3, .av (.sc (slB [(0, [cC]), (1, [cB])] 0))), (4, vI 0), (5, .av (.sc (slB [(1, [cV 0])] 0))), (6, vI 0), (8, vI 3), (10, vI 3)]) (AllIn.less ⟨rfl, rfl, rfl, rfl, rfl, rfl, rfl, rfl, trivial⟩) ?_
  refine aw_state (J := fun s' => HD s s') (h5.frame (by first | omega | (dsimp only; omega) | (dsimp only at *; omega)) fun j hj => hf5 j hj) fun s6 h6 => ?_
  clear hK K
  refine aw_region_seq C (pb := false) rfl fun K hK => ?_
  repeat' (first | refine wy1 (a := by simp only [go_sem, ↓reduceIte, Nat.reduceEqDiff, reduceCtorEq, Nat.reduceAdd, Nat.reduceMul, Nat.reduceLeDiff, aLoad, aStore, h6.b, h6.c]; exact rfl) (h := ?_) | fail)
  (refine wc (And.intro Try.call31 (fnF L [cN 1] _ 0 _ (upd_same _ _ _) (by first | omega | (dsimp only; omega) | (dsimp only at *; omega)) (by decide))) ?_; rintro _ _ ⟨rfl, rfl⟩)
  repeat' (first | refine wy1 (a := by simp only [go_sem, ↓reduceIte, Nat.reduceEqDiff, reduceCtorEq, Nat.reduceAdd, Nat.reduceMul, Nat.reduceLeDiff, aLoad, aStore, h6.b, h6.c]; exact rfl) (h := ?_) | fail)
  (refine wc (And.intro Try.call31 (fnF L [cN 2] _ 0 _ (upd_same _ _ _) (by first | omega | (dsimp only; omega) | (dsimp only at *; omega)) (by decide))) ?_; rintro _ _ ⟨rfl, rfl⟩)
  (refine wc (And.intro Try.call13 (mguD L (a := fT [cN 1]) (b := fT [cN 2]) _ tl5 (by kernel_rfl) (by kernel_rfl) (by decide))) ?_; rintro _ _ ⟨rfl, rfl⟩)
  repeat' (first | refine wy1 (a := by simp only [go_sem, ↓reduceIte, Nat.reduceEqDiff, reduceCtorEq, Nat.reduceAdd, Nat.reduceMul, Nat.reduceLeDiff, aLoad, aStore, h6.b, h6.c]; exact rfl) (h := ?_) | fail)
  refine awOps_nil (hK _ _ ?_)
  refine AW.less (sl' := [(1, .av (.ptr (s.nx + 3) 0)), (2, .av (.ptr (s.nx + 4) 0)), (3, .av (.sc (slB [(0, [cC]), (1, [cB])] 0))), (4, vI 0), (5, .av (.sc (slB [(1, [cV 0])] 0))), (6, vI 0), (8, vI 3), (10, vI 3), (12, vI 3)]) (AllIn.less ⟨rfl, rfl, rfl, rfl, rfl, rfl, rfl, rfl, rfl, trivial⟩) ?_
  refine aw_state (J := fun s' => HD s s') (h6.frame (by first | omega | (dsimp only; omega) | (dsimp only at *; omega)) fun j hj => ((upd_ne _ _ (by omega)).trans (upd_ne _ _ (by omega)))) fun s7 h7 => ?_
  clear hK K
  refine aw_region_seq C (pb := false) rfl fun K hK => ?_
  (refine wc (And.intro Try.call25 (fn25 L 0 _)) ?_; rintro _ _ ⟨rfl, rfl⟩)
  (refine wc (And.intro Try.call25 (fn25 L 1 _)) ?_; rintro _ _ ⟨rfl, rfl⟩)
  repeat' (first | refine wy1 (a := by simp only [go_sem, ↓reduceIte, Nat.reduceEqDiff, reduceCtorEq, Nat.reduceAdd, Nat.reduceMul, Nat.reduceLeDiff, aLoad, aStore, h7.b, h7.c]; exact rfl) (h := ?_) | fail)
  (refine wc (And.intro Try.call31 (fnF L [cV 0, cV 1] _ 0 _ (upd_same _ _ _) (by first | omega | (dsimp only; omega) | (dsimp only at *; omega)) (by decide))) ?_; rintro _ _ ⟨rfl, rfl⟩)
  (refine wc (And.intro Try.call25 (fn25 L 1 _)) ?_; rintro _ _ ⟨rfl, rfl⟩)
  (refine wc (And.intro Try.call25 (fn25 L 0 _)) ?_; rintro _ _ ⟨rfl, rfl⟩)
  repeat' (first | refine wy1 (a := by simp only [go_sem, ↓reduceIte, Nat.reduceEqDiff, reduceCtorEq, Nat.reduceAdd, Nat.reduceMul, Nat.reduceLeDiff, aLoad, aStore, h7.b, h7.c]; exact rfl) (h := ?_) | fail)
  (refine wc (And.intro Try.call31 (fnF L [cV 1, cV 0] _ 0 _ (upd_same _ _ _) (by first | omega | (dsimp only; omega) | (dsimp only at *; omega)) (by decide))) ?_; rintro _ _ ⟨rfl, rfl⟩)
  refine wc (And.intro Try.call15 (matD L (a := fT [cV 0, cV 1]) (b := fT [cV 1, cV 0]) _ tl6 (by kernel_rfl) (by kernel_rfl) rb6)) ?_
  rintro _ _ ⟨⟨y7, rfl, hy7⟩, rfl⟩
  repeat' (first | refine wy1 (a := by simp only [go_sem, ↓reduceIte, Nat.reduceEqDiff, reduceCtorEq, Nat.reduceAdd, Nat.reduceMul, Nat.reduceLeDiff, aLoad, aStore, h7.b, h7.c]; exact rfl) (h := ?_) | fail)
  refine awOps_nil (hK _ _ ?_)
  refine AW.less (sl' := [(1, .av (.ptr (s.nx + 3) 0)), (2, .av (.ptr (s.nx + 4) 0)), (3, .av (.sc (slB [(0, [cC]), (1, [cB])] 0))), (4, vI 0), (5, .av (.sc (slB [(1, [cV 0])] 0))), (6, vI 0), (8, vI 3), (10, vI 3), (12, vI 3), (13, .av (.sc y7)), (14, vB true)]) (AllIn.less ⟨rfl, rfl, rfl, rfl, rfl, rfl, rfl, rfl, rfl, rfl, rfl, trivial⟩) ?_
  refine aw_state (J := fun s' => HD s s') (h7.frame (by first | omega | (dsimp only; omega) | (dsimp only at *; omega)) fun j hj => ((upd_ne _ _ (by omega)).trans (upd_ne _ _ (by omega)))) fun s8 h8 => ?_
  clear hK K
  refine aw_region_seq C (pb := false) rfl fun K hK => ?_
  repeat' (first | refine wy1 (a := by simp only [go_sem, ↓reduceIte, Nat.reduceEqDiff, reduceCtorEq, Nat.reduceAdd, Nat.reduceMul, Nat.reduceLeDiff, aLoad, aStore, h8.b, h8.c]; exact rfl) (h := ?_) | fail)
  (refine wc (And.intro Try.call31 (fnF L [cB] _ 0 _ (upd_same _ _ _) (by first | omega | (dsimp only; omega) | (dsimp only at *; omega)) (by decide))) ?_; rintro _ _ ⟨rfl, rfl⟩)
  (refine wc (And.intro Try.call25 (fn25 L 0 _)) ?_; rintro _ _ ⟨rfl, rfl⟩)
  repeat' (first | refine wy1 (a := by simp only [go_sem, ↓reduceIte, Nat.reduceEqDiff, reduceCtorEq, Nat.reduceAdd, Nat.reduceMul, Nat.reduceLeDiff, aLoad, aStore, h8.b, h8.c]; exact rfl) (h := ?_) | fail)
  (refine wc (And.intro Try.call31 (fnF L [cV 0] _ 0 _ (upd_same _ _ _) (by first | omega | (dsimp only; omega) | (dsimp only at *; omega)) (by decide))) ?_; rintro _ _ ⟨rfl, rfl⟩)
  refine wc (And.intro Try.call15 (matN L (a := fT [cB]) (b := fT [cV 0]) _ tl7 (by kernel_rfl) (by kernel_rfl))) ?_
  rintro _ _ ⟨⟨y8, rfl, hy8⟩, rfl⟩
  repeat' (first | refine wy1 (a := by simp only [go_sem, ↓reduceIte, Nat.reduceEqDiff, reduceCtorEq, Nat.reduceAdd, Nat.reduceMul, Nat.reduceLeDiff, aLoad, aStore, h8.b, h8.c]; exact rfl) (h := ?_) | fail)
  refine awOps_nil (hK _ _ ?_)
  refine AW.less (sl' := [(1, .av (.ptr (s.nx + 3) 0)), (2, .av (.ptr (s.nx + 4) 0)), (3, .av (.sc (slB [(0, [cC]), (1, [cB])] 0))), (4, vI 0), (5, .av (.sc (slB [(1, [cV 0])] 0))), (6, vI 0), (8, vI 3), (10, vI 3), (12, vI 3), (13, .av (.sc y7)), (14, vB true), (16, vB false)]) (AllIn.less ⟨rfl, rfl, rfl, rfl, rfl, rfl, rfl, rfl, rfl, rfl, rfl, rfl, trivial⟩) ?_
  refine aw_state (J := fun s' => HD s s') (h8.frame (by first | omega | (dsimp only; omega) | (dsimp only at *; omega)) fun j hj => ((upd_ne _ _ (by omega)).trans (upd_ne _ _ (by omega)))) fun s9 h9 => ?_
  clear hK K
  refine aw_region_seq C (pb := false) rfl fun K hK => ?_
  (refine wc (And.intro Try.call25 (fn25 L 0 _)) ?_; rintro _ _ ⟨rfl, rfl⟩)
  (refine wc (And.intro Try.call25 (fn25 L 0 _)) ?_; rintro _ _ ⟨rfl, rfl⟩)
  repeat' (first | refine wy1 (a := by simp only [go_sem, ↓reduceIte, Nat.reduceEqDiff, reduceCtorEq, Nat.reduceAdd, Nat.reduceMul, Nat.reduceLeDiff, aLoad, aStore, h9.b, h9.c]; exact rfl) (h := ?_) | fail)
  (refine wc (And.intro Try.call31 (fnF L [cV 0, cV 0] _ 0 _ (upd_same _ _ _) (by first | omega | (dsimp only; omega) | (dsimp only at *; omega)) (by decide))) ?_; rintro _ _ ⟨rfl, rfl⟩)
  (refine wc (And.intro Try.call25 (fn25 L 0 _)) ?_; rintro _ _ ⟨rfl, rfl⟩)
  (refine wc (And.intro Try.call25 (fn25 L 0 _)) ?_; rintro _ _ ⟨rfl, rfl⟩)
  repeat' (first | refine wy1 (a := by simp only [go_sem, ↓reduceIte, Nat.reduceEqDiff, reduceCtorEq, Nat.reduceAdd, Nat.reduceMul, Nat.reduceLeDiff, aLoad, aStore, h9.b, h9.c]; exact rfl) (h := ?_) | fail)
  (refine wc (And.intro Try.call31 (fnF L [cV 0, cV 0] _ 0 _ (upd_same _ _ _) (by first | omega | (dsimp only; omega) | (dsimp only at *; omega)) (by decide))) ?_; rintro _ _ ⟨rfl, rfl⟩)
  refine wc (And.intro Try.call15 (matD L (a := fT [cV 0, cV 0]) (b := fT [cV 0, cV 0]) _ tl8 (by kernel_rfl) (by kernel_rfl) rb8)) ?_
  rintro _ _ ⟨⟨y9, rfl, hy9⟩, rfl⟩
  repeat' (first | refine wy1 (a := by simp only [go_sem, ↓reduceIte, Nat.reduceEqDiff, reduceCtorEq, Nat.reduceAdd, Nat.reduceMul, Nat.reduceLeDiff, aLoad, aStore, h9.b, h9.c]; exact rfl) (h := ?_) | fail)
  refine awOps_nil (hK _ _ ?_)
  refine AW.less (sl' := [(1, .av (.ptr (s.nx + 3) 0)), (2, .av (.ptr (s.nx + 4) 0)), (3, .av (.sc (slB [(0, [cC]), (1, [cB])] 0))), (4, vI 0), (5, .av (.sc (slB [(1, [cV 0])] 0))), (6, vI 0), (8, vI 3), (10, vI 3), (12, vI 3), (13, .av (.sc y7)), (14, vB true), (16, vB false), (17, .av (.sc y9)), (18, vB true)]) (AllIn.less ⟨rfl, rfl, rfl, rfl, rfl, rfl, rfl, rfl, rfl, rfl, rfl, rfl, rfl, rfl, trivial⟩) ?_
  refine aw_state (J := fun s' => HD s s') (h9.frame (by first | omega | (dsimp only; omega) | (dsimp only at *; omega)) fun j hj => ((upd_ne _ _ (by omega)).trans (upd_ne _ _ (by omega)))) fun s10 h10 => ?_
  clear hK K
  refine aw_seq ?_
  have hi10 := h10.hi
  refine aw_region_seq C (pb := false) rfl fun K hK => ?_
  repeat' (first | refine wy1 (a := by simp only [go_sem, ↓reduceIte, Nat.reduceEqDiff, reduceCtorEq, Nat.reduceAdd, Nat.reduceMul, Nat.reduceLeDiff, aLoad, aStore, h10.b, h10.c]; exact rfl) (h := ?_) | fail)
  refine wy2 ((show aop C false _ _ _ _ = (aLoad T _ 42 (.av (.ptr (s.nx + 3) 0))).map _ from rfl).trans (ldB3 ((upd_ne _ _ (by omega)).trans h10.b))) ?_
  repeat' (first | refine wy1 (a := by simp only [go_sem, ↓reduceIte, Nat.reduceEqDiff, reduceCtorEq, Nat.reduceAdd, Nat.reduceMul, Nat.reduceLeDiff, aLoad, aStore, h10.b, h10.c]; exact rfl) (h := ?_) | fail)
  refine wc (And.intro Try.call17 (FnL.pur (PurArgs.keep (PurArgs.pur (pur_bnd2 (a := [cC]) (n := 0) (b := [cB]) (m := 1) (by omega) (by omega) (by omega) (upd_same _ _ _) ((upd_ne _ _ (by omega)).trans ((upd_ne _ _ (by omega)).trans (upd_same _ _ _))) ((upd_ne _ _ (by omega)).trans (upd_same _ _ _))) PurArgs.nil)) (fnSame L [(0, [cC]), (1, [cB])] [(0, [cC]), (1, [cB])] _ _ _ (slB_g [(0, [cC]), (1, [cB])]) (.inr rfl) (by decide) (by decide)))) ?_
  rintro _ _ ⟨rfl, rfl⟩
  repeat' (first | refine wy1 (a := by simp only [go_sem, ↓reduceIte, Nat.reduceEqDiff, reduceCtorEq, Nat.reduceAdd, Nat.reduceMul, Nat.reduceLeDiff, aLoad, aStore, h10.b, h10.c]; exact rfl) (h := ?_) | refine wn (h := ?_) | fail)
  try (first | (refine wc (And.intro Try.call25 (fn25 L 0 _)) ?_; rintro _ _ ⟨rfl, rfl⟩) | refine wn (h := ?_) | fail)
  repeat' (first | refine wy1 (a := by simp only [go_sem, ↓reduceIte, Nat.reduceEqDiff, reduceCtorEq, Nat.reduceAdd, Nat.reduceMul, Nat.reduceLeDiff, aLoad, aStore, h10.b, h10.c]; exact rfl) (h := ?_) | refine wn (h := ?_) | fail)
  refine wc (And.intro Try.call17 (FnL.pur (PurArgs.keep (PurArgs.pur (pur_bnd1 (a := [cV 0]) (n := 1) (by omega) (upd_same _ _ _) ((upd_ne _ _ (by omega)).trans (upd_same _ _ _))) PurArgs.nil)) (fnSame L [(1, [cV 0])] [(1, [cV 0])] _ _ _ (slB_g [(1, [cV 0])]) (.inr rfl) (by decide) (by decide)))) ?_
  rintro _ _ ⟨rfl, rfl⟩
  repeat' (first | refine wy1 (a := by simp only [go_sem, ↓reduceIte, Nat.reduceEqDiff, reduceCtorEq, Nat.reduceAdd, Nat.reduceMul, Nat.reduceLeDiff, aLoad, aStore, h10.b, h10.c]; exact rfl) (h := ?_) | refine wn (h := ?_) | fail)
  refine awOps_nil (hK _ _ ?_)
  refine AW.less (sl' := [(126, vB false), (4, vI 0), (6, vI 0), (8, vI 3), (10, vI 3), (12, vI 3), (13, .av (.sc y7)), (14, vB true), (16, vB false), (17, .av (.sc y9)), (18, vB true)]) (AllIn.less ⟨rfl, rfl, rfl, rfl, rfl, rfl, rfl, rfl, rfl, rfl, rfl, trivial⟩) ?_
  refine aw_state (J := fun s' => HD s s') (h10.frame (by first | omega | (dsimp only; omega) | (dsimp only at *; omega)) fun j hj => ((upd_ne _ _ (by omega)).trans ((upd_ne _ _ (by omega)).trans ((upd_ne _ _ (by omega)).trans ((upd_ne _ _ (by omega)).trans ((upd_ne _ _ (by omega)).trans ((upd_ne _ _ (by omega)).trans ((upd_ne _ _ (by omega)).trans ((upd_ne _ _ (by omega)).trans ((upd_ne _ _ (by omega)).trans (upd_ne _ _ (by omega)))))))))))) fun s11 h11 => ?_
  clear hK K
  refine aw_cond (by rfl) ?_ ?_
  · intro hc0
    cases hc0
  · intro hc0
    refine aw_skip ?_
    simp only [thenA_normal, thenA_ret, thenA_exit, blockA_normal, blockA_ret, blockA_exit, ↓reduceIte, Nat.reduceEqDiff]
    refine aw_region_seq C (pb := false) rfl fun K hK => ?_
    repeat' (first | refine wy1 (a := by simp only [go_sem, ↓reduceIte, Nat.reduceEqDiff, reduceCtorEq, Nat.reduceAdd, Nat.reduceMul, Nat.reduceLeDiff, aLoad, aStore, lenB hy9]; exact rfl) (h := ?_) | refine wn (h := ?_) | fail)
    try (first | (refine wc (And.intro Try.call25 (fn25 L 1 _)) ?_; rintro _ _ ⟨rfl, rfl⟩) | refine wn (h := ?_) | fail)
    repeat' (first | refine wy1 (a := by simp only [go_sem, ↓reduceIte, Nat.reduceEqDiff, reduceCtorEq, Nat.reduceAdd, Nat.reduceMul, Nat.reduceLeDiff, aLoad, aStore, lenB hy9]; exact rfl) (h := ?_) | refine wn (h := ?_) | fail)
    try (first | (refine wc (And.intro Try.call25 (fn25 L 0 _)) ?_; rintro _ _ ⟨rfl, rfl⟩) | refine wn (h := ?_) | fail)
    repeat' (first | refine wy1 (a := by simp only [go_sem, ↓reduceIte, Nat.reduceEqDiff, reduceCtorEq, Nat.reduceAdd, Nat.reduceMul, Nat.reduceLeDiff, aLoad, aStore, lenB hy9]; exact rfl) (h := ?_) | refine wn (h := ?_) | fail)
    refine wc (And.intro Try.call17 (FnL.pur (PurArgs.keep (PurArgs.pur (pur_bnd2 (a := [cV 1]) (n := 0) (b := [cV 0]) (m := 1) (by omega) (by omega) (by omega) (upd_same _ _ _) ((upd_ne _ _ (by omega)).trans ((upd_ne _ _ (by omega)).trans (upd_same _ _ _))) ((upd_ne _ _ (by omega)).trans (upd_same _ _ _))) PurArgs.nil)) (fnSame L [(0, [cV 1]), (1, [cV 0])] [(0, [cV 1]), (1, [cV 0])] _ _ _ hy7 (.inr rfl) (by decide) (by decide)))) ?_
    rintro _ _ ⟨rfl, rfl⟩
    repeat' (first | refine wy1 (a := by simp only [go_sem, ↓reduceIte, Nat.reduceEqDiff, reduceCtorEq, Nat.reduceAdd, Nat.reduceMul, Nat.reduceLeDiff, aLoad, aStore, lenB hy9]; exact rfl) (h := ?_) | refine wn (h := ?_) | fail)
    try (first | (refine wc (And.intro Try.call25 (fn25 L 7 _)) ?_; rintro _ _ ⟨rfl, rfl⟩) | refine wn (h := ?_) | fail)
    try (first | (refine wc (And.intro Try.call25 (fn25 L 2 _)) ?_; rintro _ _ ⟨rfl, rfl⟩) | refine wn (h := ?_) | fail)
    repeat' (first | refine wy1 (a := by simp only [go_sem, ↓reduceIte, Nat.reduceEqDiff, reduceCtorEq, Nat.reduceAdd, Nat.reduceMul, Nat.reduceLeDiff, aLoad, aStore, lenB hy9]; exact rfl) (h := ?_) | refine wn (h := ?_) | fail)
    try (first | (refine wc (And.intro Try.call31 (fnF L [cV 7, cV 2] _ 0 _ (upd_same _ _ _) (by first | omega | (dsimp only; omega) | (dsimp only at *; omega)) (by decide))) ?_; rintro _ _ ⟨rfl, rfl⟩) | refine wn (h := ?_) | fail)
    try (first | (refine wc (And.intro Try.call25 (fn25 L 0 _)) ?_; rintro _ _ ⟨rfl, rfl⟩) | refine wn (h := ?_) | fail)
    try (first | (refine wc (And.intro Try.call25 (fn25 L 7 _)) ?_; rintro _ _ ⟨rfl, rfl⟩) | refine wn (h := ?_) | fail)
    repeat' (first | refine wy1 (a := by simp only [go_sem, ↓reduceIte, Nat.reduceEqDiff, reduceCtorEq, Nat.reduceAdd, Nat.reduceMul, Nat.reduceLeDiff, aLoad, aStore, lenB hy9]; exact rfl) (h := ?_) | refine wn (h := ?_) | fail)
    try (first | (refine wc (And.intro Try.call31 (fnF L [cV 0, cV 7] _ 0 _ (upd_same _ _ _) (by first | omega | (dsimp only; omega) | (dsimp only at *; omega)) (by decide))) ?_; rintro _ _ ⟨rfl, rfl⟩) | refine wn (h := ?_) | fail)
    refine wc (And.intro Try.call18 (varT L _)) ?_
    rintro _ _ ⟨rfl, rfl⟩
    repeat' (first | refine wy1 (a := by simp only [go_sem, ↓reduceIte, Nat.reduceEqDiff, reduceCtorEq, Nat.reduceAdd, Nat.reduceMul, Nat.reduceLeDiff, aLoad, aStore, lenB hy9]; exact rfl) (h := ?_) | fail)
    try (first | (refine wc (And.intro Try.call25 (fn25 L 0 _)) ?_; rintro _ _ ⟨rfl, rfl⟩) | refine wn (h := ?_) | fail)
    try (first | (refine wc (And.intro Try.call25 (fn25 L 0 _)) ?_; rintro _ _ ⟨rfl, rfl⟩) | refine wn (h := ?_) | fail)
    repeat' (first | refine wy1 (a := by simp only [go_sem, ↓reduceIte, Nat.reduceEqDiff, reduceCtorEq, Nat.reduceAdd, Nat.reduceMul, Nat.reduceLeDiff, aLoad, aStore, lenB hy9]; exact rfl) (h := ?_) | refine wn (h := ?_) | fail)
    try (first | (refine wc (And.intro Try.call31 (fnF L [cV 0, cV 0] _ 0 _ (upd_same _ _ _) (by first | omega | (dsimp only; omega) | (dsimp only at *; omega)) (by decide))) ?_; rintro _ _ ⟨rfl, rfl⟩) | refine wn (h := ?_) | fail)
    try (first | (refine wc (And.intro Try.call25 (fn25 L 0 _)) ?_; rintro _ _ ⟨rfl, rfl⟩) | refine wn (h := ?_) | fail)
    try (first | (refine wc (And.intro Try.call25 (fn25 L 1 _)) ?_; rintro _ _ ⟨rfl, rfl⟩) | refine wn (h := ?_) | fail)
    repeat' (first | refine wy1 (a := by simp only [go_sem, ↓reduceIte, Nat.reduceEqDiff, reduceCtorEq, Nat.reduceAdd, Nat.reduceMul, Nat.reduceLeDiff, aLoad, aStore, lenB hy9]; exact rfl) (h := ?_) | refine wn (h := ?_) | fail)
    try (first | (refine wc (And.intro Try.call31 (fnF L [cV 0, cV 1] _ 0 _ (upd_same _ _ _) (by first | omega | (dsimp only; omega) | (dsimp only at *; omega)) (by decide))) ?_; rintro _ _ ⟨rfl, rfl⟩) | refine wn (h := ?_) | fail)
    refine wc (And.intro Try.call18 (varF L _)) ?_
    rintro _ _ ⟨rfl, rfl⟩
    repeat' (first | refine wy1 (a := by simp only [go_sem, ↓reduceIte, Nat.reduceEqDiff, reduceCtorEq, Nat.reduceAdd, Nat.reduceMul, Nat.reduceLeDiff, aLoad, aStore, lenB hy9]; exact rfl) (h := ?_) | refine wn (h := ?_) | fail)
    refine awOps_nil (hK _ _ ?_)
    refine AW.less (sl' := [(0, vB true)]) (AllIn.less ⟨rfl, trivial⟩) ?_
    clear hK K
    refine aw_ret ?_
    simp only [go_sem, ↓reduceIte, Nat.reduceEqDiff, reduceCtorEq, Nat.reduceAdd, Nat.reduceMul, Nat.reduceLeDiff, aLoad, aStore, FnQ, resA]
    -- 0f.ret
    have hk11 := h11.kp.1
    exact fun _ => ⟨by first | rfl | trivial, fun j hj => (((upd_ne _ _ (by omega)).trans ((upd_ne _ _ (by omega)).trans ((upd_ne _ _ (by omega)).trans ((upd_ne _ _ (by omega)).trans ((upd_ne _ _ (by omega)).trans ((upd_ne _ _ (by omega)).trans ((upd_ne _ _ (by omega)).trans ((upd_ne _ _ (by omega)).trans ((upd_ne _ _ (by omega)).trans (upd_ne _ _ (by omega)))))))))))).trans (h11.kp.2.1 j hj), h11.kp.2.2, by first | rfl | trivial⟩
end Go.Am.Seat
/-
  MGU at right terms: the contract, and the plain law's cases.
-/
namespace Go.Am.Seat
open Go.Proofs
/-- What Mgu tells. -/
def mgu (a b : List Cell) : List (Nat × List Cell) × Int := (mguR 1000000 (a ++ b) a.length).getD ([], 3)
theorem mgu_cases {a b : List Cell} (ha : RTm a) (hb : RTm b) : (mgu a b = ([], 3) ∧ ∀ s, Terms s → appT s a ≠ appT s b) ∨ ∃ s, NormO a b s ∧ mgu a b = mguO s := by
  obtain ⟨out, e, h1, h2⟩ := mgu_law ha hb
  have h3 : mgu a b = (out, e) := by rw [mgu, h1]; rfl
  rw [h3]
  rcases h2 with ⟨rfl, rfl, h⟩ | ⟨s, h, h'⟩
  · exact .inl ⟨rfl, h⟩
  · exact .inr ⟨s, h, h'⟩
theorem gsl_cells {x : Sc} {l : List Cell} (h : GSl encC x l) (hl : 1 ≤ l.length) : x = .sl l.length (l.flatMap encC) := by
  rcases h with ⟨_, h⟩ | h
  · rw [h] at hl; simp at hl
  · exact h
theorem fnMade (L : Loops) (l : List Cell) (most : Nat) (s : Me) (x : Sc) (hx : GSl encC x l) (hl : l.length ≤ 281474976710656) (hn : ∀ c ∈ l, c.name.size ≤ 1152921504606846976) (hm : 1 ≤ most ∧ most ≤ 200) : FnL Try.prog L 12 [.av (.sc x), vI most] s fun r s' => (∃ t, r = vC t ∧ RTm t ∧ t.length ≤ most) ∧ s' = s :=
  (fn12 L l most s x hx hl hn hm).mono fun r s' ⟨⟨y, t, h1, h2, h3, h4⟩, h5⟩ => ⟨⟨t, by rw [h1, gsl_cells h2 (right_tm h3).pos], right_tm h3, h4⟩, h5⟩
theorem mdC_ok (t : List Cell) (i : Nat) (h most : Int) : cellOk (mdC t i h most) = true := by
  unfold mdC
  split
  · exact okV _
  · split
    · exact okI _
    · split
      · exact okF _ _
      · exact okA
theorem mdC_n {t : List Cell} {i : Nat} {h most : Int} (hh : h ≤ most) (hk : (mdC t i h most).kind = 3) : 0 ≤ (mdC t i h most).n ∧ h + (mdC t i h most).n ≤ most := by
  unfold mdC at hk ⊢
  split
  · rename_i h1
    rw [if_pos h1] at hk; cases hk
  · rename_i h1
    rw [if_neg h1] at hk
    split
    · rename_i h2
      rw [if_pos h2] at hk; cases hk
    · split
      · rename_i h3
        have hi := fitsIn_lt h3
        rw [fitsIn, List.getElem?_eq_getElem hi] at h3
        have := andI_low3 t[i].n
        have := of_decide_eq_true h3
        rw [List.getElem?_eq_getElem hi]
        simp only [Option.getD_some]
        omega
      · dsimp only; omega
theorem mdG_right {t : List Cell} {most : Int} (hm : 1 ≤ most ∧ most ≤ 200) : ∀ (f i : Nat) (nd : Int) (out : List Cell), Part out nd → out.length = i → 0 ≤ nd → (i : Int) + nd ≤ most → most - i < f → rightOk (mdG t most f i nd out) = true ∧ ((mdG t most f i nd out).length : Int) ≤ most
  | 0, i, nd, out, _, _, _, _, hf => by omega
  | f + 1, i, nd, out, hp, hl, h0, hb, hf => by
    rw [mdG]
    by_cases hn : 0 < nd
    · rw [if_pos hn]
      have hok := mdC_ok t i ((out.length : Int) + nd) most
      have hcn := mdC_n (t := t) (i := i) (h := (out.length : Int) + nd) (most := most) (by omega)
      obtain ⟨c, hc⟩ : ∃ c, c = mdC t i ((out.length : Int) + nd) most := ⟨_, rfl⟩
      rw [← hc] at hok hcn ⊢
      refine mdG_right hm f (i + 1) _ _ (hp.add hn hok rfl) (by rw [List.length_append, hl]; rfl) ?_ ?_ (by omega)
      · split
        · have := hcn (by assumption); omega
        · omega
      · split
        · have := hcn (by assumption); omega
        · omega
    · rw [if_neg hn]
      have hnd : nd = 0 := by omega
      have hend := hp.done hnd
      refine ⟨?_, by omega⟩
      have hpos : out.length ≠ 0 := by
        intro h
        rw [List.length_eq_zero_iff.1 h] at hend
        simp [endG] at hend
      simp only [rightOk, hend, beq_self_eq_true, Bool.and_true, Bool.and_eq_true, decide_eq_true_eq]
      omega
theorem made_tm {t : List Cell} {most : Nat} (hm : 1 ≤ most ∧ most ≤ 200) : RTm (madeG t most) ∧ (madeG t most).length ≤ most := by
  unfold madeG
  split
  · rename_i h
    rw [Bool.and_eq_true] at h
    exact ⟨right_tm h.1, by have := of_decide_eq_true h.2; omega⟩
  · have := mdG_right (t := t) (most := (most : Int)) (by omega) 201 0 1 [] Part.zero rfl (by omega) (by omega) (by omega)
    exact ⟨right_tm this.1, by omega⟩
theorem fnMadeV (L : Loops) (l : List Cell) (most : Nat) (s : Me) (x : Sc) (hx : GSl encC x l) (hl : l.length ≤ 281474976710656) (hn : ∀ c ∈ l, c.name.size ≤ 1152921504606846976) (hm : 1 ≤ most ∧ most ≤ 200) : FnL Try.prog L 12 [.av (.sc x), vI most] s fun r s' => r = vC (madeG l most) ∧ s' = s :=
  (fn12g L l most s x hx hl hn hm).mono fun r s' h => ⟨h.1.1, h.2⟩
/-- The bindings that Mgu tells, as a value. -/
def scB (l : List (Int × List Cell)) : Sc := if l.isEmpty = true then .nilsl else .sl l.length ((l.map bndI).flatMap encB)
theorem scB_gsl (l : List (Int × List Cell)) : GSl encB (scB l) (l.map bndI) := by
  unfold scB
  cases l with
  | nil => exact .inl ⟨rfl, rfl⟩
  | cons a l => exact .inr (by rw [if_neg (by simp), List.length_map])
theorem fnMguV (L : Loops) {a b : List Cell} (ha : RTm a) (hb : RTm b) (s : Me) : FnL Try.prog L 13 [vC a, vC b] s fun r s' => r = .tup [.av (.sc (scB ((mgu a b).1.map toI))), vI (mgu a b).2] ∧ s' = s := by
  obtain ⟨out, e, h1, h2⟩ := mgu_law ha hb
  have h3 : mgu a b = (out, e) := by rw [mgu, h1]; rfl
  have a1 := ha.pos
  have a2 := ha.len
  have b1 := hb.pos
  have b2 := hb.len
  refine (fn13 L 1000000 a b out e s _ _ (gslC a) (gslC b) (by omega) (by omega) (tok_two ha hb) (by omega) h1).mono fun r s' ⟨⟨y, h4, h5, _, h7⟩, h6⟩ => ⟨?_, h6⟩
  rw [h3, h4]
  congr 3
  dsimp only
  unfold scB
  cases hout : out with
  | nil => rw [h7 hout]; rfl
  | cons p l =>
    rw [hout, map_bndOf] at h5
    rcases h5 with ⟨_, h⟩ | h
    · simp at h
    · rw [h, if_neg (by simp), List.length_map]
theorem fnMgu (L : Loops) {a b : List Cell} (ha : RTm a) (hb : RTm b) (s : Me) : FnL Try.prog L 13 [vC a, vC b] s fun r s' => (∃ z, r = .tup [.av (.sc z), vI (mgu a b).2] ∧ GSl encB z ((mgu a b).1.map bndOf)) ∧ s' = s := by
  obtain ⟨out, e, h1, h2⟩ := mgu_law ha hb
  have h3 : mgu a b = (out, e) := by rw [mgu, h1]; rfl
  have a1 := ha.pos
  have a2 := ha.len
  have b1 := hb.pos
  have b2 := hb.len
  refine (fn13 L 1000000 a b out e s _ _ (gslC a) (gslC b) (by omega) (by omega) (tok_two ha hb) (by omega) h1).mono fun r s' ⟨⟨y, h4, h5, _⟩, h6⟩ => ⟨⟨y, ?_, ?_⟩, h6⟩
  · rw [h3]; exact h4
  · rw [h3]; exact h5
set_option maxRecDepth 10000 in
/-- The bounds on what Mgu tells. -/
theorem mguO_len (s : Int → List Cell) : (mguO s).1.length ≤ 1000 ∧ ∀ c ∈ (mguO s).1, c.2.length ≤ 200 := by
  unfold mguO
  split
  · exact ⟨Nat.zero_le _, fun c hc => by simp at hc⟩
  · rename_i h
    refine ⟨Nat.le_trans (List.length_filterMap_le _ _) (by simp), fun c hc => ?_⟩
    obtain ⟨n, hn, h1⟩ := List.mem_filterMap.1 hc
    rw [bnd] at h1
    split at h1
    · cases h1
    · simp only [Option.some.injEq] at h1
      rw [← h1]
      rcases Nat.lt_or_ge 200 (s (n : Nat)).length with h2 | h2
      · exact absurd (List.any_eq_true.2 ⟨n, hn, decide_eq_true h2⟩) h
      · exact h2
theorem mgu_len {a b : List Cell} (ha : RTm a) (hb : RTm b) : (mgu a b).1.length ≤ 1000 ∧ ∀ c ∈ (mgu a b).1, c.2.length ≤ 200 := by
  rcases mgu_cases ha hb with ⟨h, _⟩ | ⟨s, _, h⟩
  · rw [h]; exact ⟨Nat.zero_le _, fun c hc => by simp at hc⟩
  · rw [h]; exact mguO_len s
/-- Two rows told by Mgu are held against each other. -/
theorem fnSameM (L : Loops) (a b : List (Nat × List Cell)) (s : Me) (x y : Sc) (hx : GSl encB x (a.map bndOf)) (hy : GSl encB y (b.map bndOf)) (hl : a.length ≤ 1000) (hc : ∀ c ∈ a, c.2.length ≤ 200) : FnL Try.prog L 17 [.av (.sc x), .av (.sc y)] s fun r s' => r = vB (decide (a = b)) ∧ s' = s := by
  rw [map_bndOf] at hx hy
  refine (fnSame L (a.map toI) (b.map toI) s x y hx hy (by rw [List.length_map]; omega) fun c h => ?_).mono fun r s' ⟨h1, h2⟩ => ⟨?_, h2⟩
  · obtain ⟨d, hd, rfl⟩ := List.mem_map.1 h
    have := hc d hd
    simp only [toI]; omega
  · rw [h1]
    congr 1
    rw [decide_eq_decide]
    refine ⟨fun e => ?_, fun e => by rw [e]⟩
    exact List.map_inj_right (f := toI) (fun p q h => by
      simp only [toI, Prod.mk.injEq] at h
      exact Prod.ext (by omega) h.2) |>.1 e
theorem fnSameV (L : Loops) {a b : List (Nat × List Cell)} {v : Bool} (hv : decide (a = b) = v) (s : Me) (x y : Sc) (hx : GSl encB x (a.map bndOf)) (hy : GSl encB y (b.map bndOf)) (hl : a.length ≤ 1000 ∧ ∀ c ∈ a, c.2.length ≤ 200) : FnL Try.prog L 17 [.av (.sc x), .av (.sc y)] s fun r s' => r = vB v ∧ s' = s :=
  (fnSameM L a b s x y hx hy hl.1 hl.2).mono fun r s' h => ⟨h.1.trans (congrArg vB hv), h.2⟩
/-! ### The other way round; of a term and itself; of one and a deeper one -/
theorem NormO.symm {a b : List Cell} {s : Int → List Cell} (h : NormO a b s) : NormO b a s := by
  have e : ∀ n, occ (b ++ a) n ↔ occ (a ++ b) n := fun n => by simp only [occ, List.mem_append, or_comm]
  exact ⟨⟨h.eq.symm, h.tm, h.vc, fun u hu e => h.abs u hu e.symm, h.least⟩, fun n hn c hc => by
    have := h.ok n ((e n).1 hn) c hc
    exact ⟨this.1, fun hk => (e _).2 (this.2 hk)⟩, fun n hn => h.out n fun k => hn ((e n).2 k)⟩
theorem mgu_symm {a b : List Cell} (ha : RTm a) (hb : RTm b) : mgu b a = mgu a b := by
  rcases mgu_cases ha hb with ⟨h1, h2⟩ | ⟨s, h1, h2⟩
  · rcases mgu_cases hb ha with ⟨h3, h4⟩ | ⟨u, h3, h4⟩
    · rw [h1, h3]
    · exact absurd h3.eq.symm (h2 u h3.tm)
  · rcases mgu_cases hb ha with ⟨h3, h4⟩ | ⟨u, h3, h4⟩
    · exact absurd h1.eq.symm (h4 s h1.tm)
    · rw [h2, h4, h1.toNorm.uniq h3.symm.toNorm]
/-- Nothing is put for any variable. -/
def idS (n : Int) : List Cell := [varCell n]
theorem idS_tm : Terms idS := fun n => rfl
theorem mguO_id : mguO idS = ([], 0) := by
  rw [mguO, if_neg]
  · rw [show (List.range 1000).filterMap (bnd idS) = [] from List.filterMap_eq_nil_iff.2 fun n _ => by simp [bnd, idS]]
  · simp [idS]
theorem appT_id {l : List Cell} (h : ∀ c ∈ l, cellOk c = true) : appT idS l = l := appT_same (s := idS) fun c hc hk => by rw [idS, ← ok_varCell (h c hc) hk]
theorem norm_id (a : List Cell) : Norm a a idS := by
  refine ⟨rfl, idS_tm, fun n c hc _ => ?_, fun u _ _ n => appT_var u n, fun n m h => ?_⟩
  · rw [idS, List.mem_singleton] at hc
    rw [hc]; rfl
  · have := congrArg Cell.n (List.cons.inj h).1
    simp only [varCell] at this
    omega
theorem mgu_self {a : List Cell} (ha : RTm a) : mgu a a = ([], 0) := by
  rcases mgu_cases ha ha with ⟨h1, h2⟩ | ⟨s, h1, h2⟩
  · exact absurd rfl (h2 idS idS_tm)
  · rw [h2, h1.toNorm.uniq (norm_id a), mguO_id]
theorem okF1 : cellOk ⟨3, nmF, 1⟩ = true := by decide
theorem deep_tm {a : List Cell} (ha : RTm a) (hl : a.length ≤ 100) : RTm (⟨3, nmF, 1⟩ :: a) := by
  refine ⟨?_, fun c hc => ?_, by simp, by simp; omega⟩
  · rw [takes, show 0 + arC ⟨3, nmF, 1⟩ = 1 from rfl, ha.tk]; rfl
  · rcases List.mem_cons.1 hc with rfl | hc
    · exact okF1
    · exact ha.ok c hc
theorem mgu_deep {a : List Cell} (ha : RTm a) (hl : a.length ≤ 100) : mgu a (⟨3, nmF, 1⟩ :: a) = ([], 3) := by
  rcases mgu_cases ha (deep_tm ha hl) with ⟨h1, h2⟩ | ⟨s, h1, h2⟩
  · exact h1
  · have := congrArg List.length h1.eq
    rw [appT_cons s (by decide : ¬ (Cell.mk 3 nmF 1).kind = 1), List.length_cons] at this
    omega
end Go.Am.Seat
/-
  MADE BY PROGRAM (am.py): the walks of functions 59.
-/
namespace Go.Am.Seat
open Go.Proofs

/-- A variable's place; -1: it is not there. -/
def placeB : List Bnd → Int → Nat → Int
  | [], _, _ => -1
  | a :: l, n, i => if (a.v == n) = true then (i : Int) else placeB l n (i + 1)

theorem bod59 : Try.f59.body = some (Try.f59.body.getD .skip) := rfl
theorem fn59 (L : Loops) (l : List Bnd) (n : Int) (s : Me) (x : Sc) (hx : GSl encB x l) (hl : l.length ≤ 2199023255552) : FnL Try.prog L 59 [.av (.sc x), vI n] s fun r s' => (r = vI (placeB l n 0)) ∧ s' = s := by
  refine FnL.pure (R := fun r => r = vI (placeB l n 0)) ?_
  refine fn_of_body (ts := [4]) Try.func59 bod59 rfl (by simp) (by simp [Try.ntmps59]) fun D0 => ?_
  unfold Try.f59
  simp only [Option.getD_some, initSl]
  refine aw_region_seq C (pb := false) rfl fun K hK => ?_
  repeat' (first | refine wy0 (h := ?_) | fail)
  refine awOps_nil (hK _ _ ?_)
  clear hK K
  refine aw_seq ?_
  refine aw_region_seq C (pb := false) rfl fun K hK => ?_
  repeat' (first | refine wy0 (h := ?_) | fail)
  refine awOps_nil (hK _ _ ?_)
  clear hK K
  refine aw_block ?_
  refine AW.less (sl' := [(0, .av (.sc x)), (1, vI n), (5, vI (0))]) (AllIn.less ⟨rfl, rfl, rfl, trivial⟩) (aw_loop (fun k sl1 s1 => ∃ (i : Nat), k = l.length - i ∧ sl1 = [(0, .av (.sc x)), (1, vI n), (5, vI (i))] ∧ (Kp s s1) ∧ (i ≤ l.length) ∧ (placeB (l.drop i) n i = placeB l n 0)) (k := l.length - (0)) ⟨0, rfl, rfl, (Kp.refl s).up (by omega), Nat.zero_le _, rfl⟩ ?_)
  rintro k1 _ s1 ⟨i, hk1, rfl, hs1, hb, h3⟩
  refine aw_seq ?_
  refine aw_region_seq C (pb := false) rfl fun K hK => ?_
  repeat' (first | refine wy1 (a := by simp only [go_sem, ↓reduceIte, Nat.reduceEqDiff, reduceCtorEq, Nat.reduceAdd, Nat.reduceMul, Nat.reduceLeDiff, aLoad, aStore, lenB hx]; exact rfl) (h := ?_) | fail)
  refine awOps_nil (hK _ _ ?_)
  clear hK K
  refine aw_cond (by rfl) ?_ ?_
  · intro hc0
    try simp only [decide_eq_true_eq, decide_eq_false_iff_not] at hc0
    have hi2 : i < l.length := by omega
    have hi3 : 1 ≤ l.length - i := by omega
    refine aw_skip ?_
    simp only [thenA_normal, thenA_ret, thenA_exit, blockA_normal, blockA_ret, blockA_exit, ↓reduceIte, Nat.reduceEqDiff]
    refine aw_seq ?_
    refine aw_block ?_
    refine aw_region_seq C (pb := false) rfl fun K hK => ?_
    repeat' (first | refine wy1 (a := by simp only [go_sem, ↓reduceIte, Nat.reduceEqDiff, reduceCtorEq, Nat.reduceAdd, Nat.reduceMul, Nat.reduceLeDiff, aLoad, aStore, idxB hx hi2]; exact rfl) (h := ?_) | fail)
    refine awOps_nil (hK _ _ ?_)
    clear hK K
    refine aw_cond (by rfl) ?_ ?_
    · intro hc1
      try simp only [decide_eq_true_eq, decide_eq_false_iff_not] at hc1
      refine aw_region_seq C (pb := false) rfl fun K hK => ?_
      repeat' (first | refine wy0 (h := ?_) | fail)
      refine awOps_nil (hK _ _ ?_)
      clear hK K
      refine aw_ret ?_
      try simp only [thenA_normal, thenA_ret, thenA_exit, blockA_normal, blockA_ret, blockA_exit]
      simp only [go_sem, ↓reduceIte, Nat.reduceEqDiff, reduceCtorEq, Nat.reduceAdd, Nat.reduceMul, Nat.reduceLeDiff, aLoad, aStore, FnQ, resA]
      -- 0t1t.ret
      refine fun _ => ⟨rfl, hs1.2.1, hs1.2.2, ?_⟩
      rw [← h3, List.drop_eq_getElem_cons hi2, placeB, if_pos hc1]
    · intro hc1
      try simp only [decide_eq_true_eq, decide_eq_false_iff_not] at hc1
      refine aw_skip ?_
      simp only [thenA_normal, thenA_ret, thenA_exit, blockA_normal, blockA_ret, blockA_exit, ↓reduceIte, Nat.reduceEqDiff]
      refine aw_region C (pb := false) rfl ?_
      repeat' (first | refine wy1 (a := by simp only [go_sem, ↓reduceIte, Nat.reduceEqDiff, reduceCtorEq, Nat.reduceAdd, Nat.reduceMul, Nat.reduceLeDiff, aLoad, aStore, wrap_small ((i : Int) + 1) (by omega) (by omega)]; exact rfl) (h := ?_) | fail)
      refine awOps_nil ?_
      try simp only [thenA_normal, thenA_ret, thenA_exit, blockA_normal, blockA_ret, blockA_exit]
      -- end of round 0 at 0t1f
      refine ⟨l.length - (i + 1), [(0, .av (.sc x)), (1, vI n), (5, vI (i + 1))], by omega, AllIn.less ⟨rfl, rfl, rfl, trivial⟩, i + 1, rfl, rfl, ?_, ?_, ?_⟩
      · exact hs1.up (by omega)
      · omega
      · rw [← h3, List.drop_eq_getElem_cons hi2, placeB, if_neg (by rw [hc1]; exact Bool.false_ne_true)]
  · intro hc0
    try simp only [decide_eq_true_eq, decide_eq_false_iff_not] at hc0
    refine aw_exit ?_
    simp only [thenA_normal, thenA_ret, thenA_exit, blockA_normal, blockA_ret, blockA_exit, ↓reduceIte, Nat.reduceEqDiff]
    refine aw_region_seq C (pb := false) rfl fun K hK => ?_
    repeat' (first | refine wy0 (h := ?_) | fail)
    refine awOps_nil (hK _ _ ?_)
    clear hK K
    refine aw_ret ?_
    simp only [go_sem, ↓reduceIte, Nat.reduceEqDiff, reduceCtorEq, Nat.reduceAdd, Nat.reduceMul, Nat.reduceLeDiff, aLoad, aStore, FnQ, resA]
    -- 0f.x0.ret
    refine fun _ => ⟨rfl, hs1.2.1, hs1.2.2, ?_⟩
    rw [← h3, List.drop_of_length_le (by omega), placeB]
end Go.Am.Seat
/-
  MADE BY PROGRAM (am.py): the walks of functions 57.
-/
namespace Go.Am.Seat
open Go.Proofs

/-- What is put in for a cell. -/
def pieceG (bs : List Bnd) (val : Bnd → List Cell) (c : Cell) : List Cell :=
  if (c.kind == 1) = true then (match bs.find? (fun b => b.v == c.n) with | some b => val b | none => [c]) else [c]
def putG (bs : List Bnd) (val : Bnd → List Cell) : List Cell → List Cell → List Cell
  | [], out => out
  | c :: l, out => putG bs val l (out ++ pieceG bs val c)
theorem placeB_spec : ∀ (l : List Bnd) (n : Int) (k : Nat), (placeB l n k = -1 ∧ l.find? (fun b => b.v == n) = none) ∨ ∃ i, ∃ h : i < l.length, placeB l n k = ((k + i : Nat) : Int) ∧ l.find? (fun b => b.v == n) = some l[i]
  | [], n, k => .inl ⟨rfl, rfl⟩
  | a :: l, n, k => by
    by_cases h : (a.v == n) = true
    · exact .inr ⟨0, by simp, by simp [placeB, h], by simp [List.find?, h]⟩
    · have h' : (a.v == n) = false := by simpa using h
      rcases placeB_spec l n (k + 1) with ⟨h1, h2⟩ | ⟨i, hi, h1, h2⟩
      · exact .inl ⟨by simp [placeB, h, h1], by simp [List.find?, h', h2]⟩
      · refine .inr ⟨i + 1, by simp; omega, ?_, by simp [List.find?, h', h2]⟩
        rw [placeB, if_neg h, h1]
        congr 1
        omega

theorem bod57 : Try.f57.body = some (Try.f57.body.getD .skip) := rfl
theorem fn57 (L : Loops) (bs : List Bnd) (val : Bnd → List Cell) (t : List Cell) (s : Me) (sx x : Sc) (hsx : GSl encB sx bs) (hx : GSl encC x t) (hv : ∀ b ∈ bs, GSl encC b.t (val b) ∧ (val b).length ≤ 1000) (hb1 : bs.length ≤ 1000000000) (hl : t.length ≤ 1000000) : FnL Try.prog L 57 [.av (.sc sx), .av (.sc x)] s fun r s' => (∃ y, r = .av (.sc y) ∧ GSl encC y (putG bs val t [])) ∧ s' = s := by
  refine FnL.pure (R := fun r => ∃ y, r = .av (.sc y) ∧ GSl encC y (putG bs val t [])) ?_
  refine fn_of_body (ts := [4]) Try.func57 bod57 rfl (by simp) (by simp [Try.ntmps57]) fun D0 => ?_
  unfold Try.f57
  simp only [Option.getD_some, initSl]
  refine aw_region_seq C (pb := false) rfl fun K hK => ?_
  repeat' (first | refine wy0 (h := ?_) | fail)
  refine awOps_nil (hK _ _ ?_)
  clear hK K
  refine aw_region_seq C (pb := false) rfl fun K hK => ?_
  repeat' (first | refine wy0 (h := ?_) | fail)
  refine awOps_nil (hK _ _ ?_)
  clear hK K
  refine aw_seq ?_
  refine aw_region_seq C (pb := false) rfl fun K hK => ?_
  repeat' (first | refine wy0 (h := ?_) | fail)
  refine awOps_nil (hK _ _ ?_)
  clear hK K
  refine aw_block ?_
  refine AW.less (sl' := [(0, .av (.sc sx)), (1, .av (.sc x)), (5, (_)), (6, vI (0))]) (AllIn.less ⟨rfl, rfl, rfl, rfl, trivial⟩) (aw_loop (fun k sl1 s1 => ∃ (i : Nat) (xo : Va) (out : List Cell), k = t.length - i ∧ sl1 = [(0, .av (.sc sx)), (1, .av (.sc x)), (5, (xo)), (6, vI (i))] ∧ (Kp s s1) ∧ (i ≤ t.length ∧ out.length ≤ 1000 * i) ∧ (Acc s.nx s1.nx s1.ob xo out.length 3 ((out.flatMap encC).map .sc)) ∧ (putG bs val (t.drop i) out = putG bs val t [])) (k := t.length - (0)) ⟨0, _, [], rfl, rfl, ⟨by first | omega | (dsimp only; omega), fun j hj => upd_ne _ _ (by omega), rfl⟩, by simp, .inr ⟨_, 0, rfl, by first | omega | (dsimp only; omega), by first | omega | (dsimp only; omega), upd_same _ _ _, by simp, by simp⟩, rfl⟩ ?_)
  rintro k1 _ s1 ⟨i, xo, out, hk1, rfl, hs1, hb, hacc, h3⟩
  refine aw_seq ?_
  refine aw_region_seq C (pb := false) rfl fun K hK => ?_
  repeat' (first | refine wy1 (a := by simp only [go_sem, ↓reduceIte, Nat.reduceEqDiff, reduceCtorEq, Nat.reduceAdd, Nat.reduceMul, Nat.reduceLeDiff, aLoad, aStore, lenC hx]; exact rfl) (h := ?_) | fail)
  refine awOps_nil (hK _ _ ?_)
  clear hK K
  refine aw_cond (by rfl) ?_ ?_
  · intro hc0
    try simp only [decide_eq_true_eq, decide_eq_false_iff_not] at hc0
    have hi2 : i < t.length := by omega
    have hdrop : t.drop i = t[i] :: t.drop (i + 1) := List.drop_eq_getElem_cons hi2
    refine aw_skip ?_
    simp only [thenA_normal, thenA_ret, thenA_exit, blockA_normal, blockA_ret, blockA_exit, ↓reduceIte, Nat.reduceEqDiff]
    refine aw_seq ?_
    refine aw_block ?_
    refine aw_region_seq C (pb := false) rfl fun K hK => ?_
    repeat' (first | refine wy0 (h := ?_) | fail)
    refine awOps_nil (hK _ _ ?_)
    clear hK K
    refine aw_seq ?_
    refine aw_region_seq C (pb := false) rfl fun K hK => ?_
    repeat' (first | refine wy1 (a := by simp only [go_sem, ↓reduceIte, Nat.reduceEqDiff, reduceCtorEq, Nat.reduceAdd, Nat.reduceMul, Nat.reduceLeDiff, aLoad, aStore, idxC hx hi2]; exact rfl) (h := ?_) | fail)
    refine awOps_nil (hK _ _ ?_)
    clear hK K
    refine aw_cond (by rfl) ?_ ?_
    · intro hc1
      try simp only [decide_eq_true_eq, decide_eq_false_iff_not] at hc1
      refine aw_region C (pb := false) rfl ?_
      repeat' (first | refine wy1 (a := by simp only [go_sem, ↓reduceIte, Nat.reduceEqDiff, reduceCtorEq, Nat.reduceAdd, Nat.reduceMul, Nat.reduceLeDiff, aLoad, aStore, idxC hx hi2]; exact rfl) (h := ?_) | fail)
      (refine wc (And.intro Try.call59 (fn59 L bs t[i].n _ sx hsx (by omega))) ?_; rintro _ _ ⟨rfl, rfl⟩)
      repeat' (first | refine wy1 (a := by simp only [go_sem, ↓reduceIte, Nat.reduceEqDiff, reduceCtorEq, Nat.reduceAdd, Nat.reduceMul, Nat.reduceLeDiff, aLoad, aStore, idxC hx hi2]; exact rfl) (h := ?_) | fail)
      refine awOps_nil ?_
      try simp only [thenA_normal, thenA_ret, thenA_exit, blockA_normal, blockA_ret, blockA_exit]
      refine aw_region_seq C (pb := false) rfl fun K hK => ?_
      repeat' (first | refine wy0 (h := ?_) | fail)
      refine awOps_nil (hK _ _ ?_)
      clear hK K
      refine aw_cond (by rfl) ?_ ?_
      · intro hc2
        try simp only [decide_eq_true_eq, decide_eq_false_iff_not] at hc2
        refine aw_region C (pb := false) rfl ?_
        repeat' (first | refine wy1 (a := by simp only [go_sem, ↓reduceIte, Nat.reduceEqDiff, reduceCtorEq, Nat.reduceAdd, Nat.reduceMul, Nat.reduceLeDiff, aLoad, aStore, idxC hx hi2]; exact rfl) (h := ?_) | fail)
        refine awOps_append (by rfl) (by rfl) (by rfl) (by rfl) (hacc.up (hi' := s1.nx) (Nat.le_refl _) fun j h1 h2 => upd_ne _ _ (by omega)) T22 rfl T42 rfl (by simp) (by simp [y42]) (k := 1) (new := (encC t[i]).map .sc) (by simp [aSrc, evA, get, upd, zerosA, encC, storeL, List.range, List.range.loop]) (by simp [encC]) (by omega) (by omega) (by have := hs1.1; omega) fun x6 ob6 hacc6 hlow6 _ => ?_
        repeat' (first | refine wy1 (a := by simp only [go_sem, ↓reduceIte, Nat.reduceEqDiff, reduceCtorEq, Nat.reduceAdd, Nat.reduceMul, Nat.reduceLeDiff, aLoad, aStore, idxC hx hi2]; exact rfl) (h := ?_) | fail)
        refine awOps_nil ?_
        try simp only [thenA_normal, thenA_ret, thenA_exit, blockA_normal, blockA_ret, blockA_exit]
        refine aw_region C (pb := false) rfl ?_
        repeat' (first | refine wy1 (a := by simp only [go_sem, ↓reduceIte, Nat.reduceEqDiff, reduceCtorEq, Nat.reduceAdd, Nat.reduceMul, Nat.reduceLeDiff, aLoad, aStore, wrap_small ((i : Int) + 1) (by omega) (by omega)]; exact rfl) (h := ?_) | fail)
        refine awOps_nil ?_
        try simp only [thenA_normal, thenA_ret, thenA_exit, blockA_normal, blockA_ret, blockA_exit]
        -- end of round 0 at 0t1t2t
        refine ⟨t.length - (i + 1), [(0, .av (.sc sx)), (1, .av (.sc x)), (5, (x6)), (6, vI (i + 1))], by omega, AllIn.less ⟨rfl, rfl, rfl, rfl, trivial⟩, i + 1, x6, out ++ [t[i]], rfl, rfl, ?_, ?_, ?_, ?_⟩
        · exact ⟨by have := hs1.1; first | omega | (dsimp only; omega), fun j hj => (hlow6 j hj).trans ((upd_ne _ _ (by have := hs1.1; omega)).trans (hs1.2.1 j hj)), hs1.2.2⟩
        · simp only [List.length_append, List.length_cons, List.length_nil]
          omega
        · simp only [List.length_append, List.length_cons, List.length_nil, List.flatMap_append, List.map_append, List.flatMap_cons, List.flatMap_nil, List.append_nil]
          exact hacc6.up (by first | omega | (dsimp only; omega)) fun _ _ _ => rfl
        · have hp : pieceG bs val t[i] = [t[i]] := by
            rcases placeB_spec bs t[i].n 0 with ⟨_, h⟩ | ⟨j, hj, h, _⟩
            · rw [pieceG, if_pos hc1, h]
            · rw [h] at hc2; omega
          rw [← h3, hdrop, putG, hp]
      · intro hc2
        try simp only [decide_eq_true_eq, decide_eq_false_iff_not] at hc2
        rcases placeB_spec bs t[i].n 0 with ⟨h, _⟩ | ⟨j, hj, hpl, hfi⟩
        · exact absurd hc2 (by rw [h]; decide)
        rw [Nat.zero_add] at hpl
        refine aw_region C (pb := false) rfl ?_
        repeat' (first | refine wy1 (a := by simp only [go_sem, ↓reduceIte, Nat.reduceEqDiff, reduceCtorEq, Nat.reduceAdd, Nat.reduceMul, Nat.reduceLeDiff, aLoad, aStore, hpl, idxB hsx hj]; exact rfl) (h := ?_) | fail)
        refine awOps_append (by rfl) (by rfl) (by rfl) (by rfl) hacc T22 rfl T42 rfl (by simp) (by simp [y42]) (aSrc_g (enc := encC) (k := 3) (fun _ => rfl) (hv bs[j] (List.getElem_mem hj)).1 _) (by simp [flat_len (enc := encC) (k := 3) (fun _ => rfl)]) (by have := (hv bs[j] (List.getElem_mem hj)).2; omega) (by omega) (by have := hs1.1; omega) fun x6 ob6 hacc6 hlow6 _ => ?_
        repeat' (first | refine wy1 (a := by simp only [go_sem, ↓reduceIte, Nat.reduceEqDiff, reduceCtorEq, Nat.reduceAdd, Nat.reduceMul, Nat.reduceLeDiff, aLoad, aStore, hpl, idxB hsx hj]; exact rfl) (h := ?_) | fail)
        refine awOps_nil ?_
        try simp only [thenA_normal, thenA_ret, thenA_exit, blockA_normal, blockA_ret, blockA_exit]
        refine aw_region C (pb := false) rfl ?_
        repeat' (first | refine wy1 (a := by simp only [go_sem, ↓reduceIte, Nat.reduceEqDiff, reduceCtorEq, Nat.reduceAdd, Nat.reduceMul, Nat.reduceLeDiff, aLoad, aStore, wrap_small ((i : Int) + 1) (by omega) (by omega)]; exact rfl) (h := ?_) | fail)
        refine awOps_nil ?_
        try simp only [thenA_normal, thenA_ret, thenA_exit, blockA_normal, blockA_ret, blockA_exit]
        -- end of round 0 at 0t1t2f
        refine ⟨t.length - (i + 1), [(0, .av (.sc sx)), (1, .av (.sc x)), (5, (x6)), (6, vI (i + 1))], by omega, AllIn.less ⟨rfl, rfl, rfl, rfl, trivial⟩, i + 1, x6, out ++ val bs[j], rfl, rfl, ?_, ?_, ?_, ?_⟩
        · exact ⟨by have := hs1.1; first | omega | (dsimp only; omega), fun j hj => (hlow6 j hj).trans (hs1.2.1 j hj), hs1.2.2⟩
        · have := (hv bs[j] (List.getElem_mem hj)).2
          simp only [List.length_append]
          omega
        · simp only [List.length_append, List.length_cons, List.length_nil, List.flatMap_append, List.map_append, List.flatMap_cons, List.flatMap_nil, List.append_nil]
          exact hacc6.up (by first | omega | (dsimp only; omega)) fun _ _ _ => rfl
        · have hp : pieceG bs val t[i] = val bs[j] := by
            rw [pieceG, if_pos hc1, hfi]
          rw [← h3, hdrop, putG, hp]
    · intro hc1
      try simp only [decide_eq_true_eq, decide_eq_false_iff_not] at hc1
      refine aw_skip ?_
      simp only [thenA_normal, thenA_ret, thenA_exit, blockA_normal, blockA_ret, blockA_exit, ↓reduceIte, Nat.reduceEqDiff]
      refine aw_region_seq C (pb := false) rfl fun K hK => ?_
      repeat' (first | refine wy0 (h := ?_) | fail)
      refine awOps_nil (hK _ _ ?_)
      clear hK K
      refine aw_cond (by rfl) ?_ ?_
      · intro hc3
        try simp only [decide_eq_true_eq, decide_eq_false_iff_not] at hc3
        refine aw_region C (pb := false) rfl ?_
        repeat' (first | refine wy1 (a := by simp only [go_sem, ↓reduceIte, Nat.reduceEqDiff, reduceCtorEq, Nat.reduceAdd, Nat.reduceMul, Nat.reduceLeDiff, aLoad, aStore, idxC hx hi2]; exact rfl) (h := ?_) | fail)
        refine awOps_append (by rfl) (by rfl) (by rfl) (by rfl) (hacc.up (hi' := s1.nx) (Nat.le_refl _) fun j h1 h2 => upd_ne _ _ (by omega)) T22 rfl T42 rfl (by simp) (by simp [y42]) (k := 1) (new := (encC t[i]).map .sc) (by simp [aSrc, evA, get, upd, zerosA, encC, storeL, List.range, List.range.loop]) (by simp [encC]) (by omega) (by omega) (by have := hs1.1; omega) fun x6 ob6 hacc6 hlow6 _ => ?_
        repeat' (first | refine wy1 (a := by simp only [go_sem, ↓reduceIte, Nat.reduceEqDiff, reduceCtorEq, Nat.reduceAdd, Nat.reduceMul, Nat.reduceLeDiff, aLoad, aStore, idxC hx hi2]; exact rfl) (h := ?_) | fail)
        refine awOps_nil ?_
        try simp only [thenA_normal, thenA_ret, thenA_exit, blockA_normal, blockA_ret, blockA_exit]
        refine aw_region C (pb := false) rfl ?_
        repeat' (first | refine wy1 (a := by simp only [go_sem, ↓reduceIte, Nat.reduceEqDiff, reduceCtorEq, Nat.reduceAdd, Nat.reduceMul, Nat.reduceLeDiff, aLoad, aStore, wrap_small ((i : Int) + 1) (by omega) (by omega)]; exact rfl) (h := ?_) | fail)
        refine awOps_nil ?_
        try simp only [thenA_normal, thenA_ret, thenA_exit, blockA_normal, blockA_ret, blockA_exit]
        -- end of round 0 at 0t1f3t
        refine ⟨t.length - (i + 1), [(0, .av (.sc sx)), (1, .av (.sc x)), (5, (x6)), (6, vI (i + 1))], by omega, AllIn.less ⟨rfl, rfl, rfl, rfl, trivial⟩, i + 1, x6, out ++ [t[i]], rfl, rfl, ?_, ?_, ?_, ?_⟩
        · exact ⟨by have := hs1.1; first | omega | (dsimp only; omega), fun j hj => (hlow6 j hj).trans ((upd_ne _ _ (by have := hs1.1; omega)).trans (hs1.2.1 j hj)), hs1.2.2⟩
        · simp only [List.length_append, List.length_cons, List.length_nil]
          omega
        · simp only [List.length_append, List.length_cons, List.length_nil, List.flatMap_append, List.map_append, List.flatMap_cons, List.flatMap_nil, List.append_nil]
          exact hacc6.up (by first | omega | (dsimp only; omega)) fun _ _ _ => rfl
        · have hp : pieceG bs val t[i] = [t[i]] := by
            rw [pieceG, if_neg (by rw [hc1]; exact Bool.false_ne_true)]
          rw [← h3, hdrop, putG, hp]
      · intro hc3
        try simp only [decide_eq_true_eq, decide_eq_false_iff_not] at hc3
        exact absurd hc3 (by decide)
  · intro hc0
    try simp only [decide_eq_true_eq, decide_eq_false_iff_not] at hc0
    refine aw_exit ?_
    simp only [thenA_normal, thenA_ret, thenA_exit, blockA_normal, blockA_ret, blockA_exit, ↓reduceIte, Nat.reduceEqDiff]
    obtain ⟨ty, ob7, hpv7, hty, hacc7, hlow7, _⟩ := Acc.pure (enc := encC) (k := 3) (fun _ => rfl) hacc
    refine aw_pur 5 hpv7 ?_
    refine aw_region_seq C (pb := false) rfl fun K hK => ?_
    repeat' (first | refine wy0 (h := ?_) | fail)
    refine awOps_nil (hK _ _ ?_)
    clear hK K
    refine aw_ret ?_
    simp only [go_sem, ↓reduceIte, Nat.reduceEqDiff, reduceCtorEq, Nat.reduceAdd, Nat.reduceMul, Nat.reduceLeDiff, aLoad, aStore, FnQ, resA]
    -- 0f.x0.ret
    exact fun _ => ⟨rfl, fun j hj => (hlow7 j hj).trans (hs1.2.1 j hj), hs1.2.2, ty, rfl, by rw [List.drop_of_length_le (by omega), putG] at h3; exact h3 ▸ hty⟩
end Go.Am.Seat
/-
  MADE BY PROGRAM (am.py): the walks of functions 21.
-/
namespace Go.Am.Seat
open Go.Proofs

/-- A list of cells, or none if it is too long. -/
def fitR (l : List Cell) (r : Va) : Prop :=
  (200 < l.length ∧ r = .tup [.av (.sc .nilsl), vB false]) ∨ (l.length ≤ 200 ∧ ∃ y, r = .tup [.av (.sc y), vB true] ∧ GSl encC y l)

theorem bod21 : Try.f21.body = some (Try.f21.body.getD .skip) := rfl
theorem fn21 (L : Loops) (bs : List Bnd) (val : Bnd → List Cell) (t : List Cell) (s : Me) (sx x : Sc) (hsx : GSl encB sx bs) (hx : GSl encC x t) (hv : ∀ b ∈ bs, GSl encC b.t (val b) ∧ (val b).length ≤ 1000) (hb1 : bs.length ≤ 1000000000) (hl : t.length ≤ 1000000) : FnL Try.prog L 21 [.av (.sc sx), .av (.sc x)] s fun r s' => (fitR (putG bs val t []) r) ∧ s' = s := by
  refine FnL.pure (R := fun r => fitR (putG bs val t []) r) ?_
  refine fn_of_body (ts := [4, 5]) Try.func21 bod21 rfl (by simp) (by simp [Try.ntmps21]) fun D0 => ?_
  unfold Try.f21
  simp only [Option.getD_some, initSl]
  refine aw_region_seq C (pb := false) rfl fun K hK => ?_
  repeat' (first | refine wy0 (h := ?_) | fail)
  refine awOps_nil (hK _ _ ?_)
  clear hK K
  refine aw_region_seq C (pb := false) rfl fun K hK => ?_
  repeat' (first | refine wy0 (h := ?_) | fail)
  refine wc (And.intro Try.call57 (fn57 L bs val t _ sx x hsx hx hv hb1 hl)) ?_
  rintro _ _ ⟨⟨y, rfl, hy⟩, rfl⟩
  repeat' (first | refine wy0 (h := ?_) | fail)
  refine awOps_nil (hK _ _ ?_)
  clear hK K
  refine aw_seq ?_
  refine aw_region_seq C (pb := false) rfl fun K hK => ?_
  repeat' (first | refine wy1 (a := by simp only [go_sem, ↓reduceIte, Nat.reduceEqDiff, reduceCtorEq, Nat.reduceAdd, Nat.reduceMul, Nat.reduceLeDiff, aLoad, aStore, lenC hy]; exact rfl) (h := ?_) | fail)
  refine awOps_nil (hK _ _ ?_)
  clear hK K
  refine aw_cond (by rfl) ?_ ?_
  · intro hc0
    try simp only [decide_eq_true_eq, decide_eq_false_iff_not] at hc0
    refine aw_region_seq C (pb := false) rfl fun K hK => ?_
    repeat' (first | refine wy0 (h := ?_) | fail)
    refine awOps_nil (hK _ _ ?_)
    clear hK K
    refine aw_ret ?_
    try simp only [thenA_normal, thenA_ret, thenA_exit, blockA_normal, blockA_ret, blockA_exit]
    simp only [go_sem, ↓reduceIte, Nat.reduceEqDiff, reduceCtorEq, Nat.reduceAdd, Nat.reduceMul, Nat.reduceLeDiff, aLoad, aStore, FnQ, resA]
    -- 0t.ret
    exact fun _ => ⟨by first | rfl | trivial, by first | exact fun _ _ => rfl | trivial, by first | rfl | trivial, .inl ⟨by omega, rfl⟩⟩
  · intro hc0
    try simp only [decide_eq_true_eq, decide_eq_false_iff_not] at hc0
    refine aw_skip ?_
    simp only [thenA_normal, thenA_ret, thenA_exit, blockA_normal, blockA_ret, blockA_exit, ↓reduceIte, Nat.reduceEqDiff]
    refine aw_region_seq C (pb := false) rfl fun K hK => ?_
    repeat' (first | refine wy0 (h := ?_) | fail)
    refine awOps_nil (hK _ _ ?_)
    clear hK K
    refine aw_ret ?_
    simp only [go_sem, ↓reduceIte, Nat.reduceEqDiff, reduceCtorEq, Nat.reduceAdd, Nat.reduceMul, Nat.reduceLeDiff, aLoad, aStore, FnQ, resA]
    -- 0f.ret
    exact fun _ => ⟨by first | rfl | trivial, by first | exact fun _ _ => rfl | trivial, by first | rfl | trivial, .inr ⟨by omega, y, rfl, hy⟩⟩
end Go.Am.Seat
/-
  Am: that a drawn region's operations are ordered, shown by a row of masks (one number for each operation: what must be done ahead of it).
-/
namespace Go.Am
open Go.Proofs
def edgeMask (masks : List Nat) : List Edge → Nat
  | [] => 0
  | e :: l => if Region.binds .any e = true then ((1 <<< e.on) ||| masks.getD e.on 0) ||| edgeMask masks l else edgeMask masks l
def certGo (masks : List Nat) : List Oper → Nat → Bool
  | [], _ => true
  | o :: l, j => Nat.beq (masks.getD j 0) (edgeMask masks o.after.toList) && (o.after.toList.all fun e => !Region.binds .any e || Nat.ble (e.on + 1) j) && certGo masks l (j + 1)
def bitAt (masks : List Nat) (j i : Nat) : Bool := (masks.getD j 0).testBit i
def looksM (ops : Array Oper) (masks : List Nat) (j : Nat) : List Tmp → List (Option Tmp) → Nat → Option Tmp → Bool
  | _, [], _, _ => true
  | lk, none :: l, i, dj => looksM ops masks j lk l (i + 1) dj
  | lk, some d :: l, i, dj => (Nat.beq i j || ((!(lk.contains d) || (bif Nat.ble (i + 1) j then bitAt masks j i else bitAt masks i j)) && ((bif (dj == some d) then (bif Nat.ble (i + 1) j then bitAt masks j i else bitAt masks i j) else true)))) && looksM ops masks j lk l (i + 1) dj
def regGo (ops : Array Oper) (masks : List Nat) (ds : List (Option Tmp)) : List Oper → Nat → Bool
  | [], _ => true
  | o :: l, j => looksM ops masks j (o.looksAt ops) ds 0 o.dst && regGo ops masks ds l (j + 1)
def regM (ops : Array Oper) (masks : List Nat) : Bool := certGo masks ops.toList 0 && regGo ops masks (ops.toList.map (·.dst)) ops.toList 0
theorem edgeMask_bit {masks : List Nat} {i : Nat} : ∀ {l : List Edge}, (edgeMask masks l).testBit i = true → ∃ e ∈ l, Region.binds .any e = true ∧ (e.on = i ∨ (masks.getD e.on 0).testBit i = true)
  | [], h => by simp [edgeMask] at h
  | e :: l, h => by
    rw [edgeMask] at h
    split at h
    · rename_i hb
      rw [Nat.testBit_or, Nat.testBit_or, Bool.or_eq_true, Bool.or_eq_true] at h
      rcases h with (h | h) | h
      · rw [Nat.one_shiftLeft, Nat.testBit_two_pow, decide_eq_true_eq] at h
        exact ⟨e, by simp, hb, .inl h⟩
      · exact ⟨e, by simp, hb, .inr h⟩
      · obtain ⟨e', h1, h2⟩ := edgeMask_bit h
        exact ⟨e', by simp [h1], h2⟩
    · obtain ⟨e', h1, h2⟩ := edgeMask_bit h
      exact ⟨e', by simp [h1], h2⟩
theorem certGo_at {masks : List Nat} : ∀ {l : List Oper} {j k : Nat} {o : Oper}, certGo masks l j = true → l[k]? = some o → masks.getD (j + k) 0 = edgeMask masks o.after.toList ∧ ∀ e ∈ o.after.toList, Region.binds .any e = true → e.on < j + k
  | [], j, k, o, _, h => by simp at h
  | p :: l, j, 0, o, h, h1 => by
    simp only [List.getElem?_cons_zero, Option.some.injEq] at h1
    subst h1
    simp only [certGo, Bool.and_eq_true] at h
    refine ⟨Nat.eq_of_beq_eq_true h.1.1, fun e he hb => ?_⟩
    have := List.all_eq_true.1 h.1.2 e he
    rw [hb, Bool.not_true, Bool.false_or] at this
    have := Nat.le_of_ble_eq_true this
    omega
  | p :: l, j, k + 1, o, h, h1 => by
    simp only [List.getElem?_cons_succ] at h1
    simp only [certGo, Bool.and_eq_true] at h
    have := certGo_at h.2 h1
    rw [show j + 1 + k = j + (k + 1) by omega] at this
    exact this
theorem pre_bit {ops : Array Oper} {masks : List Nat} (h : certGo masks ops.toList 0 = true) : ∀ (f j i : Nat), j < f → j < ops.size → bitAt masks j i = true → pre ops f j i = true
  | 0, j, i, hj, _, _ => by omega
  | f + 1, j, i, hj, hs, hb => by
    have ho : ops.toList[j]? = some ops[j] := by rw [Array.getElem?_toList]; exact Array.getElem?_eq_getElem hs
    obtain ⟨h1, h2⟩ := certGo_at h ho
    rw [Nat.zero_add] at h1 h2
    rw [bitAt, h1] at hb
    obtain ⟨e, he, hbd, hc⟩ := edgeMask_bit hb
    have hlt := h2 e he hbd
    rw [pre, Array.getElem?_eq_getElem hs]
    dsimp only
    rw [Array.any_eq_true']
    refine ⟨e, by simpa using he, ?_⟩
    rw [hbd, Bool.true_and, Bool.or_eq_true, beq_iff_eq]
    rcases hc with hc | hc
    · exact .inl hc
    · exact .inr (pre_bit h f e.on i (by omega) (by omega) hc)
theorem looksM_at {ops : Array Oper} {masks : List Nat} {j : Nat} {lk : List Tmp} {dj : Option Tmp} : ∀ {l : List (Option Tmp)} {i k : Nat} {d : Tmp}, looksM ops masks j lk l i dj = true → l[k]? = some (some d) → (Nat.beq (i + k) j || ((!(lk.contains d) || (bif Nat.ble (i + k + 1) j then bitAt masks j (i + k) else bitAt masks (i + k) j)) && ((bif (dj == some d) then (bif Nat.ble (i + k + 1) j then bitAt masks j (i + k) else bitAt masks (i + k) j) else true)))) = true
  | [], i, k, d, _, h => by simp at h
  | none :: l, i, 0, d, _, h => by simp at h
  | some d' :: l, i, 0, d, h, h1 => by
    simp only [List.getElem?_cons_zero, Option.some.injEq] at h1
    subst h1
    rw [looksM, Bool.and_eq_true] at h
    exact h.1
  | none :: l, i, k + 1, d, h, h1 => by
    rw [looksM] at h
    have := looksM_at h (by simpa using h1)
    rwa [show i + 1 + k = i + (k + 1) by omega] at this
  | some d' :: l, i, k + 1, d, h, h1 => by
    rw [looksM, Bool.and_eq_true] at h
    have := looksM_at h.2 (by simpa using h1)
    rwa [show i + 1 + k = i + (k + 1) by omega] at this
theorem regGo_at {ops : Array Oper} {masks : List Nat} {ds : List (Option Tmp)} : ∀ {l : List Oper} {j k : Nat} {o : Oper}, regGo ops masks ds l j = true → l[k]? = some o → looksM ops masks (j + k) (o.looksAt ops) ds 0 o.dst = true
  | [], j, k, o, _, h => by simp at h
  | p :: l, j, 0, o, h, h1 => by
    simp only [List.getElem?_cons_zero, Option.some.injEq] at h1
    subst h1
    rw [regGo, Bool.and_eq_true] at h
    exact h.1
  | p :: l, j, k + 1, o, h, h1 => by
    rw [regGo, Bool.and_eq_true] at h
    have := regGo_at h.2 (by simpa using h1)
    rwa [show j + 1 + k = j + (k + 1) by omega] at this
theorem regOk_of {ops : Array Oper} {f : Nat} (masks : List Nat) (h : regM ops masks = true) (hf : ops.size = f) : regOk ops f = true := by
  rw [regM, Bool.and_eq_true] at h
  obtain ⟨hc, hr⟩ := h
  rw [regOk, List.all_eq_true]
  intro j hj
  have hj := List.mem_range.1 hj
  have ho : ops.toList[j]? = some ops[j] := by rw [Array.getElem?_toList]; exact Array.getElem?_eq_getElem hj
  have ho2 : ops[j]? = some ops[j] := Array.getElem?_eq_getElem hj
  have hlk := regGo_at hr ho
  rw [Nat.zero_add] at hlk
  rw [Bool.and_eq_true]
  constructor
  · rw [ho2]
    dsimp only
    rw [Array.all_eq_true']
    intro e he
    cases hb : Region.binds .any e
    · rfl
    · have := (certGo_at hc ho).2 e (by simpa using he) hb
      simp only [Bool.not_true, Bool.false_or, decide_eq_true_eq]
      omega
  · rw [List.all_eq_true]
    intro i hi
    have hi := List.mem_range.1 hi
    cases hd : dstOf ops i with
    | none => rfl
    | some d =>
      dsimp only
      have hdi : (ops.toList.map (·.dst))[i]? = some (some d) := by
        rw [List.getElem?_map, Array.getElem?_toList, Array.getElem?_eq_getElem hi]
        rw [dstOf, Array.getElem?_eq_getElem hi] at hd
        exact congrArg some hd
      have := looksM_at hlk hdi
      rw [Nat.zero_add] at this
      by_cases hij : i = j
      · simp [hij]
      · have hne : Nat.beq i j = false := by
          cases h : Nat.beq i j
          · rfl
          · exact absurd (Nat.eq_of_beq_eq_true h) hij
        have hne2 : (i == j) = false := by simpa using hij
        rw [hne, Bool.false_or, Bool.and_eq_true] at this
        rw [hne2, Bool.false_or, Bool.and_eq_true]
        have hl : looksOf ops j = ops[j].looksAt ops := by rw [looksOf, ho2]; rfl
        have hdj : dstOf ops j = ops[j].dst := by rw [dstOf, ho2]; rfl
        have key : (bif Nat.ble (i + 1) j then bitAt masks j i else bitAt masks i j) = true → (if i < j then pre ops f j i else pre ops f i j) = true := by
          intro h
          by_cases hlt : i < j
          · rw [if_pos hlt]
            rw [show Nat.ble (i + 1) j = true from Nat.ble_eq_true_of_le (by omega)] at h
            exact pre_bit hc f j i (by omega) hj h
          · rw [if_neg hlt]
            have : Nat.ble (i + 1) j = false := by
              cases h' : Nat.ble (i + 1) j
              · rfl
              · exact absurd (Nat.le_of_ble_eq_true h') (by omega)
            rw [this] at h
            exact pre_bit hc f i j (by omega) hi h
        rw [hl, hdj]
        constructor
        · rw [Bool.or_eq_true] at this ⊢
          exact this.1.imp id key
        · by_cases hdd : ops[j].dst = some d
          · rw [show (ops[j].dst == some d) = true from by rw [hdd]; exact beq_self_eq_true _] at this
            rw [Bool.or_eq_true]
            exact .inr (key this.2)
          · rw [Bool.or_eq_true]
            exact .inl (decide_eq_true hdd)
end Go.Am
/-
  MADE BY PROGRAM (am.py): the walks of functions 58.
-/
namespace Go.Am.Seat
open Go.Proofs

def ownB (v : Int) (t : List Cell) : Bool := match t with
  | [c] => (c.kind == 1) && (c.n == v)
  | _ => false
theorem one_lt (c : Cell) : 0 < [c].length := by simp

theorem bod58 : Try.f58.body = some (Try.f58.body.getD .skip) := rfl
theorem fn58a (L : Loops) (v : Int) (c : Cell) (s : Me) (x : Sc) (hx : GSl encC x [c]) : FnL Try.prog L 58 [vI v, .av (.sc x)] s fun r s' => (r = vB ((c.kind == 1) && (c.n == v))) ∧ s' = s := by
  refine FnL.pure (R := fun r => r = vB ((c.kind == 1) && (c.n == v))) ?_
  refine fn_of_body (ts := [4]) Try.func58 bod58 rfl (by simp) (by simp [Try.ntmps58]) fun D0 => ?_
  unfold Try.f58
  simp only [Option.getD_some, initSl]
  refine aw_region_seq C (pb := false) rfl fun K hK => ?_
  repeat' (first | refine wy0 (h := ?_) | fail)
  refine awOps_nil (hK _ _ ?_)
  clear hK K
  have e0 : aIndex T 22 (.av (.sc x)) (.av (.sc (.int .i64 0))) = some (.av (.sc (.cptr (.int .i64 c.kind :: .str c.name :: .int .i64 c.n :: ([c].drop (0 + 1)).flatMap encC)))) := idxC hx (i := 0) (one_lt c)
  refine aw_cut_seq C (pb := false) [(4, vB ((c.kind == 1) && (c.n == v)))] rfl ?_ fun n1 hn1 => ?_
  · cases hA0 : (c.kind == 1 : Bool) <;> cases hA1 : (c.n == v : Bool)
    all_goals (repeat' (first | refine wy1 (a := by simp only [go_sem, ↓reduceIte, Nat.reduceEqDiff, reduceCtorEq, Nat.reduceAdd, Nat.reduceMul, Nat.reduceLeDiff, aLoad, aStore, lenC hx, e0, List.getElem_cons_zero, List.length_cons, List.length_nil, Nat.zero_add, Int.natCast_one, beq_self_eq_true, hA0, hA1]; exact rfl) (h := ?_) | refine wn (h := ?_) | fail))
    all_goals (exact awOps_nil ⟨⟨rfl, trivial⟩, rfl, (by first | omega | (dsimp only; omega)), rfl⟩)
  refine aw_ret ?_
  simp only [go_sem, ↓reduceIte, Nat.reduceEqDiff, reduceCtorEq, Nat.reduceAdd, Nat.reduceMul, Nat.reduceLeDiff, aLoad, aStore, FnQ, resA]
  -- .ret
  exact fun _ => ⟨by first | rfl | trivial, by first | exact fun _ _ => rfl | trivial, by first | rfl | trivial, by first | rfl | trivial⟩
theorem fn58b (L : Loops) (v : Int) (t : List Cell) (s : Me) (x : Sc) (hx : GSl encC x t) (hne : ((t.length : Int) == 1) = false) : FnL Try.prog L 58 [vI v, .av (.sc x)] s fun r s' => (r = vB false) ∧ s' = s := by
  refine FnL.pure (R := fun r => r = vB false) ?_
  refine fn_of_body (ts := [4]) Try.func58 bod58 rfl (by simp) (by simp [Try.ntmps58]) fun D0 => ?_
  unfold Try.f58
  simp only [Option.getD_some, initSl]
  refine aw_region_seq C (pb := false) rfl fun K hK => ?_
  repeat' (first | refine wy0 (h := ?_) | fail)
  refine awOps_nil (hK _ _ ?_)
  clear hK K
  refine aw_cut_seq C (pb := false) [(4, vB false)] rfl ?_ fun n1 hn1 => ?_
  · skip
    all_goals (repeat' (first | refine wy1 (a := by simp only [go_sem, ↓reduceIte, Nat.reduceEqDiff, reduceCtorEq, Nat.reduceAdd, Nat.reduceMul, Nat.reduceLeDiff, aLoad, aStore, lenC hx, hne]; exact rfl) (h := ?_) | refine wn (h := ?_) | fail))
    all_goals (exact awOps_nil ⟨⟨rfl, trivial⟩, rfl, (by first | omega | (dsimp only; omega)), rfl⟩)
  refine aw_ret ?_
  simp only [go_sem, ↓reduceIte, Nat.reduceEqDiff, reduceCtorEq, Nat.reduceAdd, Nat.reduceMul, Nat.reduceLeDiff, aLoad, aStore, FnQ, resA]
  -- .ret
  exact fun _ => ⟨by first | rfl | trivial, by first | exact fun _ _ => rfl | trivial, by first | rfl | trivial, by first | rfl | trivial⟩
theorem fn58 (L : Loops) (v : Int) (t : List Cell) (s : Me) (x : Sc) (hx : GSl encC x t) : FnL Try.prog L 58 [vI v, .av (.sc x)] s fun r s' => (r = vB (ownB v t)) ∧ s' = s := by
  match t, hx with
  | [], hx => exact fn58b L v [] s x hx (by rfl)
  | [c], hx => exact fn58a L v c s x hx
  | a :: b :: l, hx => exact fn58b L v _ s x hx (by simp; omega)

end Go.Am.Seat
/-
  MADE BY PROGRAM (am.py): the walks of functions 22.
-/
namespace Go.Am.Seat
open Go.Proofs

theorem own_no {v : Int} {l : List Cell} (h : ∀ h : 0 < l.length, ¬ (l.length = 1 ∧ l[0].kind = 1 ∧ l[0].n = v)) : ¬ ownB v l = true := by
  intro ho
  unfold ownB at ho
  split at ho
  · rename_i c
    simp only [Bool.and_eq_true, beq_iff_eq] at ho
    exact h (by simp) ⟨rfl, ho.1, ho.2⟩
  · cases ho

theorem bod22 : Try.f22.body = some (Try.f22.body.getD .skip) := rfl
theorem fn22 (L : Loops) (bs : List (Int × List Cell)) (s : Me) (x : Sc) (hx : GSl encB x (bs.map bndI)) (hl : bs.length ≤ 1000000) (hr : RightB bs) : FnL Try.prog L 22 [.av (.sc x)] s fun r s' => (r = vB true) ∧ s' = s := by
  refine FnL.pure (R := fun r => r = vB true) ?_
  refine fn_of_body (ts := [2]) Try.func22 bod22 rfl (by simp) (by simp [Try.ntmps22]) fun D0 => ?_
  unfold Try.f22
  simp only [Option.getD_some, initSl]
  refine aw_region_seq C (pb := false) rfl fun K hK => ?_
  repeat' (first | refine wy0 (h := ?_) | fail)
  refine awOps_nil (hK _ _ ?_)
  clear hK K
  refine aw_seq ?_
  refine aw_region_seq C (pb := false) rfl fun K hK => ?_
  repeat' (first | refine wy0 (h := ?_) | fail)
  refine awOps_nil (hK _ _ ?_)
  clear hK K
  refine aw_block ?_
  refine AW.less (sl' := [(0, .av (.sc x)), (3, vI (0))]) (AllIn.less ⟨rfl, rfl, trivial⟩) (aw_loop (fun k sl1 s1 => ∃ (i : Nat), k = bs.length - i ∧ sl1 = [(0, .av (.sc x)), (3, vI (i))] ∧ (Kp s s1) ∧ (i ≤ bs.length)) (k := bs.length - (0)) ⟨0, rfl, rfl, (Kp.refl s).up (by omega), Nat.zero_le _⟩ ?_)
  rintro k1 _ s1 ⟨i, hk1, rfl, hs1, hb⟩
  refine aw_seq ?_
  refine aw_region_seq C (pb := false) rfl fun K hK => ?_
  repeat' (first | refine wy1 (a := by simp only [go_sem, ↓reduceIte, Nat.reduceEqDiff, reduceCtorEq, Nat.reduceAdd, Nat.reduceMul, Nat.reduceLeDiff, aLoad, aStore, lenB hx, List.length_map]; exact rfl) (h := ?_) | fail)
  refine awOps_nil (hK _ _ ?_)
  clear hK K
  refine aw_cond (by rfl) ?_ ?_
  · intro hc0
    try simp only [decide_eq_true_eq, decide_eq_false_iff_not] at hc0
    have hi2 : i < bs.length := by omega
    have hi3 : i < (bs.map bndI).length := by rw [List.length_map]; exact hi2
    obtain ⟨q1, q2, q3, q4, q5, q6, q7⟩ := hr.1 bs[i] (List.getElem_mem hi2)
    have hix : ∀ (j : Nat) (h : j < bs.length), aIndex T 25 (.av (.sc x)) (vI j) = some (.av (.sc (.cptr (.int .i64 bs[j].1 :: .sl bs[j].2.length (bs[j].2.flatMap encC) :: ((bs.map bndI).drop (j + 1)).flatMap encB)))) := fun j h => by
      have := idxB hx (i := j) (by rw [List.length_map]; exact h)
      rw [List.getElem_map] at this
      exact this
    have w1 : decide (bs[i].1 < 0) = false := decide_eq_false (by omega)
    have w2 : decide (bs[i].1 > 999) = false := decide_eq_false (by omega)
    have hrt : rightOk bs[i].2 = true := tm_right ⟨q6, q5, q3, q4⟩
    have h32 : ∀ s' : Me, FnL Try.prog L 32 [vC bs[i].2] s' fun r s'' => r = vB true ∧ s'' = s' := fun s' => (fn32 L bs[i].2 s' _ (gslC _) (by omega) fun c hc => by have := name_size (q5 c hc); omega).mono fun r s'' h => ⟨h.1.trans (congrArg vB hrt), h.2⟩
    have hown : ownB bs[i].1 bs[i].2 = false := by
      cases ho : ownB bs[i].1 bs[i].2
      · rfl
      · exact absurd ho (own_no q7)
    have h58 : ∀ s' : Me, FnL Try.prog L 58 [vI bs[i].1, vC bs[i].2] s' fun r s'' => r = vB false ∧ s'' = s' := fun s' => (fn58 L bs[i].1 bs[i].2 s' _ (gslC _)).mono fun r s'' h => ⟨h.1.trans (congrArg vB hown), h.2⟩
    refine aw_skip ?_
    simp only [thenA_normal, thenA_ret, thenA_exit, blockA_normal, blockA_ret, blockA_exit, ↓reduceIte, Nat.reduceEqDiff]
    refine aw_seq ?_
    refine aw_block ?_
    refine aw_silcut_seq C (pb := false) 54 _ [(0, .av (.sc x)), (3, vI i), (63, vB false)] rfl (regOk_of [0, 0, 3, 7, 15, 31, 63, 127, 127, 511, 1023, 2047, 4095, 8191, 16383, 32767, 65535, 131071, 262143, 262143, 786431, 2097151, 4194303, 8388607, 262143, 262143, 50593791, 117702655, 251920383, 536870911, 1073741823, 2147483647, 4294967295, 8589934591, 8589934591, 34359738367, 68719476735, 137438953471, 274877906943, 549755813887, 1099511627775, 2199023255551, 4398046511103, 4398046511103, 17592186044415, 35184372088831, 70368744177663, 4398046511103, 4398046511103, 426610511577087, 989560464998399, 2115460371841023, 4503599627370495, 9007199254740991] (by kernel_rfl) rfl) rfl (fun _ _ => rfl) ?_ ?_
    · rcases Nat.eq_zero_or_pos i with h0 | h0
      · have w3 : decide ((i : Int) > 0) = false := decide_eq_false (by omega)
        repeat' (first | refine ws1 (a := by simp only [go_sem, ↓reduceIte, Nat.reduceEqDiff, reduceCtorEq, Nat.reduceAdd, Nat.reduceMul, Nat.reduceLeDiff, aLoad, aStore, hix i hi2, w1, w2, w3]; exact rfl) (h := ?_) | refine wsn (h := ?_) | fail)
        try (first | refine wsc (And.intro Try.call32 (h32 _)) ?_ | refine wsn (h := ?_) | fail)
        repeat' (first | refine ws1 (a := by simp only [go_sem, ↓reduceIte, Nat.reduceEqDiff, reduceCtorEq, Nat.reduceAdd, Nat.reduceMul, Nat.reduceLeDiff, aLoad, aStore, hix i hi2, w1, w2, w3]; exact rfl) (h := ?_) | refine wsn (h := ?_) | fail)
        try (first | refine wsc (And.intro Try.call58 (h58 _)) ?_ | refine wsn (h := ?_) | fail)
        repeat' (first | refine ws1 (a := by simp only [go_sem, ↓reduceIte, Nat.reduceEqDiff, reduceCtorEq, Nat.reduceAdd, Nat.reduceMul, Nat.reduceLeDiff, aLoad, aStore, hix i hi2, w1, w2, w3]; exact rfl) (h := ?_) | fail)
        exact sil_nil ⟨rfl, rfl, rfl, trivial⟩
      · have w3 : decide ((i : Int) > 0) = true := decide_eq_true (by omega)
        have w4 : IntKind.i64.wrap ((i : Int) - 1) = (i : Int) - 1 := wrap_small _ (by omega) (by omega)
        have hlt : bs[i - 1].1 < bs[i].1 := List.pairwise_iff_getElem.1 hr.2 (i - 1) i (by omega) hi2 (by omega)
        have w5 : decide (bs[i - 1].1 ≥ bs[i].1) = false := decide_eq_false (by omega)
        have w6 := hix (i - 1) (by omega)
        rw [show ((i - 1 : Nat) : Int) = (i : Int) - 1 by omega, vI] at w6
        repeat' (first | refine ws1 (a := by simp only [go_sem, ↓reduceIte, Nat.reduceEqDiff, reduceCtorEq, Nat.reduceAdd, Nat.reduceMul, Nat.reduceLeDiff, aLoad, aStore, hix i hi2, w1, w2, w3, w4, w5, w6]; exact rfl) (h := ?_) | refine wsn (h := ?_) | fail)
        try (first | refine wsc (And.intro Try.call32 (h32 _)) ?_ | refine wsn (h := ?_) | fail)
        repeat' (first | refine ws1 (a := by simp only [go_sem, ↓reduceIte, Nat.reduceEqDiff, reduceCtorEq, Nat.reduceAdd, Nat.reduceMul, Nat.reduceLeDiff, aLoad, aStore, hix i hi2, w1, w2, w3, w4, w5, w6]; exact rfl) (h := ?_) | refine wsn (h := ?_) | fail)
        try (first | refine wsc (And.intro Try.call58 (h58 _)) ?_ | refine wsn (h := ?_) | fail)
        repeat' (first | refine ws1 (a := by simp only [go_sem, ↓reduceIte, Nat.reduceEqDiff, reduceCtorEq, Nat.reduceAdd, Nat.reduceMul, Nat.reduceLeDiff, aLoad, aStore, hix i hi2, w1, w2, w3, w4, w5, w6]; exact rfl) (h := ?_) | fail)
        exact sil_nil ⟨rfl, rfl, rfl, trivial⟩
    refine aw_cond (by rfl) ?_ ?_
    · intro hc1
      cases hc1
    · intro hc1
      refine aw_skip ?_
      simp only [thenA_normal, thenA_ret, thenA_exit, blockA_normal, blockA_ret, blockA_exit, ↓reduceIte, Nat.reduceEqDiff]
      refine aw_region C (pb := false) rfl ?_
      repeat' (first | refine wy1 (a := by simp only [go_sem, ↓reduceIte, Nat.reduceEqDiff, reduceCtorEq, Nat.reduceAdd, Nat.reduceMul, Nat.reduceLeDiff, aLoad, aStore, wrap_small ((i : Int) + 1) (by omega) (by omega)]; exact rfl) (h := ?_) | fail)
      refine awOps_nil ?_
      try simp only [thenA_normal, thenA_ret, thenA_exit, blockA_normal, blockA_ret, blockA_exit]
      -- end of round 0 at 0t1f
      refine ⟨bs.length - (i + 1), [(0, .av (.sc x)), (3, vI (i + 1))], by omega, AllIn.less ⟨rfl, rfl, trivial⟩, i + 1, rfl, rfl, ?_, ?_⟩
      · exact hs1.up (by omega)
      · omega
  · intro hc0
    try simp only [decide_eq_true_eq, decide_eq_false_iff_not] at hc0
    refine aw_exit ?_
    simp only [thenA_normal, thenA_ret, thenA_exit, blockA_normal, blockA_ret, blockA_exit, ↓reduceIte, Nat.reduceEqDiff]
    refine aw_region_seq C (pb := false) rfl fun K hK => ?_
    repeat' (first | refine wy0 (h := ?_) | fail)
    refine awOps_nil (hK _ _ ?_)
    clear hK K
    refine aw_ret ?_
    simp only [go_sem, ↓reduceIte, Nat.reduceEqDiff, reduceCtorEq, Nat.reduceAdd, Nat.reduceMul, Nat.reduceLeDiff, aLoad, aStore, FnQ, resA]
    -- 0f.x0.ret
    exact fun _ => ⟨by first | rfl | trivial, hs1.2.1, hs1.2.2, by first | rfl | trivial⟩
end Go.Am.Seat
/-
  MADE BY PROGRAM (am.py): the walks of functions 23.
-/
namespace Go.Am.Seat
open Go.Proofs

theorem fn59v (L : Loops) {l : List Bnd} {n v : Int} (hv : placeB l n 0 = v) (s : Me) (x : Sc) (hx : GSl encB x l) (hl : l.length ≤ 2199023255552) : FnL Try.prog L 59 [.av (.sc x), vI n] s fun r s' => r = vI v ∧ s' = s :=
  (fn59 L l n s x hx hl).mono fun r s' h => ⟨h.1.trans (congrArg vI hv), h.2⟩

theorem bod23 : Try.f23.body = some (Try.f23.body.getD .skip) := rfl
theorem fn23 (L : Loops) (bs : List (Int × List Cell)) (s : Me) (x : Sc) (hx : GSl encB x (bs.map bndI)) (hl : bs.length ≤ 1000000) (hlc : ∀ b ∈ bs, b.2.length ≤ 1000000) (hid : ∀ b ∈ bs, ∀ c ∈ b.2, c.kind = 1 → placeB (bs.map bndI) c.n 0 = -1) : FnL Try.prog L 23 [.av (.sc x)] s fun r s' => (r = vB true) ∧ s' = s := by
  refine FnL.pure (R := fun r => r = vB true) ?_
  refine fn_of_body (ts := [2]) Try.func23 bod23 rfl (by simp) (by simp [Try.ntmps23]) fun D0 => ?_
  unfold Try.f23
  simp only [Option.getD_some, initSl]
  refine aw_region_seq C (pb := false) rfl fun K hK => ?_
  repeat' (first | refine wy0 (h := ?_) | fail)
  refine awOps_nil (hK _ _ ?_)
  clear hK K
  refine aw_seq ?_
  refine aw_region_seq C (pb := false) rfl fun K hK => ?_
  repeat' (first | refine wy0 (h := ?_) | fail)
  refine awOps_nil (hK _ _ ?_)
  clear hK K
  refine aw_block ?_
  refine AW.less (sl' := [(0, .av (.sc x)), (3, vI (0))]) (AllIn.less ⟨rfl, rfl, trivial⟩) (aw_loop (fun k sl1 s1 => ∃ (i : Nat), k = bs.length - i ∧ sl1 = [(0, .av (.sc x)), (3, vI (i))] ∧ (Kp s s1) ∧ (i ≤ bs.length)) (k := bs.length - (0)) ⟨0, rfl, rfl, (Kp.refl s).up (by omega), Nat.zero_le _⟩ ?_)
  rintro k1 _ s1 ⟨i, hk1, rfl, hs1, hb⟩
  refine aw_seq ?_
  refine aw_region_seq C (pb := false) rfl fun K hK => ?_
  repeat' (first | refine wy1 (a := by simp only [go_sem, ↓reduceIte, Nat.reduceEqDiff, reduceCtorEq, Nat.reduceAdd, Nat.reduceMul, Nat.reduceLeDiff, aLoad, aStore, lenB hx, List.length_map]; exact rfl) (h := ?_) | fail)
  refine awOps_nil (hK _ _ ?_)
  clear hK K
  refine aw_cond (by rfl) ?_ ?_
  · intro hc0
    try simp only [decide_eq_true_eq, decide_eq_false_iff_not] at hc0
    have hi2 : i < bs.length := by omega
    have hix : aIndex T 25 (.av (.sc x)) (vI i) = some (.av (.sc (.cptr (.int .i64 bs[i].1 :: .sl bs[i].2.length (bs[i].2.flatMap encC) :: ((bs.map bndI).drop (i + 1)).flatMap encB)))) := by
      have := idxB hx (i := i) (by rw [List.length_map]; exact hi2)
      rw [List.getElem_map] at this
      exact this
    have hlb := hlc bs[i] (List.getElem_mem hi2)
    refine aw_skip ?_
    simp only [thenA_normal, thenA_ret, thenA_exit, blockA_normal, blockA_ret, blockA_exit, ↓reduceIte, Nat.reduceEqDiff]
    refine aw_seq ?_
    refine aw_block ?_
    refine aw_region_seq C (pb := false) rfl fun K hK => ?_
    repeat' (first | refine wy0 (h := ?_) | fail)
    refine awOps_nil (hK _ _ ?_)
    clear hK K
    refine aw_block ?_
    refine AW.less (sl' := [(0, .av (.sc x)), (3, vI i), (4, vI (0))]) (AllIn.less ⟨rfl, rfl, rfl, trivial⟩) (aw_loop (fun k sl1 s1 => ∃ (m : Nat), k = bs[i].2.length - m ∧ sl1 = [(0, .av (.sc x)), (3, vI i), (4, vI (m))] ∧ (Kp s s1) ∧ (m ≤ bs[i].2.length)) (k := bs[i].2.length - (0)) ⟨0, rfl, rfl, hs1.up (by omega), Nat.zero_le _⟩ ?_)
    rintro k2 _ s2 ⟨m, hk2, rfl, hs2, hb2⟩
    refine aw_seq ?_
    refine aw_region_seq C (pb := false) rfl fun K hK => ?_
    repeat' (first | refine wy1 (a := by simp only [go_sem, ↓reduceIte, Nat.reduceEqDiff, reduceCtorEq, Nat.reduceAdd, Nat.reduceMul, Nat.reduceLeDiff, aLoad, aStore, hix, lenC (gslC bs[i].2)]; exact rfl) (h := ?_) | fail)
    refine awOps_nil (hK _ _ ?_)
    clear hK K
    refine aw_cond (by rfl) ?_ ?_
    · intro hc1
      try simp only [decide_eq_true_eq, decide_eq_false_iff_not] at hc1
      have hm2 : m < bs[i].2.length := by omega
      have hck := hid bs[i] (List.getElem_mem hi2) bs[i].2[m] (List.getElem_mem hm2)
      refine aw_skip ?_
      simp only [thenA_normal, thenA_ret, thenA_exit, blockA_normal, blockA_ret, blockA_exit, ↓reduceIte, Nat.reduceEqDiff]
      refine aw_seq ?_
      refine aw_block ?_
      refine aw_region_seq C (pb := false) rfl fun K hK => ?_
      repeat' (first | refine wy1 (a := by simp only [go_sem, ↓reduceIte, Nat.reduceEqDiff, reduceCtorEq, Nat.reduceAdd, Nat.reduceMul, Nat.reduceLeDiff, aLoad, aStore, hix, idxC (gslC bs[i].2) hm2]; exact rfl) (h := ?_) | refine wz1 (a := by simp only [go_sem, ↓reduceIte, Nat.reduceEqDiff, reduceCtorEq, Nat.reduceAdd, Nat.reduceMul, Nat.reduceLeDiff, aLoad, aStore, hix, idxC (gslC bs[i].2) hm2]; exact rfl) (h := ?_) | fail)
      refine awOps_nil (hK _ _ ?_)
      refine AW.less (sl' := [(0, .av (.sc x)), (3, vI i), (4, vI m), (5, .av (.ptr (s2.nx + 16) 0))]) (AllIn.less ⟨rfl, rfl, rfl, rfl, trivial⟩) ?_
      refine aw_state (J := fun s7 => Kp s s7 ∧ s7.ob (s2.nx + 16) = .cs [.sc (.int .i64 bs[i].2[m].kind), .sc (.str bs[i].2[m].name), .sc (.int .i64 bs[i].2[m].n)] 0) ⟨⟨by have := hs2.1; exact (by first | omega | (dsimp only; omega) | (dsimp only at *; omega)), fun j hj => (upd_ne _ _ (by have := hs2.1; omega)).trans ((upd_ne _ _ (by have := hs2.1; omega)).trans (hs2.2.1 j hj)), hs2.2.2⟩, upd_same _ _ _⟩ fun s7 hJ7 => ?_
      obtain ⟨hK7, hc8⟩ := hJ7
      clear hK K
      refine aw_cut_seq C (pb := false) [(0, .av (.sc x)), (3, vI i), (4, vI m), (39, vB false)] rfl ?_ fun n8 hn8 => ?_
      · by_cases hkd : bs[i].2[m].kind = 1
        · have w1 : (bs[i].2[m].kind == 1) = true := beq_iff_eq.2 hkd
          have w2 := hck hkd
          have w3 : decide ((-1 : Int) ≥ 0) = false := rfl
          repeat' (first | refine wy1 (a := by simp only [go_sem, ↓reduceIte, Nat.reduceEqDiff, reduceCtorEq, Nat.reduceAdd, Nat.reduceMul, Nat.reduceLeDiff, aLoad, aStore, hc8, w1, w2, w3]; exact rfl) (h := ?_) | refine wn (h := ?_) | fail)
          try (first | (refine wc (And.intro Try.call59 (fn59v L (hck hkd) _ x hx (by rw [List.length_map]; omega))) ?_; rintro _ _ ⟨rfl, rfl⟩) | refine wn (h := ?_) | fail)
          repeat' (first | refine wy1 (a := by simp only [go_sem, ↓reduceIte, Nat.reduceEqDiff, reduceCtorEq, Nat.reduceAdd, Nat.reduceMul, Nat.reduceLeDiff, aLoad, aStore, hc8, w1, w2, w3]; exact rfl) (h := ?_) | refine wn (h := ?_) | fail)
          exact awOps_nil ⟨⟨rfl, rfl, rfl, rfl, trivial⟩, rfl, (by first | omega | (dsimp only; omega)), rfl⟩
        · have w1 : (bs[i].2[m].kind == 1) = false := beq_eq_false_iff_ne.2 hkd
          repeat' (first | refine wy1 (a := by simp only [go_sem, ↓reduceIte, Nat.reduceEqDiff, reduceCtorEq, Nat.reduceAdd, Nat.reduceMul, Nat.reduceLeDiff, aLoad, aStore, hc8, w1]; exact rfl) (h := ?_) | refine wn (h := ?_) | fail)
          try (first | (refine wc (And.intro Try.call59 (fn59v L (hck hkd) _ x hx (by rw [List.length_map]; omega))) ?_; rintro _ _ ⟨rfl, rfl⟩) | refine wn (h := ?_) | fail)
          repeat' (first | refine wy1 (a := by simp only [go_sem, ↓reduceIte, Nat.reduceEqDiff, reduceCtorEq, Nat.reduceAdd, Nat.reduceMul, Nat.reduceLeDiff, aLoad, aStore, hc8, w1]; exact rfl) (h := ?_) | refine wn (h := ?_) | fail)
          exact awOps_nil ⟨⟨rfl, rfl, rfl, rfl, trivial⟩, rfl, (by first | omega | (dsimp only; omega)), rfl⟩
      refine aw_cond (by rfl) ?_ ?_
      · intro hc2
        cases hc2
      · intro hc2
        refine aw_skip ?_
        simp only [thenA_normal, thenA_ret, thenA_exit, blockA_normal, blockA_ret, blockA_exit, ↓reduceIte, Nat.reduceEqDiff]
        refine aw_region C (pb := false) rfl ?_
        repeat' (first | refine wy1 (a := by simp only [go_sem, ↓reduceIte, Nat.reduceEqDiff, reduceCtorEq, Nat.reduceAdd, Nat.reduceMul, Nat.reduceLeDiff, aLoad, aStore, wrap_small ((m : Int) + 1) (by omega) (by omega)]; exact rfl) (h := ?_) | fail)
        refine awOps_nil ?_
        try simp only [thenA_normal, thenA_ret, thenA_exit, blockA_normal, blockA_ret, blockA_exit]
        -- end of round 1 at 0t1t2f
        refine ⟨bs[i].2.length - (m + 1), [(0, .av (.sc x)), (3, vI i), (4, vI (m + 1))], by omega, AllIn.less ⟨rfl, rfl, rfl, trivial⟩, m + 1, rfl, rfl, ?_, ?_⟩
        · exact hK7.up (by omega)
        · omega
    · intro hc1
      try simp only [decide_eq_true_eq, decide_eq_false_iff_not] at hc1
      refine aw_exit ?_
      simp only [thenA_normal, thenA_ret, thenA_exit, blockA_normal, blockA_ret, blockA_exit, ↓reduceIte, Nat.reduceEqDiff]
      refine aw_region C (pb := false) rfl ?_
      repeat' (first | refine wy1 (a := by simp only [go_sem, ↓reduceIte, Nat.reduceEqDiff, reduceCtorEq, Nat.reduceAdd, Nat.reduceMul, Nat.reduceLeDiff, aLoad, aStore, wrap_small ((i : Int) + 1) (by omega) (by omega)]; exact rfl) (h := ?_) | fail)
      refine awOps_nil ?_
      try simp only [thenA_normal, thenA_ret, thenA_exit, blockA_normal, blockA_ret, blockA_exit]
      -- end of round 0 at 0t1f.x2
      refine ⟨bs.length - (i + 1), [(0, .av (.sc x)), (3, vI (i + 1))], by omega, AllIn.less ⟨rfl, rfl, trivial⟩, i + 1, rfl, rfl, ?_, ?_⟩
      · exact hs2.up (by omega)
      · omega
  · intro hc0
    try simp only [decide_eq_true_eq, decide_eq_false_iff_not] at hc0
    refine aw_exit ?_
    simp only [thenA_normal, thenA_ret, thenA_exit, blockA_normal, blockA_ret, blockA_exit, ↓reduceIte, Nat.reduceEqDiff]
    refine aw_region_seq C (pb := false) rfl fun K hK => ?_
    repeat' (first | refine wy0 (h := ?_) | fail)
    refine awOps_nil (hK _ _ ?_)
    clear hK K
    refine aw_ret ?_
    simp only [go_sem, ↓reduceIte, Nat.reduceEqDiff, reduceCtorEq, Nat.reduceAdd, Nat.reduceMul, Nat.reduceLeDiff, aLoad, aStore, FnQ, resA]
    -- 0f.x0.ret
    exact fun _ => ⟨by first | rfl | trivial, hs1.2.1, hs1.2.2, by first | rfl | trivial⟩
end Go.Am.Seat
/-
  BINDINGS put in: R2.Apply, R2.Right and R2.Idem at what Mgu tells; matching is complete; one way.
-/
namespace Go.Am.Seat
open Go.Proofs
/-- What bindings put for a variable. -/
def bmap (bs : List (Int × List Cell)) (n : Int) : List Cell := match bs.find? (fun b => b.1 == n) with
  | some b => b.2
  | none => [varCell n]
theorem appT_congr {s u : Int → List Cell} : ∀ {l : List Cell}, (∀ c ∈ l, c.kind = 1 → s c.n = u c.n) → appT s l = appT u l
  | [], _ => rfl
  | c :: l, h => by
    have e0 : ∀ s : Int → List Cell, appT s (c :: l) = (if c.kind = 1 then s c.n else [c]) ++ appT s l := fun s => by simp [appT]
    rw [e0, e0, appT_congr fun d hd => h d (by simp [hd])]
    split
    · rename_i hk; rw [h c (by simp) hk]
    · rfl
theorem pieceG_eq {bs : List (Int × List Cell)} {c : Cell} (hc : cellOk c = true) : pieceG (bs.map bndI) (fun b => valT b.t) c = if c.kind = 1 then bmap bs c.n else [c] := by
  unfold pieceG bmap
  by_cases hk : c.kind = 1
  · rw [if_pos (beq_iff_eq.2 hk), if_pos hk, List.find?_map]
    have : ((fun b : Bnd => b.v == c.n) ∘ bndI) = fun b : Int × List Cell => b.1 == c.n := rfl
    rw [this]
    cases bs.find? fun b => b.1 == c.n with
    | none => dsimp only [Option.map_none]; rw [← ok_varCell hc hk]
    | some b => dsimp only [Option.map_some]; exact valT_eq (bndI_t b)
  · rw [if_neg (by rw [beq_iff_eq]; exact hk), if_neg hk]
theorem putG_eq {bs : List (Int × List Cell)} : ∀ {l out : List Cell}, (∀ c ∈ l, cellOk c = true) → putG (bs.map bndI) (fun b => valT b.t) l out = out ++ appT (bmap bs) l
  | [], out, _ => by simp [putG, appT]
  | c :: l, out, h => by
    have e0 : appT (bmap bs) (c :: l) = (if c.kind = 1 then bmap bs c.n else [c]) ++ appT (bmap bs) l := by simp [appT]
    rw [putG, putG_eq fun d hd => h d (by simp [hd]), pieceG_eq (h c (by simp)), e0, List.append_assoc]
theorem fnApply (L : Loops) (bs : List (Int × List Cell)) (t : List Cell) (s : Me) (sx x : Sc) (hsx : GSl encB sx (bs.map bndI)) (hx : GSl encC x t) (hb : bs.length ≤ 1000000) (hc : ∀ b ∈ bs, b.2.length ≤ 1000) (ht : ∀ c ∈ t, cellOk c = true) (hl : t.length ≤ 1000000) : FnL Try.prog L 21 [.av (.sc sx), .av (.sc x)] s fun r s' => fitR (appT (bmap bs) t) r ∧ s' = s := by
  refine (fn21 L (bs.map bndI) (fun b => valT b.t) t s sx x hsx hx (fun b h => ?_) (by rw [List.length_map]; omega) hl).mono fun r s' ⟨h1, h2⟩ => ⟨?_, h2⟩
  · obtain ⟨d, hd, rfl⟩ := List.mem_map.1 h
    have := bndI_t d
    rw [valT_eq this]
    exact ⟨this, hc d hd⟩
  · rw [putG_eq ht, List.nil_append] at h1
    exact h1
theorem fnApplyV (L : Loops) {bs : List (Int × List Cell)} {t v : List Cell} (hv : appT (bmap bs) t = v) (hl : 1 ≤ v.length ∧ v.length ≤ 200) (s : Me) (sx x : Sc) (hsx : GSl encB sx (bs.map bndI)) (hx : GSl encC x t) (hb : bs.length ≤ 1000000) (hc : ∀ b ∈ bs, b.2.length ≤ 1000) (ht : RTm t) : FnL Try.prog L 21 [.av (.sc sx), .av (.sc x)] s fun r s' => r = .tup [vC v, vB true] ∧ s' = s := by
  have := ht.len
  refine (fnApply L bs t s sx x hsx hx hb hc ht.ok (by omega)).mono fun r s' ⟨h1, h2⟩ => ⟨?_, h2⟩
  rw [hv] at h1
  rcases h1 with ⟨h, _⟩ | ⟨_, y, h, hy⟩
  · omega
  · rw [h, gsl_cells hy hl.1]
theorem fnApplyN (L : Loops) {bs : List (Int × List Cell)} {t v : List Cell} (hv : appT (bmap bs) t = v) (hl : 200 < v.length) (s : Me) (sx x : Sc) (hsx : GSl encB sx (bs.map bndI)) (hx : GSl encC x t) (hb : bs.length ≤ 1000000) (hc : ∀ b ∈ bs, b.2.length ≤ 1000) (ht : RTm t) : FnL Try.prog L 21 [.av (.sc sx), .av (.sc x)] s fun r s' => r = .tup [.av (.sc .nilsl), vB false] ∧ s' = s := by
  have := ht.len
  refine (fnApply L bs t s sx x hsx hx hb hc ht.ok (by omega)).mono fun r s' ⟨h1, h2⟩ => ⟨?_, h2⟩
  rw [hv] at h1
  rcases h1 with ⟨_, h⟩ | ⟨h, _⟩
  · exact h
  · omega
theorem fnApplyG (L : Loops) {bs : List (Int × List Cell)} {t w : List Cell} {g : Bool} (hv : appT (bmap bs) t = w) (hg : g = decide (w.length ≤ 200)) (s : Me) (sx x : Sc) (hsx : GSl encB sx (bs.map bndI)) (hx : GSl encC x t) (hb : bs.length ≤ 1000 ∧ ∀ b ∈ bs, b.2.length ≤ 200) (ht : RTm t) : FnL Try.prog L 21 [.av (.sc sx), .av (.sc x)] s fun r s' => (∃ y, r = .tup [.av (.sc y), vB g] ∧ (g = true → GSl encC y w)) ∧ s' = s := by
  have := ht.len
  refine (fnApply L bs t s sx x hsx hx (by omega) (fun b h => by have := hb.2 b h; omega) ht.ok (by omega)).mono fun r s' ⟨h1, h2⟩ => ⟨?_, h2⟩
  rw [hv] at h1
  rcases h1 with ⟨h3, h⟩ | ⟨h3, y, h, hy⟩
  · rw [show g = false by rw [hg]; exact decide_eq_false (by omega)]
    exact ⟨_, h, fun h => by cases h⟩
  · rw [show g = true by rw [hg]; exact decide_eq_true h3]
    exact ⟨y, h, fun _ => hy⟩
theorem fnSameE (L : Loops) (a : List (Int × List Cell)) (s : Me) (x y : Sc) (hx : GSl encB x (a.map bndI)) (hy : GSl encB y (a.map bndI)) (hl : a.length ≤ 1000 ∧ ∀ p ∈ a, p.2.length ≤ 200) : FnL Try.prog L 17 [.av (.sc x), .av (.sc y)] s fun r s' => r = vB true ∧ s' = s :=
  (fnSame L a a s x y hx hy (by omega) (fun c hc => by have := hl.2 c hc; omega)).mono fun r s' h => ⟨h.1.trans (congrArg vB (decide_eq_true rfl)), h.2⟩
theorem fnSameC (L : Loops) {a b : List Cell} {v : Bool} (hv : sameL a b = v) (s : Me) (x y : Sc) (hx : GSl encC x a) (hy : GSl encC y b) (hl : a.length ≤ 1000000) : FnL Try.prog L 20 [.av (.sc x), .av (.sc y)] s fun r s' => r = vB v ∧ s' = s :=
  (fn20 L a b s x y hx hy (by omega)).mono fun r s' h => ⟨h.1.trans (congrArg vB hv), h.2⟩
theorem bmap_tm {b : List (Int × List Cell)} (h : ∀ p ∈ b, RTm p.2) : Terms (bmap b) := fun n => by
  unfold bmap
  cases hf : b.find? fun p => p.1 == n with
  | none => rfl
  | some p => exact (h p (List.mem_of_find?_eq_some hf)).tk
/-! ### What Mgu tells, as bindings -/
theorem bmap_bnds (s : Int → List Cell) (n : Int) : ∀ ns : List Nat, bmap ((ns.filterMap (bnd s)).map toI) n = if ∃ m ∈ ns, (m : Int) = n then s n else [varCell n]
  | [] => by simp [bmap]
  | m :: ns => by
    have ih := bmap_bnds s n ns
    rw [List.filterMap_cons, bnd]
    by_cases e : s m = [varCell m]
    · rw [if_pos e]
      dsimp only
      rw [ih]
      by_cases hm : (m : Int) = n
      · rw [if_pos (⟨m, by simp, hm⟩ : ∃ k ∈ m :: ns, (k : Int) = n)]
        split
        · rfl
        · rw [← hm, e]
      · by_cases h : ∃ k ∈ ns, (k : Int) = n
        · obtain ⟨k, h1, h2⟩ := h
          rw [if_pos ⟨k, h1, h2⟩, if_pos ⟨k, by simp [h1], h2⟩]
        · rw [if_neg h, if_neg]
          rintro ⟨k, h1, h2⟩
          rcases List.mem_cons.1 h1 with rfl | h1
          · exact hm h2
          · exact h ⟨k, h1, h2⟩
    · rw [if_neg e]
      dsimp only
      by_cases hm : (m : Int) = n
      · rw [if_pos (⟨m, by simp, hm⟩ : ∃ k ∈ m :: ns, (k : Int) = n), ← hm]
        simp [bmap, toI]
      · have hb : bmap (List.map toI ((m, s m) :: List.filterMap (bnd s) ns)) n = bmap ((ns.filterMap (bnd s)).map toI) n := by
          rw [List.map_cons, bmap, bmap, List.find?_cons_of_neg (by simp only [toI, beq_iff_eq]; exact hm)]
        rw [hb, ih]
        by_cases h : ∃ k ∈ ns, (k : Int) = n
        · obtain ⟨k, h1, h2⟩ := h
          rw [if_pos ⟨k, h1, h2⟩, if_pos ⟨k, by simp [h1], h2⟩]
        · rw [if_neg h, if_neg]
          rintro ⟨k, h1, h2⟩
          rcases List.mem_cons.1 h1 with rfl | h1
          · exact hm h2
          · exact h ⟨k, h1, h2⟩
theorem occ_range {t : List Cell} (hok : ∀ c ∈ t, cellOk c = true) {n : Int} (h : occ t n) : 0 ≤ n ∧ n ≤ 999 := by
  obtain ⟨c, hc, h1, h2⟩ := h
  have := (ok_var (hok c hc) h1).2
  omega
theorem ok_two {a b : List Cell} (ha : RTm a) (hb : RTm b) : ∀ c ∈ a ++ b, cellOk c = true := fun c hc => (List.mem_append.1 hc).elim (ha.ok c) (hb.ok c)
/-- What is told is small. -/
def small (s : Int → List Cell) : Prop := ∀ n : Nat, n < 1000 → (s n).length ≤ 200
theorem small_iff (s : Int → List Cell) : (List.range 1000).any (fun n => decide (200 < (s (n : Nat)).length)) = true ↔ ¬ small s := by
  rw [List.any_eq_true]
  constructor
  · rintro ⟨n, h1, h2⟩ h
    have := h n (List.mem_range.1 h1)
    have := of_decide_eq_true h2
    omega
  · intro h
    refine Classical.byContradiction fun k => h fun n hn => ?_
    rcases Nat.lt_or_ge 200 (s (n : Nat)).length with h1 | h1
    · exact absurd ⟨n, List.mem_range.2 hn, decide_eq_true h1⟩ k
    · exact h1
/-- The bindings of a normal one. -/
def bnds (s : Int → List Cell) : List (Nat × List Cell) := (List.range 1000).filterMap (bnd s)
theorem mguO_small {s : Int → List Cell} (h : small s) : mguO s = (bnds s, 0) := by
  rw [mguO, if_neg]
  · rfl
  · rw [small_iff]; exact fun k => k h
theorem mguO_big {s : Int → List Cell} (h : ¬ small s) : mguO s = ([], 2) := by
  rw [mguO, if_pos]
  rw [small_iff]; exact h
theorem mgu_norm {a b : List Cell} (ha : RTm a) (hb : RTm b) {s : Int → List Cell} (h : NormO a b s) : mgu a b = mguO s := by
  rcases mgu_cases ha hb with ⟨h1, h2⟩ | ⟨u, h1, h2⟩
  · exact absurd h.eq (h2 s h.tm)
  · rw [h2, h1.toNorm.uniq h.toNorm]
theorem bmap_norm {a b : List Cell} (ha : RTm a) (hb : RTm b) {s : Int → List Cell} (h : NormO a b s) : bmap ((bnds s).map toI) = s := by
  funext n
  rw [bnds, bmap_bnds]
  split
  · rfl
  · rename_i h1
    refine (h.out n fun k => h1 ?_).symm
    have := occ_range (ok_two ha hb) k
    exact ⟨n.toNat, List.mem_range.2 (by omega), by omega⟩
theorem bnds_mem {s : Int → List Cell} {p : Int × List Cell} : p ∈ (bnds s).map toI ↔ ∃ n : Nat, n < 1000 ∧ p = ((n : Int), s n) ∧ s n ≠ [varCell n] := by
  rw [List.mem_map]
  constructor
  · rintro ⟨q, h1, rfl⟩
    obtain ⟨n, h2, h3⟩ := List.mem_filterMap.1 h1
    rw [bnd] at h3
    split at h3
    · cases h3
    · rename_i h4
      simp only [Option.some.injEq] at h3
      subst h3
      exact ⟨n, List.mem_range.1 h2, rfl, h4⟩
  · rintro ⟨n, h1, rfl, h2⟩
    exact ⟨(n, s n), List.mem_filterMap.2 ⟨n, List.mem_range.2 h1, by rw [bnd, if_neg h2]⟩, rfl⟩
theorem bnds_lt (s : Int → List Cell) : ((bnds s).map toI).Pairwise fun a b => a.1 < b.1 := by
  rw [List.pairwise_map, bnds, List.pairwise_filterMap]
  refine List.pairwise_lt_range.imp fun {n m} h p hp q hq => ?_
  have key : ∀ {n : Nat} {p : Nat × List Cell}, bnd s n = some p → p.1 = n := by
    intro n p hp
    rw [bnd] at hp
    split at hp
    · cases hp
    · simp only [Option.some.injEq] at hp
      rw [← hp]
  have h1 := key hp
  have h2 := key hq
  simp only [toI]
  omega
theorem bnds_right {a b : List Cell} (ha : RTm a) (hb : RTm b) {s : Int → List Cell} (h : NormO a b s) (hs : small s) : RightB ((bnds s).map toI) := by
  refine ⟨fun p hp => ?_, bnds_lt s⟩
  obtain ⟨n, hn, rfl, hne⟩ := bnds_mem.1 hp
  have ho : occ (a ++ b) n := Classical.byContradiction fun k => hne (h.out n k)
  refine ⟨by dsimp only; omega, by dsimp only; omega, h.tm.pos n, hs n hn, fun c hc => (h.ok n ho c hc).1, h.tm n, fun h0 ⟨h1, h2, h3⟩ => hne ?_⟩
  dsimp only at h0 h1 h2 h3
  obtain ⟨x, hx⟩ := List.length_eq_one_iff.1 h1
  have hc := h.vc n x (by rw [hx]; simp)
  simp only [hx, List.getElem_cons_zero] at h2 h3
  rw [hx, hc h2, h3]
theorem bnds_idem {a b : List Cell} (ha : RTm a) (hb : RTm b) {s : Int → List Cell} (h : NormO a b s) : ∀ p ∈ (bnds s).map toI, ∀ c ∈ p.2, c.kind = 1 → placeB (((bnds s).map toI).map bndI) c.n 0 = -1 := by
  intro p hp c hc hk
  obtain ⟨n, hn, rfl, hne⟩ := bnds_mem.1 hp
  dsimp only at hc
  have h1 := appT_fix h.tm (h.toNorm.idem n) c hc hk
  have hcv := h.vc n c hc hk
  rcases placeB_spec (((bnds s).map toI).map bndI) c.n 0 with ⟨h2, _⟩ | ⟨i, hi, _, h2⟩
  · exact h2
  · have hm := List.mem_of_find?_eq_some h2
    have hv := List.find?_some h2
    obtain ⟨q, hq, hqe⟩ := List.mem_map.1 hm
    obtain ⟨m, hm2, rfl, hne2⟩ := bnds_mem.1 hq
    rw [← hqe] at hv
    simp only [bndI, beq_iff_eq] at hv
    refine absurd ?_ hne2
    rw [hv, h1, ← hcv]
theorem bnds_len {s : Int → List Cell} (hs : small s) : ((bnds s).map toI).length ≤ 1000 ∧ ∀ p ∈ (bnds s).map toI, p.2.length ≤ 200 := by
  refine ⟨by rw [List.length_map]; exact Nat.le_trans (List.length_filterMap_le _ _) (by simp), fun p hp => ?_⟩
  obtain ⟨n, hn, rfl, _⟩ := bnds_mem.1 hp
  exact hs n hn
/-! ### Matching -/
theorem appT_inj {s u : Int → List Cell} (hs : Terms s) (hu : Terms u) : ∀ {l : List Cell} {r r' : List Cell}, appT s l ++ r = appT u l ++ r' → ∀ c ∈ l, c.kind = 1 → s c.n = u c.n
  | [], _, _, _, c, hc, _ => by simp at hc
  | d :: l, r, r', h, c, hc, hk => by
    have e0 : ∀ s : Int → List Cell, appT s (d :: l) = (if d.kind = 1 then s d.n else [d]) ++ appT s l := fun s => by simp [appT]
    rw [e0, e0, List.append_assoc, List.append_assoc] at h
    by_cases hd : d.kind = 1
    · rw [if_pos hd, if_pos hd] at h
      have h1 := takes_app (r := appT s l ++ r) (hs d.n)
      rw [h, takes_app (r := appT u l ++ r') (hu d.n)] at h1
      obtain ⟨e1, e2⟩ := List.append_inj h (Option.some.inj h1).symm
      rcases List.mem_cons.1 hc with rfl | hc
      · exact e1
      · exact appT_inj hs hu e2 c hc hk
    · rw [if_neg hd, if_neg hd] at h
      rcases List.mem_cons.1 hc with rfl | hc
      · exact absurd hk hd
      · exact appT_inj hs hu (List.cons.inj h).2 c hc hk
theorem matG_complete {b : List Cell} {u : Int → List Cell} (hu : Terms u) : ∀ {l : List Cell} {k : Nat} {r : List Cell} {M : Int → Option (List Cell)}, b.drop k = appT u l ++ r → (∀ n t, M n = some t → t = u n) → ∃ M', matG b l k M = some M'
  | [], k, r, M, _, _ => ⟨M, rfl⟩
  | c :: l, k, r, M, h, hM => by
    have e0 : appT u (c :: l) = (if c.kind = 1 then u c.n else [c]) ++ appT u l := by simp [appT]
    rw [e0, List.append_assoc] at h
    have hp : 1 ≤ (if c.kind = 1 then u c.n else [c]).length := by
      split
      · exact hu.pos _
      · simp
    have hk : k < b.length := by
      have := congrArg List.length h
      rw [List.length_append, List.length_drop] at this
      omega
    rw [matG, List.getElem?_eq_getElem hk]
    dsimp only
    by_cases hc : c.kind = 1
    · rw [if_pos hc] at h ⊢
      have ht : takes (b.drop k) 1 = some (u c.n).length := by rw [h]; exact takes_app (hu c.n)
      rw [ht]
      dsimp only
      have hsl : (b.take (k + (u c.n).length)).drop k = u c.n := by rw [slice_take, h, List.take_left]
      rw [hsl]
      have hd : b.drop (k + (u c.n).length) = appT u l ++ r := by rw [← List.drop_drop, h, List.drop_left]
      have hM' : ∀ n t, updI M c.n (u c.n) n = some t → t = u n := by
        intro n t ht
        unfold updI at ht
        split at ht
        · rename_i e
          rw [e]
          exact (Option.some.inj ht).symm
        · exact hM n t ht
      cases hm : M c.n with
      | none => exact matG_complete hu hd hM'
      | some v =>
        dsimp only
        rw [hM _ _ hm, if_pos (sameL_iff.2 rfl)]
        exact matG_complete hu hd hM'
    · rw [if_neg hc] at h ⊢
      have h2 := List.drop_eq_getElem_cons hk
      rw [h2] at h
      obtain ⟨e1, e2⟩ := List.cons.inj h
      rw [if_pos (cellEq_iff.2 e1.symm)]
      exact matG_complete hu (by simpa using e2) hM
theorem matR_complete {a b : List Cell} {u : Int → List Cell} (hu : Terms u) (h : appT u a = b) : (matR a b).isSome = true := by
  obtain ⟨M, hM⟩ := matG_complete (b := b) (l := a) (k := 0) (r := []) (M := fun _ => none) hu (by rw [List.drop_zero, List.append_nil, h]) fun n t h => by cases h
  rw [matR, hM]; rfl
end Go.Am.Seat
/-
  ONE WAY: where the second term has no variables, Match and Mgu tell the same.
-/
namespace Go.Am.Seat
open Go.Proofs
theorem sorted_ext {α : Type} : ∀ {a b : List (Int × α)}, (a.Pairwise fun x y => x.1 < y.1) → (b.Pairwise fun x y => x.1 < y.1) → (∀ p, p ∈ a ↔ p ∈ b) → a = b
  | [], [], _, _, _ => rfl
  | [], y :: b, _, _, h => by have := (h y).2 (by simp); simp at this
  | x :: a, [], _, _, h => by have := (h x).1 (by simp); simp at this
  | x :: a, y :: b, ha, hb, h => by
    obtain ⟨a1, a2⟩ := List.pairwise_cons.1 ha
    obtain ⟨b1, b2⟩ := List.pairwise_cons.1 hb
    have e : x = y := by
      have h1 := (h x).1 (by simp)
      have h2 := (h y).2 (by simp)
      rcases List.mem_cons.1 h1 with h1 | h1
      · exact h1
      · rcases List.mem_cons.1 h2 with h2 | h2
        · exact h2.symm
        · have := b1 x h1
          have := a1 y h2
          omega
    subst e
    rw [sorted_ext a2 b2 fun p => ?_]
    constructor
    · intro hp
      have := (h p).1 (by simp [hp])
      rcases List.mem_cons.1 this with e | h'
      · subst e
        have := a1 p hp
        omega
      · exact h'
    · intro hp
      have := (h p).2 (by simp [hp])
      rcases List.mem_cons.1 this with e | h'
      · subst e
        have := b1 p hp
        omega
      · exact h'
theorem outG_of {M : Int → Option (List Cell)} {n : Int} {t : List Cell} (hM : M n = some t) (hv : headV t n = false) : ∀ {l : List Int}, n ∈ l → (n, t) ∈ outG M l
  | [], h => by simp at h
  | m :: l, h => by
    rw [outG]
    rcases List.mem_cons.1 h with rfl | h
    · rw [hM]
      dsimp only
      rw [if_neg (by rw [hv]; decide)]
      simp
    · split
      · split
        · exact outG_of hM hv h
        · exact List.mem_cons_of_mem _ (outG_of hM hv h)
      · exact outG_of hM hv h
theorem varsG_occ {l : List Cell} {n : Int} : n ∈ varsG l [] ↔ occ l n := by
  constructor
  · intro h
    rcases varsG_kind h with h | h
    · simp at h
    · exact h
  · rintro ⟨c, h1, h2, h3⟩
    rw [← h3]
    exact varsG_mem (.inl ⟨h1, h2⟩)
/-- No variables stand in a row. -/
theorem ground_of {l : List Cell} (h : varsG l [] = []) : ∀ c ∈ l, ¬ c.kind = 1 := fun c hc hk => by
  have := varsG_occ.2 ⟨c, hc, hk, rfl⟩
  rw [h] at this
  simp at this
theorem appT_ground {s : Int → List Cell} {l : List Cell} (h : ∀ c ∈ l, ¬ c.kind = 1) : appT s l = l := appT_same (s := s) fun c hc hk => absurd hk (h c hc)
/-- What is laid, for each variable. -/
def MS (M : Int → Option (List Cell)) (n : Int) : List Cell := (M n).getD [varCell n]
theorem appL_MS {M : Int → Option (List Cell)} : ∀ {l : List Cell}, (∀ c ∈ l, cellOk c = true) → appL M l = appT (MS M) l
  | [], _ => rfl
  | c :: l, h => by
    have e0 : appT (MS M) (c :: l) = (if c.kind = 1 then MS M c.n else [c]) ++ appT (MS M) l := by simp [appT]
    rw [appL_cons, appL_MS fun d hd => h d (by simp [hd]), e0]
    split
    · rename_i hk
      rw [MS, ← ok_varCell (h c (by simp)) hk]
    · rfl
/-- What was matched, put in, makes the first one the second one. -/
theorem matR_put {a b : List Cell} (ha : RTm a) (hb : RTm b) {out : List (Int × List Cell)} (h : matR a b = some out) : appT (bmap out) a = b := by
  obtain ⟨M, h1, h2⟩ := matR_some h
  have h3 := matR_app ha hb h1
  obtain ⟨_, m2, m3, _⟩ := matG_sound h1 fun n t h => by cases h
  rw [← h3, appL_MS ha.ok]
  refine appT_congr fun c hc hk => ?_
  · obtain ⟨t, ht⟩ := Option.isSome_iff_exists.1 (m3 c hc hk)
    have hin : c.n ∈ sortI (varsG a []) := (sortI_perm _).mem_iff.2 (varsG_occ.2 ⟨c, hc, hk, rfl⟩)
    rw [MS, ht, Option.getD_some]
    unfold bmap
    cases hv : headV t c.n with
    | false =>
      have hm := outG_of ht hv hin
      rw [← h2] at hm
      cases hf : out.find? fun b => b.1 == c.n with
      | none =>
        have := List.find?_eq_none.1 hf _ hm
        simp at this
      | some q =>
        dsimp only
        have hq := List.mem_of_find?_eq_some hf
        have hq1 := List.find?_some hf
        rw [h2] at hq
        have := (outG_mem hq).2.1
        rw [beq_iff_eq] at hq1
        rw [hq1, ht] at this
        exact (Option.some.inj this).symm
    | true =>
      have ht2 := m2 _ _ ht
      cases t with
      | nil => have := ht2.pos; simp at this
      | cons d t =>
        simp only [headV, Bool.and_eq_true, beq_iff_eq] at hv
        have htk := ht2.tk
        have hmem := ht2.mem d (by simp)
        have hd := ok_varCell (hb.ok d hmem) hv.1
        rw [takes, show 0 + arC d = 0 by rw [arC, if_neg (by rw [hv.1]; decide)]] at htk
        have h0 : takes t 0 = some 0 := by cases t <;> rfl
        rw [h0] at htk
        have hl : t = [] := List.eq_nil_of_length_eq_zero (by simpa using (Option.some.inj htk).symm)
        subst hl
        cases hf : out.find? fun b => b.1 == c.n with
        | none => dsimp only; rw [hd, hv.2]
        | some q =>
          have hq := List.mem_of_find?_eq_some hf
          have hq1 := List.find?_some hf
          rw [h2] at hq
          obtain ⟨_, q2, q3⟩ := outG_mem hq
          rw [beq_iff_eq] at hq1
          rw [hq1, ht] at q2
          rw [← Option.some.inj q2, hq1] at q3
          simp [headV, hv.1, hv.2] at q3
theorem matR_bound {a b : List Cell} (ha : RTm a) (hb : RTm b) {out : List (Int × List Cell)} (h : matR a b = some out) : out.length ≤ 1000 ∧ ∀ p ∈ out, p.2.length ≤ 200 := by
  have hr := matR_right ha hb h
  refine ⟨?_, fun p hp => (hr.1 p hp).2.2.2.1⟩
  obtain ⟨M, h1, h2⟩ := matR_some h
  have := outG_len (M := M) (l := sortI (varsG a []))
  rw [← h2, (sortI_perm _).length_eq] at this
  have h3 := varsG_len a []
  have := ha.len
  simp only [List.length_nil] at h3
  omega
set_option maxRecDepth 10000 in
/-- Where the second term has no variables. -/
theorem oneway_some {a b : List Cell} (ha : RTm a) (hb : RTm b) (hg : varsG b [] = []) {out : List (Int × List Cell)} (h : matR a b = some out) : (mgu a b).2 = 0 ∧ (mgu a b).1.map toI = out := by
  have hg' := ground_of hg
  obtain ⟨M, h1, h2⟩ := matR_some h
  have h3 := matR_app ha hb h1
  rw [appL_MS ha.ok] at h3
  obtain ⟨_, m2, m3, _⟩ := matG_sound h1 fun n t h => by cases h
  obtain ⟨s, hs⟩ : ∃ s : Int → List Cell, ∀ n, (occ a n → s n = MS M n) ∧ (¬ occ a n → s n = [varCell n]) := by
    refine ⟨fun n => by classical exact if occ a n then MS M n else [varCell n], fun n => ⟨fun h => if_pos h, fun h => if_neg h⟩⟩
  have hin : ∀ n, occ a n → M n = some (s n) ∧ TermOf b (s n) := fun n hn => by
    obtain ⟨c, hc, hk, e⟩ := hn
    obtain ⟨t, ht⟩ := Option.isSome_iff_exists.1 (m3 c hc hk)
    rw [e] at ht
    have : s n = t := by rw [(hs n).1 ⟨c, hc, hk, e⟩, MS, ht]; rfl
    rw [this]
    exact ⟨ht, m2 _ _ ht⟩
  have hgs : ∀ n, occ a n → ∀ c ∈ s n, ¬ c.kind = 1 := fun n hn c hc => hg' c ((hin n hn).2.mem c hc)
  have hsa : appT s a = b := by
    rw [← h3]
    exact appT_congr fun c hc hk => (hs c.n).1 ⟨c, hc, hk, rfl⟩
  have htm : Terms s := fun n => by
    by_cases hn : occ a n
    · exact (hin n hn).2.tk
    · rw [(hs n).2 hn]; rfl
  have hab : ∀ n, occ (a ++ b) n → occ a n := fun n ⟨c, hc, hk, e⟩ => by
    rcases List.mem_append.1 hc with hc | hc
    · exact ⟨c, hc, hk, e⟩
    · exact absurd hk (hg' c hc)
  have hno : NormO a b s := by
    refine ⟨⟨by rw [hsa, appT_ground hg'], htm, fun n c hc hk => ?_, fun u hu e n => ?_, fun n m e => ?_⟩, fun n hn c hc => ?_, fun n hn => ?_⟩
    · by_cases hn : occ a n
      · exact absurd hk (hgs n hn c hc)
      · rw [(hs n).2 hn, List.mem_singleton] at hc
        rw [hc]; rfl
    · by_cases hn : occ a n
      · rw [appT_ground (hgs n hn)]
        obtain ⟨c, hc, hk, e2⟩ := hn
        rw [appT_ground hg', ← hsa] at e
        have := appT_inj hu htm (r := []) (r' := []) (by rw [e]) c hc hk
        rw [← e2, this]
      · rw [(hs n).2 hn, appT_var]
    · by_cases hn : occ a n
      · exact absurd rfl (hgs n hn (varCell m) (by rw [e]; simp))
      · rw [(hs n).2 hn] at e
        have := congrArg Cell.n (List.cons.inj e).1
        simp only [varCell] at this
        omega
    · have := hgs n (hab n hn) c hc
      exact ⟨hb.ok c ((hin n (hab n hn)).2.mem c hc), fun hk => absurd hk this⟩
    · exact (hs n).2 fun ⟨c, hc, hk, e⟩ => hn ⟨c, List.mem_append_left _ hc, hk, e⟩
  have hsm : small s := fun n _ => by
    by_cases hn : occ a n
    · have := (hin n hn).2.len
      have := hb.len
      omega
    · rw [(hs n).2 hn]; simp
  rw [mgu_norm ha hb hno, mguO_small hsm]
  refine ⟨rfl, ?_⟩
  refine sorted_ext (bnds_lt s) (matR_right ha hb h).2 fun p => ?_
  rw [bnds_mem]
  constructor
  · rintro ⟨n, hn, rfl, hne⟩
    have ho : occ a n := Classical.byContradiction fun k => hne ((hs n).2 k)
    rw [h2]
    refine outG_of (hin n ho).1 ?_ ((sortI_perm _).mem_iff.2 (varsG_occ.2 ho))
    have := hgs n ho
    cases hx : s n with
    | nil => have := htm.pos n; rw [hx] at this; simp at this
    | cons c l =>
      have := this c (by rw [hx]; simp)
      simp [headV, this]
  · intro hp
    rw [h2] at hp
    obtain ⟨p1, p2, p3⟩ := outG_mem hp
    have ho : occ a p.1 := varsG_occ.1 ((sortI_perm _).mem_iff.1 p1)
    have hr := occ_range ha.ok ho
    have hp2 := (hin p.1 ho).1
    rw [p2] at hp2
    have hp2 := Option.some.inj hp2
    have e1 : ((p.1.toNat : Nat) : Int) = p.1 := by omega
    refine ⟨p.1.toNat, by omega, ?_, ?_⟩
    · rw [e1, ← hp2]
    · rw [e1]
      intro e
      exact absurd rfl (hgs p.1 ho (varCell p.1) (by rw [e]; simp))
theorem oneway_none {a b : List Cell} (ha : RTm a) (hb : RTm b) (hg : varsG b [] = []) (h : matR a b = none) : mgu a b = ([], 3) := by
  rcases mgu_cases ha hb with ⟨h1, _⟩ | ⟨s, h1, _⟩
  · exact h1
  · have e := h1.eq
    rw [appT_ground (ground_of hg)] at e
    have := matR_complete h1.tm e
    rw [h] at this
    cases this
set_option maxRecDepth 10000 in
/-- What Mgu can tell. -/
theorem mgu_three {a b : List Cell} (ha : RTm a) (hb : RTm b) : ((mgu a b).2 ≠ 0 ∧ (mgu a b).1 = [] ∧ ((mgu a b).2 = 3 ∨ (mgu a b).2 = 2) ∧ sameL a b = false) ∨ ((mgu a b).2 = 0 ∧ ∃ s, NormO a b s ∧ small s ∧ (mgu a b).1 = bnds s) := by
  have hne : (mgu a b).2 ≠ 0 → sameL a b = false := fun h => by
    rw [sameL_false]
    intro e
    subst e
    rw [mgu_self ha] at h
    exact h rfl
  rcases mgu_cases ha hb with ⟨h, _⟩ | ⟨s, hs, h⟩
  · rw [h] at hne ⊢
    exact .inl ⟨by decide, rfl, .inl rfl, hne (by decide)⟩
  · by_cases hm : small s
    · rw [mguO_small hm] at h
      rw [h]
      exact .inr ⟨rfl, s, hs, hm, rfl⟩
    · rw [mguO_big hm] at h
      rw [h] at hne ⊢
      exact .inl ⟨by decide, rfl, .inr rfl, hne (by decide)⟩
end Go.Am.Seat
/-
  MADE BY PROGRAM (am.py): the walks of functions 26.
-/
namespace Go.Am.Seat
open Go.Proofs

/-- A term's slice, as a value. -/
def slC (l : List Cell) : Sc := .sl l.length (l.flatMap encC)
theorem takes_flatten : ∀ {ls : List (List Cell)}, (∀ l ∈ ls, RTm l) → takes ls.flatten ls.length = some ls.flatten.length
  | [], _ => rfl
  | l :: ls, h => by
    rw [List.flatten_cons, List.length_cons, Nat.add_comm]
    exact takes_cat (h l (by simp)).tk (takes_flatten fun x hx => h x (by simp [hx]))
/-- A term of name f. -/
def mkF (ls : List (List Cell)) : List Cell := ⟨3, nmF, ls.length⟩ :: ls.flatten
theorem mkF_tm {ls : List (List Cell)} (h : ∀ l ∈ ls, RTm l) (hl : ls.flatten.length ≤ 199) (hn : ls.length ≤ 6) : RTm (mkF ls) := by
  refine ⟨?_, fun c hc => ?_, by simp [mkF], by rw [mkF, List.length_cons]; omega⟩
  · rw [mkF, takes, show 0 + arC ⟨3, nmF, ls.length⟩ = ls.length by simp [arC], takes_flatten h]; rfl
  · rcases List.mem_cons.1 hc with rfl | hc
    · simp only [cellOk]
      rw [if_neg (by decide), if_neg (by decide), if_pos trivial]
      simp only [Bool.and_eq_true, decide_eq_true_eq]
      exact ⟨⟨by decide, by omega⟩, by omega⟩
    · obtain ⟨l, h1, h2⟩ := List.mem_flatten.1 hc
      exact (h l h1).ok c h2
theorem fn32v (L : Loops) {t : List Cell} (h : RTm t) (s : Me) (x : Sc) (hx : GSl encC x t) : FnL Try.prog L 32 [.av (.sc x)] s fun r s' => r = vB true ∧ s' = s := by
  have := h.len
  exact (fn32 L t s x hx (by omega) fun c hc => by have := name_size (h.ok c hc); omega).mono fun r s' k => ⟨k.1.trans (congrArg vB (tm_right h)), k.2⟩

theorem bod26 : Try.f26.body = some (Try.f26.body.getD .skip) := rfl
theorem fn26 (L : Loops) (ls : List (List Cell)) (s : Me) (x : Sc) (hx : GSl encT x (ls.map slC)) (hr : ∀ l ∈ ls, RTm l) (hl : ls.flatten.length ≤ 199) (hn : ls.length ≤ 6) : FnL Try.prog L 26 [.av (.sc (.str nmF)), .av (.sc x)] s fun r s' => (r = vC (mkF ls)) ∧ s' = s := by
  refine FnL.pure (R := fun r => r = vC (mkF ls)) ?_
  refine fn_of_body (ts := [4]) Try.func26 bod26 rfl (by simp) (by simp [Try.ntmps26]) fun D0 => ?_
  unfold Try.f26
  simp only [Option.getD_some, initSl]
  refine aw_region_seq C (pb := false) rfl fun K hK => ?_
  repeat' (first | refine wy0 (h := ?_) | fail)
  refine awOps_nil (hK _ _ ?_)
  clear hK K
  refine aw_region_seq C (pb := false) rfl fun K hK => ?_
  repeat' (first | refine wy1 (a := by simp only [go_sem, ↓reduceIte, Nat.reduceEqDiff, reduceCtorEq, Nat.reduceAdd, Nat.reduceMul, Nat.reduceLeDiff, aLoad, aStore, lenT hx, List.length_map]; exact rfl) (h := ?_) | fail)
  refine awOps_nil (hK _ _ ?_)
  clear hK K
  refine aw_seq ?_
  refine aw_region_seq C (pb := false) rfl fun K hK => ?_
  repeat' (first | refine wy0 (h := ?_) | fail)
  refine awOps_nil (hK _ _ ?_)
  clear hK K
  refine aw_block ?_
  refine AW.less (sl' := [(1, .av (.sc x)), (5, (_)), (6, vI (0))]) (AllIn.less ⟨rfl, rfl, rfl, trivial⟩) (aw_loop (fun k sl1 s1 => ∃ (i : Nat) (xo : Va) (out : List Cell), k = ls.length - i ∧ sl1 = [(1, .av (.sc x)), (5, (xo)), (6, vI (i))] ∧ (Kp s s1) ∧ (i ≤ ls.length) ∧ (Acc s.nx s1.nx s1.ob xo out.length 3 ((out.flatMap encC).map .sc)) ∧ (out = ⟨3, nmF, ls.length⟩ :: (ls.take i).flatten)) (k := ls.length - (0)) ⟨0, _, [⟨3, nmF, ls.length⟩], rfl, rfl, ⟨by first | omega | (dsimp only; omega), fun j hj => upd_ne _ _ (by omega), rfl⟩, Nat.zero_le _, .inr ⟨_, 0, rfl, by first | omega | (dsimp only; omega), by first | omega | (dsimp only; omega), upd_same _ _ _, by simp, by simp [encC]⟩, rfl⟩ ?_)
  rintro k1 _ s1 ⟨i, xo, out, hk1, rfl, hs1, hb, hacc, h3⟩
  refine aw_seq ?_
  refine aw_region_seq C (pb := false) rfl fun K hK => ?_
  repeat' (first | refine wy1 (a := by simp only [go_sem, ↓reduceIte, Nat.reduceEqDiff, reduceCtorEq, Nat.reduceAdd, Nat.reduceMul, Nat.reduceLeDiff, aLoad, aStore, lenT hx, List.length_map]; exact rfl) (h := ?_) | fail)
  refine awOps_nil (hK _ _ ?_)
  clear hK K
  refine aw_cond (by rfl) ?_ ?_
  · intro hc0
    try simp only [decide_eq_true_eq, decide_eq_false_iff_not] at hc0
    have hi2 : i < ls.length := by omega
    have hix : aIndex T 40 (.av (.sc x)) (vI i) = some (.av (.sc (.cptr (slC ls[i] :: ((ls.map slC).drop (i + 1)).flatMap encT)))) := by
      have := idxT hx (i := i) (by rw [List.length_map]; exact hi2)
      rw [List.getElem_map] at this
      exact this
    have hri := hr ls[i] (List.getElem_mem hi2)
    have hol : out.length ≤ 200 := by
      have := congrArg List.length (List.take_append_drop i ls ▸ List.flatten_append (L₁ := ls.take i) (L₂ := ls.drop i))
      rw [h3]
      simp only [List.take_append_drop, List.length_append] at this
      simp only [List.length_cons]
      omega
    refine aw_skip ?_
    simp only [thenA_normal, thenA_ret, thenA_exit, blockA_normal, blockA_ret, blockA_exit, ↓reduceIte, Nat.reduceEqDiff]
    refine aw_seq ?_
    refine aw_block ?_
    refine aw_seq ?_
    refine aw_region_seq C (pb := false) rfl fun K hK => ?_
    repeat' (first | refine wy1 (a := by simp only [go_sem, ↓reduceIte, Nat.reduceEqDiff, reduceCtorEq, Nat.reduceAdd, Nat.reduceMul, Nat.reduceLeDiff, aLoad, aStore, hix]; exact rfl) (h := ?_) | fail)
    (refine wc (And.intro Try.call32 (fn32v L hri _ _ (gslC _))) ?_; rintro _ _ ⟨rfl, rfl⟩)
    repeat' (first | refine wy1 (a := by simp only [go_sem, ↓reduceIte, Nat.reduceEqDiff, reduceCtorEq, Nat.reduceAdd, Nat.reduceMul, Nat.reduceLeDiff, aLoad, aStore, hix]; exact rfl) (h := ?_) | fail)
    refine awOps_nil (hK _ _ ?_)
    clear hK K
    refine aw_cond (by rfl) ?_ ?_
    · intro hc1
      cases hc1
    · intro hc1
      refine aw_skip ?_
      simp only [thenA_normal, thenA_ret, thenA_exit, blockA_normal, blockA_ret, blockA_exit, ↓reduceIte, Nat.reduceEqDiff]
      refine aw_region C (pb := false) rfl ?_
      repeat' (first | refine wy1 (a := by simp only [go_sem, ↓reduceIte, Nat.reduceEqDiff, reduceCtorEq, Nat.reduceAdd, Nat.reduceMul, Nat.reduceLeDiff, aLoad, aStore, hix]; exact rfl) (h := ?_) | fail)
      refine awOps_append (by rfl) (by rfl) (by rfl) (by rfl) hacc T22 rfl T42 rfl (by simp) (by simp [y42]) (aSrc_g (enc := encC) (k := 3) (fun _ => rfl) (gslC ls[i]) _) (by simp [flat_len (enc := encC) (k := 3) (fun _ => rfl)]) (by have := hri.len; omega) (by omega) (by have := hs1.1; omega) fun x6 ob6 hacc6 hlow6 _ => ?_
      repeat' (first | refine wy1 (a := by simp only [go_sem, ↓reduceIte, Nat.reduceEqDiff, reduceCtorEq, Nat.reduceAdd, Nat.reduceMul, Nat.reduceLeDiff, aLoad, aStore, hix]; exact rfl) (h := ?_) | fail)
      refine awOps_nil ?_
      try simp only [thenA_normal, thenA_ret, thenA_exit, blockA_normal, blockA_ret, blockA_exit]
      refine aw_region C (pb := false) rfl ?_
      repeat' (first | refine wy1 (a := by simp only [go_sem, ↓reduceIte, Nat.reduceEqDiff, reduceCtorEq, Nat.reduceAdd, Nat.reduceMul, Nat.reduceLeDiff, aLoad, aStore, wrap_small ((i : Int) + 1) (by omega) (by omega)]; exact rfl) (h := ?_) | fail)
      refine awOps_nil ?_
      try simp only [thenA_normal, thenA_ret, thenA_exit, blockA_normal, blockA_ret, blockA_exit]
      -- end of round 0 at 0t1f
      refine ⟨ls.length - (i + 1), [(1, .av (.sc x)), (5, (x6)), (6, vI (i + 1))], by omega, AllIn.less ⟨rfl, rfl, rfl, trivial⟩, i + 1, x6, out ++ ls[i], rfl, rfl, ?_, ?_, ?_, ?_⟩
      · exact ⟨by have := hs1.1; first | omega | (dsimp only; omega), fun j hj => (hlow6 j hj).trans (hs1.2.1 j hj), hs1.2.2⟩
      · omega
      · simp only [List.length_append, List.flatMap_append, List.map_append]
        exact hacc6.up (by first | omega | (dsimp only; omega)) fun _ _ _ => rfl
      · rw [h3, List.take_succ_eq_append_getElem hi2, List.flatten_append]; simp
  · intro hc0
    try simp only [decide_eq_true_eq, decide_eq_false_iff_not] at hc0
    refine aw_exit ?_
    simp only [thenA_normal, thenA_ret, thenA_exit, blockA_normal, blockA_ret, blockA_exit, ↓reduceIte, Nat.reduceEqDiff]
    refine aw_seq ?_
    have hout : out = mkF ls := by rw [h3, List.take_of_length_le (by omega), mkF]
    subst hout
    obtain ⟨ty, ob7, hpv7, hty, hacc7, hlow7, _⟩ := Acc.pure (enc := encC) (k := 3) (fun _ => rfl) hacc
    refine aw_pur 5 hpv7 ?_
    refine aw_region_seq C (pb := false) rfl fun K hK => ?_
    repeat' (first | refine wy0 (h := ?_) | fail)
    (refine wc (And.intro Try.call32 (fn32v L (mkF_tm hr hl hn) _ _ hty)) ?_; rintro _ _ ⟨rfl, rfl⟩)
    repeat' (first | refine wy0 (h := ?_) | fail)
    refine awOps_nil (hK _ _ ?_)
    clear hK K
    refine aw_cond (by rfl) ?_ ?_
    · intro hc2
      cases hc2
    · intro hc2
      refine aw_skip ?_
      simp only [thenA_normal, thenA_ret, thenA_exit, blockA_normal, blockA_ret, blockA_exit, ↓reduceIte, Nat.reduceEqDiff]
      refine aw_region_seq C (pb := false) rfl fun K hK => ?_
      repeat' (first | refine wy0 (h := ?_) | fail)
      refine awOps_nil (hK _ _ ?_)
      clear hK K
      refine aw_ret ?_
      simp only [go_sem, ↓reduceIte, Nat.reduceEqDiff, reduceCtorEq, Nat.reduceAdd, Nat.reduceMul, Nat.reduceLeDiff, aLoad, aStore, FnQ, resA]
      -- 0f.x02f.ret
      exact fun _ => ⟨by first | rfl | trivial, fun j hj => (hlow7 j hj).trans (hs1.2.1 j hj), hs1.2.2, by rw [gsl_cells hty (by simp [mkF])]⟩
end Go.Am.Seat
/-
  MADE BY PROGRAM (am.py): the walks of functions 27.
-/
namespace Go.Am.Seat
open Go.Proofs

/-- What is composed, one variable's. -/
def cmp1 (a b : List (Int × List Cell)) (v : Int) : List Cell := appT (bmap b) (bmap a v)
def hasB (a : List (Int × List Cell)) (v : Int) : Bool := decide (0 ≤ placeB (a.map bndI) v 0)
def cmpG (a b : List (Int × List Cell)) : List Nat → List (Int × List Cell) → Option (List (Int × List Cell))
  | [], out => some out
  | v :: l, out => if hasB a v = false ∧ hasB b v = false then cmpG a b l out
    else if hasB a v = true ∧ 200 < (cmp1 a b v).length then none
    else if ownB v (cmp1 a b v) = true then cmpG a b l out else cmpG a b l (out ++ [((v : Int), cmp1 a b v)])
def cmpR (o : Option (List (Int × List Cell))) (r : Va) : Prop := match o with
  | none => r = .tup [.av (.sc .nilsl), vB false]
  | some l => ∃ y, r = .tup [.av (.sc y), vB true] ∧ GSl encB y (l.map bndI)
theorem bmap_place {a : List (Int × List Cell)} {v : Int} : (placeB (a.map bndI) v 0 = -1 ∧ bmap a v = [varCell v]) ∨ ∃ i, ∃ h : i < a.length, placeB (a.map bndI) v 0 = (i : Int) ∧ bmap a v = a[i].2 := by
  have hf : (a.map bndI).find? (fun b => b.v == v) = (a.find? fun b => b.1 == v).map bndI := List.find?_map ..
  rcases placeB_spec (a.map bndI) v 0 with ⟨h1, h2⟩ | ⟨i, hi, h1, h2⟩
  · rw [hf, Option.map_eq_none_iff] at h2
    exact .inl ⟨h1, by rw [bmap, h2]⟩
  · rw [List.length_map] at hi
    rw [hf, List.getElem_map] at h2
    obtain ⟨b, hb, e⟩ := Option.map_eq_some_iff.1 h2
    refine .inr ⟨i, hi, by rw [h1, Nat.zero_add], ?_⟩
    rw [bmap, hb]
    have e2 := congrArg Bnd.t e
    have := valT_eq (bndI_t b)
    rw [e2, valT_eq (bndI_t a[i])] at this
    exact this.symm
theorem idxBI {a : List (Int × List Cell)} {x : Sc} (hx : GSl encB x (a.map bndI)) {i : Nat} (hi : i < a.length) : aIndex T 25 (.av (.sc x)) (vI i) = some (.av (.sc (.cptr (.int .i64 a[i].1 :: .sl a[i].2.length (a[i].2.flatMap encC) :: ((a.map bndI).drop (i + 1)).flatMap encB)))) := by
  have := idxB hx (i := i) (by rw [List.length_map]; exact hi)
  rw [List.getElem_map] at this
  exact this

-- many steps
theorem bod27 : Try.f27.body = some (Try.f27.body.getD .skip) := rfl
set_option maxHeartbeats 2000000 in
theorem fn27 (L : Loops) (a b : List (Int × List Cell)) (ns : List Nat) (s : Me) (x y : Sc) (hx : GSl encB x (a.map bndI)) (hy : GSl encB y (b.map bndI)) (hla : a.length ≤ 1000 ∧ ∀ p ∈ a, RTm p.2) (hlb : b.length ≤ 1000 ∧ ∀ p ∈ b, RTm p.2) (hns : ns.length = 1000 ∧ ∀ i (h : i < ns.length), ns[i] = i) : FnL Try.prog L 27 [.av (.sc x), .av (.sc y)] s fun r s' => (cmpR (cmpG a b ns []) r) ∧ s' = s := by
  refine FnL.pure (R := fun r => cmpR (cmpG a b ns []) r) ?_
  have htb := bmap_tm hlb.2
  have hal : a.length < 2000 := by omega
  have hbl : b.length < 2000 := by omega
  refine fn_of_body (ts := [4, 5]) Try.func27 bod27 rfl (by simp) (by simp [Try.ntmps27]) fun D0 => ?_
  unfold Try.f27
  simp only [Option.getD_some, initSl]
  refine aw_region_seq C (pb := false) rfl fun K hK => ?_
  repeat' (first | refine wy0 (h := ?_) | fail)
  refine awOps_nil (hK _ _ ?_)
  clear hK K
  refine aw_region_seq C (pb := false) rfl fun K hK => ?_
  repeat' (first | refine wy0 (h := ?_) | fail)
  refine awOps_nil (hK _ _ ?_)
  clear hK K
  refine aw_seq ?_
  refine aw_region_seq C (pb := false) rfl fun K hK => ?_
  repeat' (first | refine wy0 (h := ?_) | fail)
  refine awOps_nil (hK _ _ ?_)
  clear hK K
  refine aw_block ?_
  refine AW.less (sl' := [(0, .av (.sc x)), (1, .av (.sc y)), (6, (_)), (7, vI (0))]) (AllIn.less ⟨rfl, rfl, rfl, rfl, trivial⟩) (aw_loop (fun k sl1 s1 => ∃ (v : Nat) (xo : Va) (out : List (Int × List Cell)), k = 1000 - v ∧ sl1 = [(0, .av (.sc x)), (1, .av (.sc y)), (6, (xo)), (7, vI (v))] ∧ (Kp s s1) ∧ (v ≤ 1000 ∧ out.length ≤ v) ∧ (Acc s.nx s1.nx s1.ob xo out.length 2 (((out.map bndI).flatMap encB).map .sc)) ∧ (cmpG a b (ns.drop v) out = cmpG a b ns [])) (k := 1000 - (0)) ⟨0, _, [], rfl, rfl, ⟨by first | omega | (dsimp only; omega), fun j hj => upd_ne _ _ (by omega), rfl⟩, ⟨Nat.zero_le _, Nat.le_refl _⟩, .inr ⟨_, 0, rfl, by first | omega | (dsimp only; omega), by first | omega | (dsimp only; omega), upd_same _ _ _, by simp, by simp⟩, rfl⟩ ?_)
  rintro k1 _ s1 ⟨v, xo, out, hk1, rfl, hs1, hb, hacc, h3⟩
  refine aw_seq ?_
  refine aw_region_seq C (pb := false) rfl fun K hK => ?_
  repeat' (first | refine wy0 (h := ?_) | fail)
  refine awOps_nil (hK _ _ ?_)
  clear hK K
  refine aw_cond (by rfl) ?_ ?_
  · intro hc0
    try simp only [decide_eq_true_eq, decide_eq_false_iff_not] at hc0
    have hv : v < 1000 := by omega
    have hdrop : ns.drop v = v :: ns.drop (v + 1) := by rw [List.drop_eq_getElem_cons (by omega), hns.2]
    obtain ⟨pa, hpa⟩ : ∃ p, p = placeB (a.map bndI) v 0 := ⟨_, rfl⟩
    obtain ⟨pb, hpb⟩ : ∃ p, p = placeB (b.map bndI) v 0 := ⟨_, rfl⟩
    refine aw_skip ?_
    simp only [thenA_normal, thenA_ret, thenA_exit, blockA_normal, blockA_ret, blockA_exit, ↓reduceIte, Nat.reduceEqDiff]
    refine aw_seq ?_
    refine aw_block ?_
    refine aw_region_seq C (pb := false) rfl fun K hK => ?_
    repeat' (first | refine wy0 (h := ?_) | fail)
    (refine wc (And.intro Try.call59 (fn59v L hpa.symm _ x hx (by rw [List.length_map]; omega))) ?_; rintro _ _ ⟨rfl, rfl⟩)
    repeat' (first | refine wy0 (h := ?_) | fail)
    (refine wc (And.intro Try.call59 (fn59v L hpb.symm _ y hy (by rw [List.length_map]; omega))) ?_; rintro _ _ ⟨rfl, rfl⟩)
    repeat' (first | refine wy0 (h := ?_) | fail)
    refine awOps_nil (hK _ _ ?_)
    clear hK K
    refine aw_seq ?_
    refine aw_cut_seq C (pb := false) [(0, .av (.sc x)), (1, .av (.sc y)), (6, xo), (7, vI v), (8, vI pa), (9, vI pb), (29, vB (decide (pa < 0) && decide (pb < 0)))] rfl ?_ fun n6 hn6 => ?_
    · cases hA0 : (decide (pa < 0) : Bool) <;> cases hA1 : (decide (pb < 0) : Bool)
      all_goals (repeat' (first | refine wy1 (a := by simp only [go_sem, ↓reduceIte, Nat.reduceEqDiff, reduceCtorEq, Nat.reduceAdd, Nat.reduceMul, Nat.reduceLeDiff, aLoad, aStore, hA0, hA1]; exact rfl) (h := ?_) | refine wn (h := ?_) | fail))
      all_goals (exact awOps_nil ⟨⟨rfl, rfl, rfl, rfl, rfl, rfl, rfl, trivial⟩, rfl, (by first | omega | (dsimp only; omega)), rfl⟩)
    refine aw_cond (by rfl) ?_ ?_
    · intro hc1
      have hA : hasB a v = false := by rw [hasB, ← hpa]; exact decide_eq_false (by have := of_decide_eq_true (Bool.and_eq_true_iff.1 hc1).1; omega)
      have hB : hasB b v = false := by rw [hasB, ← hpb]; exact decide_eq_false (by have := of_decide_eq_true (Bool.and_eq_true_iff.1 hc1).2; omega)
      refine aw_exit ?_
      simp only [thenA_normal, thenA_ret, thenA_exit, blockA_normal, blockA_ret, blockA_exit, ↓reduceIte, Nat.reduceEqDiff]
      refine aw_region C (pb := false) rfl ?_
      repeat' (first | refine wy1 (a := by simp only [go_sem, ↓reduceIte, Nat.reduceEqDiff, reduceCtorEq, Nat.reduceAdd, Nat.reduceMul, Nat.reduceLeDiff, aLoad, aStore, wrap_small ((v : Int) + 1) (by omega) (by omega)]; exact rfl) (h := ?_) | fail)
      refine awOps_nil ?_
      try simp only [thenA_normal, thenA_ret, thenA_exit, blockA_normal, blockA_ret, blockA_exit]
      -- end of round 0 at 0t1t.x1
      refine ⟨1000 - (v + 1), [(0, .av (.sc x)), (1, .av (.sc y)), (6, (xo)), (7, vI (v + 1))], by omega, AllIn.less ⟨rfl, rfl, rfl, rfl, trivial⟩, v + 1, xo, out, rfl, rfl, ?_, ?_, ?_, ?_⟩
      · exact hs1.up (by first | omega | (dsimp only; omega))
      · omega
      · exact hacc.up (by first | omega | (dsimp only; omega)) fun _ _ _ => rfl
      · rw [← h3, hdrop, cmpG, if_pos ⟨hA, hB⟩]
    · intro hc1
      refine aw_skip ?_
      simp only [thenA_normal, thenA_ret, thenA_exit, blockA_normal, blockA_ret, blockA_exit, ↓reduceIte, Nat.reduceEqDiff]
      refine aw_region_seq C (pb := false) rfl fun K hK => ?_
      repeat' (first | refine wy0 (h := ?_) | fail)
      refine awOps_nil (hK _ _ ?_)
      refine AW.less (sl' := [(0, .av (.sc x)), (1, .av (.sc y)), (6, xo), (7, vI v), (8, vI pa), (9, vI pb)]) (AllIn.less ⟨rfl, rfl, rfl, rfl, rfl, rfl, trivial⟩) ?_
      refine aw_state (J := fun s7 => Kp s s7 ∧ Acc s.nx s7.nx s7.ob xo out.length 2 (((out.map bndI).flatMap encB).map .sc)) ⟨⟨by have := hs1.1; exact (by first | omega | (dsimp only; omega) | (dsimp only at *; omega)), fun j hj => (upd_ne _ _ (by have := hs1.1; omega)).trans (hs1.2.1 j hj), hs1.2.2⟩, hacc.up (by first | omega | (dsimp only; omega) | (dsimp only at *; omega)) fun j h1 h2 => upd_ne _ _ (by omega)⟩ fun s7 hJ7 => ?_
      obtain ⟨hK7, hA7⟩ := hJ7
      clear hK K
      refine aw_seq ?_
      refine aw_region_seq C (pb := false) rfl fun K hK => ?_
      repeat' (first | refine wy0 (h := ?_) | fail)
      refine awOps_nil (hK _ _ ?_)
      clear hK K
      refine aw_cond (by rfl) ?_ ?_
      · intro hc2
        have hpa0 : 0 ≤ pa := of_decide_eq_true hc2
        obtain ⟨i, hi, ea, em⟩ : ∃ i, ∃ h : i < a.length, pa = (i : Int) ∧ bmap a v = a[i].2 := by
          rcases bmap_place (a := a) (v := (v : Int)) with ⟨h, _⟩ | ⟨i, hi, h1, h2⟩
          · omega
          · exact ⟨i, hi, by omega, h2⟩
        have hA : hasB a v = true := by rw [hasB, ← hpa]; exact decide_eq_true hpa0
        subst ea
        have hix := idxBI hx hi
        have hri := hla.2 a[i] (List.getElem_mem hi)
        obtain ⟨w, hw⟩ : ∃ w, w = cmp1 a b v := ⟨_, rfl⟩
        have hw1 : appT (bmap b) a[i].2 = w := by rw [hw, cmp1, em]
        have hwl : 1 ≤ w.length := by rw [← hw1]; exact Nat.le_trans hri.pos (appT_len htb _)
        obtain ⟨g, hg⟩ : ∃ g, g = decide (w.length ≤ 200) := ⟨_, rfl⟩
        have hn1 : ¬ (hasB a v = false ∧ hasB b v = false) := by rw [hA]; exact fun h => by cases h.1
        refine aw_region_seq C (pb := false) rfl fun K hK => ?_
        repeat' (first | refine wy1 (a := by simp only [go_sem, ↓reduceIte, Nat.reduceEqDiff, reduceCtorEq, Nat.reduceAdd, Nat.reduceMul, Nat.reduceLeDiff, aLoad, aStore, hix]; exact rfl) (h := ?_) | fail)
        refine wc (And.intro Try.call21 (fnApplyG L hw1 hg _ y _ hy (gslC a[i].2) ⟨hlb.1, fun p hp => (hlb.2 p hp).len⟩ hri)) ?_
        rintro _ _ ⟨⟨y1, rfl, hy1⟩, rfl⟩
        repeat' (first | refine wy1 (a := by simp only [go_sem, ↓reduceIte, Nat.reduceEqDiff, reduceCtorEq, Nat.reduceAdd, Nat.reduceMul, Nat.reduceLeDiff, aLoad, aStore, hix]; exact rfl) (h := ?_) | fail)
        refine awOps_nil (hK _ _ ?_)
        clear hK K
        refine aw_seq ?_
        refine aw_region_seq C (pb := false) rfl fun K hK => ?_
        repeat' (first | refine wy0 (h := ?_) | fail)
        refine awOps_nil (hK _ _ ?_)
        clear hK K
        refine aw_cond (by rfl) ?_ ?_
        · intro hc3
          have hgl : ¬ w.length ≤ 200 := by intro h; rw [hg, decide_eq_true h] at hc3; cases hc3
          refine aw_region_seq C (pb := false) rfl fun K hK => ?_
          repeat' (first | refine wy0 (h := ?_) | fail)
          refine awOps_nil (hK _ _ ?_)
          clear hK K
          refine aw_ret ?_
          try simp only [thenA_normal, thenA_ret, thenA_exit, blockA_normal, blockA_ret, blockA_exit]
          simp only [go_sem, ↓reduceIte, Nat.reduceEqDiff, reduceCtorEq, Nat.reduceAdd, Nat.reduceMul, Nat.reduceLeDiff, aLoad, aStore, FnQ, resA]
          -- 0t1f2t3t.ret
          exact fun _ => ⟨by first | rfl | trivial, hK7.2.1, hK7.2.2, by rw [← h3, hdrop, cmpG, if_neg hn1, if_pos ⟨hA, by rw [← hw]; omega⟩]; rfl⟩
        · intro hc3
          have hgt : g = true := by cases g with | true => rfl | false => cases hc3
          have hn2 : ¬ (hasB a v = true ∧ 200 < (cmp1 a b v).length) := by rw [← hw]; exact fun h => by have := of_decide_eq_true (hg.symm.trans hgt); omega
          have hye := gsl_cells (hy1 hgt) hwl
          subst hye
          refine aw_skip ?_
          simp only [thenA_normal, thenA_ret, thenA_exit, blockA_normal, blockA_ret, blockA_exit, ↓reduceIte, Nat.reduceEqDiff]
          refine aw_region C (pb := false) rfl ?_
          repeat' (first | refine wy0 (h := ?_) | fail)
          refine awOps_nil ?_
          refine AW.less (sl' := [(0, .av (.sc x)), (1, .av (.sc y)), (6, xo), (7, vI v), (10, vC w)]) (AllIn.less ⟨rfl, rfl, rfl, rfl, rfl, trivial⟩) ?_
          try simp only [thenA_normal, thenA_ret, thenA_exit, blockA_normal, blockA_ret, blockA_exit]
          refine aw_region_seq C (pb := false) rfl fun K hK => ?_
          repeat' (first | refine wy0 (h := ?_) | fail)
          (refine wc (And.intro Try.call58 (fn58 L v w _ _ (gslC w))) ?_; rintro _ _ ⟨rfl, rfl⟩)
          repeat' (first | refine wy0 (h := ?_) | fail)
          refine awOps_nil (hK _ _ ?_)
          clear hK K
          refine aw_cond (by rfl) ?_ ?_
          · intro hc4
            have hcO : ownB v w = false := by simpa using hc4
            refine aw_region C (pb := false) rfl ?_
            repeat' (first | refine wy0 (h := ?_) | fail)
            refine awOps_append (by rfl) (by rfl) (by rfl) (by rfl) (hA7.up (Nat.le_refl _) fun j h1 h2 => upd_ne _ _ (by omega)) T25 rfl T39 rfl (by simp) (by simp [y39]) (k := 1) (new := (encB (bndI ((v : Int), w))).map .sc) (by simp [aSrc, evA, get, upd, zerosA, encB, bndI, storeL, List.range, List.range.loop]; exact ⟨Nat.le_refl _, rfl⟩) (by simp [encB]) (by omega) (by omega) (by have := hK7.1; omega) fun x6 ob6 hacc6 hlow6 _ => ?_
            repeat' (first | refine wy0 (h := ?_) | fail)
            refine awOps_nil ?_
            try simp only [thenA_normal, thenA_ret, thenA_exit, blockA_normal, blockA_ret, blockA_exit]
            refine aw_region C (pb := false) rfl ?_
            repeat' (first | refine wy1 (a := by simp only [go_sem, ↓reduceIte, Nat.reduceEqDiff, reduceCtorEq, Nat.reduceAdd, Nat.reduceMul, Nat.reduceLeDiff, aLoad, aStore, wrap_small ((v : Int) + 1) (by omega) (by omega)]; exact rfl) (h := ?_) | fail)
            refine awOps_nil ?_
            try simp only [thenA_normal, thenA_ret, thenA_exit, blockA_normal, blockA_ret, blockA_exit]
            -- end of round 0 at 0t1f2t3f4t
            refine ⟨1000 - (v + 1), [(0, .av (.sc x)), (1, .av (.sc y)), (6, (x6)), (7, vI (v + 1))], by omega, AllIn.less ⟨rfl, rfl, rfl, rfl, trivial⟩, v + 1, x6, out ++ [((v : Int), w)], rfl, rfl, ?_, ?_, ?_, ?_⟩
            · exact ⟨by have := hK7.1; exact (by first | omega | (dsimp only; omega)), fun j hj => (hlow6 j hj).trans ((upd_ne _ _ (by have := hK7.1; omega)).trans (hK7.2.1 j hj)), hK7.2.2⟩
            · simp only [List.length_append, List.length_cons, List.length_nil]
              omega
            · simp only [List.length_append, List.length_cons, List.length_nil, List.map_append, List.flatMap_append, List.map_cons, List.map_nil, List.flatMap_cons, List.flatMap_nil, List.append_nil]
              exact hacc6.up (by first | omega | (dsimp only; omega)) fun _ _ _ => rfl
            · rw [← h3, hdrop, cmpG, if_neg hn1, if_neg hn2, ← hw, if_neg (by rw [hcO]; decide)]
          · intro hc4
            have hcO : ownB v w = true := by simpa using hc4
            refine aw_skip ?_
            simp only [thenA_normal, thenA_ret, thenA_exit, blockA_normal, blockA_ret, blockA_exit, ↓reduceIte, Nat.reduceEqDiff]
            refine aw_region C (pb := false) rfl ?_
            repeat' (first | refine wy1 (a := by simp only [go_sem, ↓reduceIte, Nat.reduceEqDiff, reduceCtorEq, Nat.reduceAdd, Nat.reduceMul, Nat.reduceLeDiff, aLoad, aStore, wrap_small ((v : Int) + 1) (by omega) (by omega)]; exact rfl) (h := ?_) | fail)
            refine awOps_nil ?_
            try simp only [thenA_normal, thenA_ret, thenA_exit, blockA_normal, blockA_ret, blockA_exit]
            -- end of round 0 at 0t1f2t3f4f
            refine ⟨1000 - (v + 1), [(0, .av (.sc x)), (1, .av (.sc y)), (6, (xo)), (7, vI (v + 1))], by omega, AllIn.less ⟨rfl, rfl, rfl, rfl, trivial⟩, v + 1, xo, out, rfl, rfl, ?_, ?_, ?_, ?_⟩
            · exact hK7.up (by first | omega | (dsimp only; omega))
            · omega
            · exact hA7.up (by first | omega | (dsimp only; omega)) fun _ _ _ => rfl
            · rw [← h3, hdrop, cmpG, if_neg hn1, if_neg hn2, ← hw, if_pos hcO]
      · intro hc2
        have hpa0 : pa < 0 := by have := of_decide_eq_false hc2; omega
        have hpb0 : 0 ≤ pb := by
          rcases Int.lt_or_le pb 0 with h | h
          · rw [decide_eq_true hpa0, decide_eq_true h] at hc1; cases hc1
          · exact h
        obtain ⟨k, hk, eb, em⟩ : ∃ k, ∃ h : k < b.length, pb = (k : Int) ∧ bmap b v = b[k].2 := by
          rcases bmap_place (a := b) (v := (v : Int)) with ⟨h, _⟩ | ⟨i, hi, h1, h2⟩
          · omega
          · exact ⟨i, hi, by omega, h2⟩
        have hB : hasB b v = true := by rw [hasB, ← hpb]; exact decide_eq_true hpb0
        have hA : hasB a v = false := by rw [hasB, ← hpa]; exact decide_eq_false (by omega)
        subst eb
        have hiy := idxBI hy hk
        have hwb : cmp1 a b v = b[k].2 := by
          rcases bmap_place (a := a) (v := (v : Int)) with ⟨_, h⟩ | ⟨i, hi, h1, _⟩
          · rw [cmp1, h, appT_var, em]
          · omega
        have hwl : 1 ≤ b[k].2.length := (hlb.2 b[k] (List.getElem_mem hk)).pos
        obtain ⟨w, hw2⟩ : ∃ w, w = b[k].2 := ⟨_, rfl⟩
        rw [← hw2] at hwb hiy hwl
        have hw : w = cmp1 a b v := hwb.symm
        have hn1 : ¬ (hasB a v = false ∧ hasB b v = false) := by rw [hB]; exact fun h => by cases h.2
        have hn2 : ¬ (hasB a v = true ∧ 200 < (cmp1 a b v).length) := by rw [hA]; exact fun h => by cases h.1
        refine aw_region C (pb := false) rfl ?_
        repeat' (first | refine wy1 (a := by simp only [go_sem, ↓reduceIte, Nat.reduceEqDiff, reduceCtorEq, Nat.reduceAdd, Nat.reduceMul, Nat.reduceLeDiff, aLoad, aStore, hiy]; exact rfl) (h := ?_) | fail)
        refine awOps_nil ?_
        refine AW.less (sl' := [(0, .av (.sc x)), (1, .av (.sc y)), (6, xo), (7, vI v), (10, vC w)]) (AllIn.less ⟨rfl, rfl, rfl, rfl, rfl, trivial⟩) ?_
        try simp only [thenA_normal, thenA_ret, thenA_exit, blockA_normal, blockA_ret, blockA_exit]
        refine aw_region_seq C (pb := false) rfl fun K hK => ?_
        repeat' (first | refine wy0 (h := ?_) | fail)
        (refine wc (And.intro Try.call58 (fn58 L v w _ _ (gslC w))) ?_; rintro _ _ ⟨rfl, rfl⟩)
        repeat' (first | refine wy0 (h := ?_) | fail)
        refine awOps_nil (hK _ _ ?_)
        clear hK K
        refine aw_cond (by rfl) ?_ ?_
        · intro hc5
          have hcO : ownB v w = false := by simpa using hc5
          refine aw_region C (pb := false) rfl ?_
          repeat' (first | refine wy0 (h := ?_) | fail)
          refine awOps_append (by rfl) (by rfl) (by rfl) (by rfl) (hA7.up (Nat.le_refl _) fun j h1 h2 => upd_ne _ _ (by omega)) T25 rfl T39 rfl (by simp) (by simp [y39]) (k := 1) (new := (encB (bndI ((v : Int), w))).map .sc) (by simp [aSrc, evA, get, upd, zerosA, encB, bndI, storeL, List.range, List.range.loop]; exact ⟨Nat.le_refl _, rfl⟩) (by simp [encB]) (by omega) (by omega) (by have := hK7.1; omega) fun x6 ob6 hacc6 hlow6 _ => ?_
          repeat' (first | refine wy0 (h := ?_) | fail)
          refine awOps_nil ?_
          try simp only [thenA_normal, thenA_ret, thenA_exit, blockA_normal, blockA_ret, blockA_exit]
          refine aw_region C (pb := false) rfl ?_
          repeat' (first | refine wy1 (a := by simp only [go_sem, ↓reduceIte, Nat.reduceEqDiff, reduceCtorEq, Nat.reduceAdd, Nat.reduceMul, Nat.reduceLeDiff, aLoad, aStore, wrap_small ((v : Int) + 1) (by omega) (by omega)]; exact rfl) (h := ?_) | fail)
          refine awOps_nil ?_
          try simp only [thenA_normal, thenA_ret, thenA_exit, blockA_normal, blockA_ret, blockA_exit]
          -- end of round 0 at 0t1f2f5t
          refine ⟨1000 - (v + 1), [(0, .av (.sc x)), (1, .av (.sc y)), (6, (x6)), (7, vI (v + 1))], by omega, AllIn.less ⟨rfl, rfl, rfl, rfl, trivial⟩, v + 1, x6, out ++ [((v : Int), w)], rfl, rfl, ?_, ?_, ?_, ?_⟩
          · exact ⟨by have := hK7.1; exact (by first | omega | (dsimp only; omega)), fun j hj => (hlow6 j hj).trans ((upd_ne _ _ (by have := hK7.1; omega)).trans (hK7.2.1 j hj)), hK7.2.2⟩
          · simp only [List.length_append, List.length_cons, List.length_nil]
            omega
          · simp only [List.length_append, List.length_cons, List.length_nil, List.map_append, List.flatMap_append, List.map_cons, List.map_nil, List.flatMap_cons, List.flatMap_nil, List.append_nil]
            exact hacc6.up (by first | omega | (dsimp only; omega)) fun _ _ _ => rfl
          · rw [← h3, hdrop, cmpG, if_neg hn1, if_neg hn2, ← hw, if_neg (by rw [hcO]; decide)]
        · intro hc5
          have hcO : ownB v w = true := by simpa using hc5
          refine aw_skip ?_
          simp only [thenA_normal, thenA_ret, thenA_exit, blockA_normal, blockA_ret, blockA_exit, ↓reduceIte, Nat.reduceEqDiff]
          refine aw_region C (pb := false) rfl ?_
          repeat' (first | refine wy1 (a := by simp only [go_sem, ↓reduceIte, Nat.reduceEqDiff, reduceCtorEq, Nat.reduceAdd, Nat.reduceMul, Nat.reduceLeDiff, aLoad, aStore, wrap_small ((v : Int) + 1) (by omega) (by omega)]; exact rfl) (h := ?_) | fail)
          refine awOps_nil ?_
          try simp only [thenA_normal, thenA_ret, thenA_exit, blockA_normal, blockA_ret, blockA_exit]
          -- end of round 0 at 0t1f2f5f
          refine ⟨1000 - (v + 1), [(0, .av (.sc x)), (1, .av (.sc y)), (6, (xo)), (7, vI (v + 1))], by omega, AllIn.less ⟨rfl, rfl, rfl, rfl, trivial⟩, v + 1, xo, out, rfl, rfl, ?_, ?_, ?_, ?_⟩
          · exact hK7.up (by first | omega | (dsimp only; omega))
          · omega
          · exact hA7.up (by first | omega | (dsimp only; omega)) fun _ _ _ => rfl
          · rw [← h3, hdrop, cmpG, if_neg hn1, if_neg hn2, ← hw, if_pos hcO]
  · intro hc0
    try simp only [decide_eq_true_eq, decide_eq_false_iff_not] at hc0
    refine aw_exit ?_
    simp only [thenA_normal, thenA_ret, thenA_exit, blockA_normal, blockA_ret, blockA_exit, ↓reduceIte, Nat.reduceEqDiff]
    rw [List.drop_of_length_le (by omega), cmpG] at h3
    obtain ⟨ty, ob7, hpv7, hty, hacc7, hlow7, _⟩ := Acc.pure (enc := encB) (k := 2) (l := out.map bndI) (fun _ => rfl) (by rw [List.length_map]; exact hacc)
    refine aw_pur 6 hpv7 ?_
    refine aw_region_seq C (pb := false) rfl fun K hK => ?_
    repeat' (first | refine wy0 (h := ?_) | fail)
    refine awOps_nil (hK _ _ ?_)
    clear hK K
    refine aw_ret ?_
    simp only [go_sem, ↓reduceIte, Nat.reduceEqDiff, reduceCtorEq, Nat.reduceAdd, Nat.reduceMul, Nat.reduceLeDiff, aLoad, aStore, FnQ, resA]
    -- 0f.x0.ret
    exact fun _ => ⟨by first | rfl | trivial, fun j hj => (hlow7 j hj).trans (hs1.2.1 j hj), hs1.2.2, by rw [← h3]; exact ⟨ty, rfl, hty⟩⟩
end Go.Am.Seat
