/-
  Part 2 of the proof: AmO, AmP, AmQ, AmR, AmS, AmT, AmU, AmV, AmW, AmX, AmY, AmZ, Jn, AmSt, AmQc, W38, W64, W54, W47, W68.
-/
import Derived.Below
import Derived.ChangeSame
import Derived.Deep.Fields
import Derived.Deep.Slices
import Derived.Laws.StructEq
import Derived.ShutString
import Derived.SizedLaws
import Derived.Test.YticnfndhinjbbaaProg
import Derived.Test.YticnfndhinjbbaaME1
set_option linter.unusedVariables false
set_option linter.unusedSimpArgs false
/-
  Am, part O: a function's contract out of its body's walk; what it made itself may be forgotten.
-/
namespace Go.Am
section
variable {P : Program} {L : Loops} {m m' : Nat → Option Ent} {G G' : Nat → Nat → Prop} {w w' : World} {s s' : Me}

/-- A block that is no cells turns into another one that is none: nothing of ours is touched. -/
theorem on_putObj {lb : Nat → Option Nat} {D : Nat} {o o' : Go.Obj} (hD : w.heap[D]? = some o) (h1 : ∀ k, (w.cell? ⟨D, k, none⟩) = none) (h2 : ∀ k, ((w.putObj D o').cell? ⟨D, k, none⟩) = none) : On m lb G w m lb G (w.putObj D o') := by
  refine ⟨⟨fun _ _ h => h, fun b k _ => ?_⟩, fun _ _ h => h, fun _ _ h => h⟩
  by_cases hb : b = D
  · subst hb; rw [h1, h2]
  · exact cell_of_heap (World.putObj_heap_other hb)
theorem rel_putObj {lb : Nat → Option Nat} {ob : Nat → Obj} {nx : Nat} {D : Nat} {o' : Go.Obj} (h : Rel m lb G w ob nx) (hno : ∀ id e, m id = some e → e.b ≠ D) (hon : On m lb G w m lb G (w.putObj D o')) : Rel m lb G (w.putObj D o') ob nx :=
  ⟨fun id e he => (h.obj id e he).on hon (World.putObj_heap_other (hno id e he)) fun _ h => h, h.inj, fun b k hg => by simpa using h.glt b k hg, fun id e he => by simpa using h.mlt id e he, h.fresh,
   fun l b hl => by simpa using h.ll l b hl⟩
theorem cell_deferred {D k : Nat} {x : Option (List Deferred)} (h : w.heap[D]? = some (.deferred x)) : w.cell? ⟨D, k, none⟩ = none := by simp [World.cell?, h]
theorem cell_loop {D k : Nat} {x : Loop} (h : w.heap[D]? = some (.loop x)) : w.cell? ⟨D, k, none⟩ = none := by simp [World.cell?, h]

theorem leaves_of {fn : Func} {tmps : Array Value} {v : Value} (hv : ∀ w, (results fn tmps).run P w = .ok v w) {R : Ending → World → Prop} {D0 : Nat} : ∀ (ds : List Deferred) {w : World}, DR D0 L m w ds → WR L m G w s →
    (∀ w', WR L m G w' s → On m L.lb G w m L.lb G w' → w'.os = w.os → w'.tape = w.tape → w'.output = w.output → w'.heap.size = w.heap.size → (∀ b : Nat, b < D0 → w'.heap[b]? = w.heap[b]?) → R (.returned v) w') → LeavesInM (Fw none) 0 P fn tmps R ds .returning w
  | [], w, _, hw, h => ⟨v, hv w, h w hw On.refl rfl rfl rfl rfl fun _ _ => rfl⟩
  | d :: ds, w, ⟨⟨D, h1, h2, h3, h4, h5, h6⟩, h7⟩, hw, h => by
    have hlt : D < w.heap.size := (Array.getElem?_eq_some_iff.1 h3).1
    have hon : On m L.lb G w m L.lb G (w.putObj D (.deferred none)) := on_putObj h3 (fun k => cell_deferred h3) (fun k => cell_deferred (World.putObj_heap_same hlt))
    refine ⟨by simp, .inl ⟨D, _, h1, run_takeDeferred h3, leaves_of hv ds ?_ ⟨rel_putObj hw.rel h4 hon, fun l b hl => ?_, fun l b hl t => VR.on hon (hw.tm l b hl t)⟩ fun w' hw' hon' e1 e2 e3 e4 e5 => h w' hw' (hon.trans hon') e1 e2 e3 (by simpa using e4) fun b hb => (e5 b hb).trans (World.putObj_heap_other (by omega))⟩⟩
    · clear h
      induction ds with
      | nil => trivial
      | cons d' ds ih =>
        obtain ⟨⟨D', k1, k2, k3, k4, k5, k6⟩, k7⟩ := h7
        have hne : D' ≠ D := fun e => h6 d' (by simp) (by rw [k1, e])
        exact ⟨⟨D', k1, k2, (World.putObj_heap_other hne).trans k3, k4, k5, k6⟩, ih (fun x hx => h6 x (by simp [hx])) k7⟩
    · have hne : b ≠ D := fun e => h5 l (by rw [hl, e])
      exact (World.putObj_heap_other hne).trans (hw.loops l b hl)

def initSl : Nat → List Va → Slots
  | _, [] => []
  | k, v :: vs => (k, v) :: initSl (k + 1) vs
theorem initSl_of {lb : Nat → Option Nat} : ∀ {xs : List Va} {us : List Value} (k : Nat) (n : Nat), VRs m lb G w xs us → ∀ t, VR m lb G w (get (initSl k xs) (k + t)) ((us ++ List.replicate n undef).getD t undef)
  | [], us, k, n, h, t => by simp [initSl, get, VR]
  | x :: xs, us, k, n, h, t => by
    simp only [VRs] at h
    obtain ⟨u, us, rfl, h1, h2⟩ := h
    cases t with
    | zero => simpa [initSl, get] using h1
    | succ t =>
      have := initSl_of (k + 1) n h2 t
      simp only [initSl, get]
      rw [if_neg (by omega)]
      rw [show k + (t + 1) = k + 1 + t by omega]
      simpa using this
theorem initSl_low : ∀ {xs : List Va} (k t : Nat), t < k → get (initSl k xs) t = .und
  | [], k, t, h => rfl
  | x :: xs, k, t, h => by
    simp only [initSl, get]
    rw [if_neg (by omega)]
    exact initSl_low (k + 1) t (by omega)

def resA (ts : List Tmp) (sl : Slots) : Va := match ts with
  | [t] => get sl t
  | ts => .tup (ts.map (get sl))
def resV (ts : List Tmp) (tmps : Array Value) : Value := match ts with
  | [t] => tmps.getD t undef
  | ts => .tuple (ts.map fun t => tmps.getD t undef).toArray
theorem resA_of {lb : Nat → Option Nat} {sl : Slots} {tmps : Array Value} (h : ∀ t, VR m lb G w (get sl t) (tmps.getD t undef)) (ts : List Tmp) : VR m lb G w (resA ts sl) (resV ts tmps) := by
  have key : ∀ ts : List Tmp, VRs m lb G w (ts.map (get sl)) (ts.map fun t => tmps.getD t undef) := by
    intro ts
    induction ts with
    | nil => exact VRs.nil
    | cons t ts ih => exact VRs.cons (h t) ih
  unfold resA resV
  split
  · exact h _
  · simp only [VR]
    exact ⟨_, rfl, key ts⟩
theorem results_of {fn : Func} {ts : List Tmp} (h : fn.results = (ts.map ResultVar.tmp).toArray) (hl : ts.length ≤ 4) (tmps : Array Value) (w : World) : (results fn tmps).run P w = .ok (resV ts tmps) w := by
  match ts, hl with
  | [], _ => simp [results, h, resV]
  | [a], _ => simp [results, h, resV]
  | [a, b], _ => simp [results, h, resV]
  | [a, b, c], _ => simp [results, h, resV]
  | [a, b, c, d], _ => simp [results, h, resV]
  | a :: b :: c :: d :: e :: l, hl => simp at hl

/-- What a function's body must come to. -/
def FnQ (ts : List Tmp) (R : Va → Me → Prop) : Exit → Slots → Me → Prop
  | .normal, sl, s => R (resA ts sl) s
  | .ret, sl, s => R (resA ts sl) s
  | _, _, _ => False
theorem fn_of_body {f : FuncId} {fn : Func} {c : Code} {args : List Va} {ts : List Tmp} {R : Va → Me → Prop} (hf : P.funcs[f]? = some fn) (hb : fn.body = some c) (hr : fn.results = (ts.map ResultVar.tmp).toArray) (hts : ts.length ≤ 4) (hlen : args.length ≤ fn.ntmps)
    (h : ∀ D0, AW P ⟨none, fn.ntmps, D0, s.nx, L⟩ c (fun e sl s' => FnQ ts (fun r s' => s.nx ≤ s'.nx → R r s') e sl s') (initSl 0 args) s) : FnL P L f args s R := by
  intro m G w vs hvs hw
  refine callsIn_of_wp_marks hf hb trivial ?_
  have hvl := hvs.length
  refine wpIn_mono (h w.heap.size m G { tmps := vs.toArray ++ Array.replicate (fn.ntmps - vs.toArray.size) undef, defers := [] } w ⟨?_, ?_, hw, trivial, Nat.le_refl _, Nat.le_refl _⟩) fun e a' w' hp => ?_
  · simp; omega
  · intro t
    have := initSl_of 0 (fn.ntmps - vs.length) hvs t
    simp only [Nat.zero_add] at this
    rw [Array.getD_eq_getD_getElem?, ← Array.getElem?_toList]
    simpa [List.getD_eq_getElem?_getD] using this
  · obtain ⟨sl', s', m', G', h1, h2, h3, h4⟩ := hp
    have fin : R (resA ts sl') s' → LeavesInM (Fw none) 0 P fn a'.tmps (fun e w' => ∃ v r s' m' G', e = .returned v ∧ R r s' ∧ VR m' L.lb G' w' r v ∧ WR L m' G' w' s' ∧ Ev L m G w m' G' w' ∧ s.nx ≤ s'.nx ∧ ∀ i, i < s.nx → m i = none → m' i = none) a'.defers .returning w' := fun hR => by
      refine leaves_of (fun w => results_of hr hts a'.tmps w) a'.defers h2.dr h2.wr fun w'' k1 k2 k3 k4 k5 k6 k7 => ?_
      refine ⟨_, _, s', m', G', rfl, hR, VR.on k2 (resA_of h2.slots ts), k1, ⟨h3.on.trans k2, k3.trans h3.os, k4.trans h3.tape, k5.trans h3.output, by rw [k6]; exact h3.size, fun b hb hm hl => (k7 b hb).trans (h3.old b hb hm hl), h3.new⟩, h2.n0, h4⟩
    cases e with
    | normal => exact fin (h1 h2.n0)
    | ret => exact fin (h1 h2.n0)
    | _ => exact h1.elim
end
end Go.Am
/-
  Am, part P: what a function made for itself is forgotten.
-/
namespace Go.Am
section
variable {m m' : Nat → Option Ent} {lb lb' lb0 : Nat → Option Nat} {G G' : Nat → Nat → Prop} {w w' : World}
mutual
theorem AR.back (hm : ∀ id e, m id = some e → m' id = some e) : ∀ {c : Av} {v0 v : Value}, AR m lb G w c v0 → AR m' lb G' w' c v → AR m lb G' w' c v
  | .sc s, v0, v, _, h => by simpa only [AR] using h
  | .own id o n es, v0, v, h0, h => by
    simp only [AR] at h0 h ⊢
    obtain ⟨e, h1, _⟩ := h0
    obtain ⟨e', h2, h3⟩ := h
    rw [hm _ _ h1] at h2
    cases h2
    exact ⟨e, h1, h3⟩
  | .ptr id o, v0, v, h0, h => by
    simp only [AR] at h0 h ⊢
    obtain ⟨e, h1, _⟩ := h0
    obtain ⟨e', h2, h3⟩ := h
    rw [hm _ _ h1] at h2
    cases h2
    exact ⟨e, h1, h3⟩
  | .fn f first caps, v0, v, h0, h => by
    simp only [AR] at h0 h ⊢
    obtain ⟨us0, vs0, _, k1, k2⟩ := h0
    obtain ⟨us, vs, hv, h1, h2⟩ := h
    exact ⟨us, vs, hv, ARs.back hm k1 h1, ARs.back hm k2 h2⟩
  | .map id, v0, v, h0, h => by
    simp only [AR] at h0 h ⊢
    obtain ⟨e, h1, _⟩ := h0
    obtain ⟨e', h2, h3⟩ := h
    rw [hm _ _ h1] at h2
    cases h2
    exact ⟨e, h1, h3⟩
  | .yl l, v0, v, _, h => by simpa only [AR] using h
theorem ARs.back (hm : ∀ id e, m id = some e → m' id = some e) : ∀ {cs : List Av} {vs0 vs : List Value}, ARs m lb G w cs vs0 → ARs m' lb G' w' cs vs → ARs m lb G' w' cs vs
  | [], _, vs, _, h => by simpa only [ARs] using h
  | c :: cs, vs0, vs, h0, h => by
    simp only [ARs] at h0 h ⊢
    obtain ⟨u0, us0, _, k1, k2⟩ := h0
    obtain ⟨u, us, hv, h1, h2⟩ := h
    exact ⟨u, us, hv, AR.back hm k1 h1, ARs.back hm k2 h2⟩
end
mutual
theorem VR.back (hm : ∀ id e, m id = some e → m' id = some e) : ∀ {c : Va} {v0 v : Value}, VR m lb G w c v0 → VR m' lb G' w' c v → VR m lb G' w' c v
  | .av a, v0, v, h0, h => by simp only [VR] at h0 h ⊢; exact AR.back hm h0 h
  | .agg cs, v0, v, h0, h => by
    simp only [VR] at h0 h ⊢
    obtain ⟨vs0, _, h0⟩ := h0
    obtain ⟨vs, hv, h⟩ := h
    exact ⟨vs, hv, ARs.back hm h0 h⟩
  | .tup cs, v0, v, h0, h => by
    simp only [VR] at h0 h ⊢
    obtain ⟨vs0, _, h0⟩ := h0
    obtain ⟨vs, hv, h⟩ := h
    exact ⟨vs, hv, VRs.back hm h0 h⟩
  | .und, _, v, _, _ => by simp only [VR]
theorem VRs.back (hm : ∀ id e, m id = some e → m' id = some e) : ∀ {cs : List Va} {vs0 vs : List Value}, VRs m lb G w cs vs0 → VRs m' lb G' w' cs vs → VRs m lb G' w' cs vs
  | [], _, vs, _, h => by simpa only [VRs] using h
  | c :: cs, vs0, vs, h0, h => by
    simp only [VRs] at h0 h ⊢
    obtain ⟨u0, us0, _, k1, k2⟩ := h0
    obtain ⟨u, us, hv, h1, h2⟩ := h
    exact ⟨u, us, hv, VR.back hm k1 h1, VRs.back hm k2 h2⟩
end
theorem MR.back (hm : ∀ id e, m id = some e → m' id = some e) : ∀ {l : List (Sc × Av)} {es0 es : List MapEntry}, MR m lb G w l es0 → MR m' lb G' w' l es → MR m lb G' w' l es
  | [], _, es, _, h => by simpa only [MR] using h
  | (k, a) :: l, es0, es, h0, h => by
    simp only [MR] at h0 h ⊢
    obtain ⟨x0, xs0, _, k1, k2, k3⟩ := h0
    obtain ⟨x, xs, he, h1, h2, h3⟩ := h
    exact ⟨x, xs, he, h1, AR.back hm k2 h2, MR.back hm k3 h3⟩

/-- Plain data alone. -/
def Av.plain : Av → Bool
  | .sc _ => true
  | _ => false
mutual
def Va.plain : Va → Bool
  | .av a => a.plain
  | .agg cs => cs.all Av.plain
  | .tup vs => plains vs
  | .und => true
def plains : List Va → Bool
  | [] => true
  | v :: vs => v.plain && plains vs
end
theorem AR.plain {c : Av} {v : Value} (hp : c.plain = true) (h : AR m lb G w c v) : AR m' lb' G w c v := by
  cases c <;> simp [Av.plain] at hp
  simpa only [AR] using h
theorem ARs.plain : ∀ {cs : List Av} {vs : List Value}, cs.all Av.plain = true → ARs m lb G w cs vs → ARs m' lb' G w cs vs
  | [], _, _, h => by simpa only [ARs] using h
  | c :: cs, _, hp, h => by
    simp only [List.all_cons, Bool.and_eq_true] at hp
    simp only [ARs] at h ⊢
    obtain ⟨u, us, hv, h1, h2⟩ := h
    exact ⟨u, us, hv, AR.plain hp.1 h1, ARs.plain hp.2 h2⟩
mutual
theorem VR.plain : ∀ {r : Va} {v : Value}, r.plain = true → VR m lb G w r v → VR m' lb' G w r v
  | .av a, v, hp, h => by simp only [Va.plain] at hp; simp only [VR] at h ⊢; exact AR.plain hp h
  | .agg cs, v, hp, h => by
    simp only [Va.plain] at hp
    simp only [VR] at h ⊢
    obtain ⟨vs, hv, h⟩ := h
    exact ⟨vs, hv, ARs.plain hp h⟩
  | .tup xs, v, hp, h => by
    simp only [Va.plain] at hp
    simp only [VR] at h ⊢
    obtain ⟨vs, hv, h⟩ := h
    exact ⟨vs, hv, VRs.plain hp h⟩
  | .und, v, _, _ => by simp only [VR]
theorem VRs.plain : ∀ {xs : List Va} {vs : List Value}, plains xs = true → VRs m lb G w xs vs → VRs m' lb' G w xs vs
  | [], vs, _, h => by simpa only [VRs] using h
  | x :: xs, vs, hp, h => by
    simp only [plains, Bool.and_eq_true] at hp
    simp only [VRs] at h ⊢
    obtain ⟨u, us, hv, h1, h2⟩ := h
    exact ⟨u, us, hv, VR.plain hp.1 h1, VRs.plain hp.2 h2⟩
end
theorem MR.plain : ∀ {l : List (Sc × Av)} {es : List MapEntry}, l.all (fun p => p.2.plain) = true → MR m lb G w l es → MR m' lb' G w l es
  | [], es, _, h => by simpa only [MR] using h
  | (k, a) :: l, es, hp, h => by
    simp only [List.all_cons, Bool.and_eq_true] at hp
    simp only [MR] at h ⊢
    obtain ⟨x, xs, he, h1, h2, h3⟩ := h
    exact ⟨x, xs, he, h1, AR.plain hp.1 h2, MR.plain hp.2 h3⟩
def Obj.plain : Obj → Bool
  | .dead => true
  | .cs l _ => l.all Av.plain
  | .mp l => l.all fun p => p.2.plain
theorem OR.plain {o : Obj} {e : Ent} (hp : o.plain = true) (h : OR m lb G w o e) : OR m' lb' G w o e := by
  cases o with
  | dead => trivial
  | cs l fz =>
    simp only [OR] at h ⊢
    obtain ⟨A, vs, h1, h2, h3, h4, h5, h6⟩ := h
    exact ⟨A, vs, h1, h2, ARs.plain hp h3, h4, h5, h6⟩
  | mp l =>
    simp only [OR] at h ⊢
    obtain ⟨es, clock, h1, h2⟩ := h
    exact ⟨es, clock, h1, MR.plain hp h2.1, h2.2⟩
theorem OR.back (hm : ∀ id e, m id = some e → m' id = some e) {o : Obj} {e e' : Ent} (h0 : OR m lb G w o e) (h : OR m' lb G' w' o e') : OR m lb G' w' o e' := by
  cases o with
  | dead => trivial
  | cs l fz =>
    simp only [OR] at h0 h ⊢
    obtain ⟨A0, vs0, _, _, k3, _⟩ := h0
    obtain ⟨A, vs, h1, h2, h3, h4, h5, h6⟩ := h
    exact ⟨A, vs, h1, h2, ARs.back hm k3 h3, h4, h5, h6⟩
  | mp l =>
    simp only [OR] at h0 h ⊢
    obtain ⟨es0, clock0, _, k2, _⟩ := h0
    obtain ⟨es, clock, h1, h2, h3⟩ := h
    exact ⟨es, clock, h1, MR.back hm k2 h2, h3⟩
end

theorem FnL.forget {P : Program} {L : Loops} {f : FuncId} {args : List Va} {s : Me} {R : Va → Me → Prop} (h : FnL P L f args s fun r s' => r.plain = true ∧ (∀ i, i < s.nx → s'.ob i = s.ob i ∨ (s'.ob i).plain = true) ∧ R r s') :
    FnL P L f args s fun r s'' => ∃ s', R r s' ∧ s'' = ⟨s'.ob, s.nx, s'.ls⟩ := by
  intro m G w vs h1 h2
  refine CallsIn.mono (h m G w vs h1 h2) fun e w' he => ?_
  obtain ⟨v, r, s', m', G', rfl, ⟨hp, ho, hR⟩, h3, h4, h5, h6, h7⟩ := he
  have hm : ∀ i e, m' i = some e → i < s.nx → m i = some e := fun i e hi hlt => by
    cases hc : m i with
    | none => rw [h7 i hlt hc] at hi; cases hi
    | some e' => rw [h5.on.m _ _ hc] at hi; exact hi
  refine ⟨v, r, _, m, G', rfl, ⟨s', hR, rfl⟩, VR.plain hp h3, ⟨⟨fun id e he => ?_, fun i j e f he hf hi hj hef => ?_, h4.rel.glt, fun id e he => ?_, h2.rel.fresh, fun l b hl => ?_⟩, h4.loops, fun l b hl t => VR.back h5.on.m (h2.tm l b hl t) (h4.tm l b hl t)⟩,
    ⟨⟨h5.on.s, fun _ _ h => h, fun _ _ h => h⟩, h5.os, h5.tape, h5.output, h5.size, h5.old, fun id e he => h5.new id e (h5.on.m _ _ he)⟩, Nat.le_refl _, fun _ _ h => h⟩
  · have h8 := h4.rel.obj id e (h5.on.m _ _ he)
    rcases ho id (h2.lt (by simp [he])) with h9 | h9
    · simp only [h9] at h8 ⊢
      exact OR.back h5.on.m (h2.rel.obj id e he) h8
    · exact OR.plain h9 h8
  · exact h4.rel.inj i j e f (h5.on.m _ _ he) (h5.on.m _ _ hf) hi hj hef
  · exact h4.rel.mlt id e (h5.on.m _ _ he)
  · exact ⟨(h4.rel.ll l b hl).1, fun id e he => (h4.rel.ll l b hl).2 id e (h5.on.m _ _ he)⟩
/-- A function that touches nothing: its contract. -/
theorem FnL.pure {P : Program} {L : Loops} {f : FuncId} {args : List Va} {s : Me} {R : Va → Prop} (h : FnL P L f args s fun r s' => r.plain = true ∧ (∀ i, i < s.nx → s'.ob i = s.ob i) ∧ s'.ls = s.ls ∧ R r) :
    FnL P L f args s fun r s'' => R r ∧ s'' = s := by
  have h1 := FnL.forget (R := fun r s' => (∀ i, i < s.nx → s'.ob i = s.ob i) ∧ s'.ls = s.ls ∧ R r) (h.mono fun r s' ⟨h1, h2, h3⟩ => ⟨h1, fun i hi => .inl (h2 i hi), h2, h3⟩)
  intro m G w vs hv hw
  refine CallsIn.mono (h1 m G w vs hv hw) fun e w' he => ?_
  obtain ⟨v, r, s'', m', G', rfl, ⟨s', ⟨h2, h3, h4⟩, rfl⟩, h5, h6, h7, h8, h9⟩ := he
  refine ⟨v, r, s, m', G', rfl, ⟨h4, rfl⟩, h5, h6.agree (fun i hi => (h2 i (h6.lt hi)).symm) (Nat.le_refl _) h3.symm, h7, Nat.le_refl _, h9⟩
end Go.Am
/-
  Am, part Q: a region that draws its order: whatever the order, the same comes of it.
-/
namespace Go.Am

/-- Must i be done ahead of j? (By chains of at most f edges.) -/
def pre (ops : Array Oper) : Nat → Nat → Nat → Bool
  | 0, _, _ => false
  | f + 1, j, i => match ops[j]? with
    | some o => o.after.any fun e => Region.binds .any e && (e.on == i || pre ops f e.on i)
    | none => false
def dstOf (ops : Array Oper) (j : Nat) : Option Tmp := (ops[j]?).bind (·.dst)
def looksOf (ops : Array Oper) (j : Nat) : List Tmp := ((ops[j]?).map (·.looksAt ops)).getD []
/-- The edges lead back; who writes what another one looks at, or writes, is ordered against it. -/
def regOk (ops : Array Oper) (f : Nat) : Bool := (List.range ops.size).all fun j =>
  (match ops[j]? with
   | some o => o.after.all fun e => !Region.binds .any e || decide (e.on < j)
   | none => true) &&
  (List.range ops.size).all fun i => match dstOf ops i with
    | none => true
    | some d => (i == j) || ((!(looksOf ops j).contains d || (if i < j then pre ops f j i else pre ops f i j)) && (decide (dstOf ops j ≠ some d) || (if i < j then pre ops f j i else pre ops f i j)))
/-- What changes the store is ordered. -/
def effOk (ops : Array Oper) (f : Nat) : List Nat → Bool
  | [] => true
  | i :: l => decide (i < ops.size) && l.all (fun j => pre ops f j i) && effOk ops f l
def stageOk (ops : Array Oper) (f : Nat) (i k : Nat) : List Nat → Nat → Bool
  | [], _ => true
  | e :: l, q => (!pre ops f i e || decide (q < k)) && (!pre ops f e i || decide (k ≤ q)) && stageOk ops f i k l (q + 1)
def mask (ts : List Tmp) (sl : Slots) : Slots := ts.map fun t => (t, get sl t)

theorem get_mask (sl : Slots) : ∀ (ts : List Tmp) (t : Tmp), get (mask ts sl) t = .und ∨ (t ∈ ts ∧ get (mask ts sl) t = get sl t)
  | [], t => .inl rfl
  | x :: ts, t => by
    simp only [mask, List.map_cons, get]
    split
    · rename_i h; subst h; exact .inr ⟨by simp, rfl⟩
    · rcases get_mask sl ts t with h | ⟨h1, h2⟩
      · exact .inl h
      · exact .inr ⟨by simp [h1], h2⟩

theorem get_mask_in (sl : Slots) : ∀ (ts : List Tmp) (t : Tmp), t ∈ ts → get (mask ts sl) t = get sl t
  | [], t, h => by cases h
  | x :: ts, t, h => by
    simp only [mask, List.map_cons, get]
    split
    · rename_i he; subst he; rfl
    · rename_i he
      rcases List.mem_cons.1 h with h | h
      · exact absurd h.symm he
      · exact get_mask_in sl ts t h
section
variable {ops : Array Oper}
def inL (listed : Array Bool) (j : Nat) : Prop := listed.getD j false = true
def Closed (ops : Array Oper) (listed : Array Bool) : Prop := ∀ j o, inL listed j → ops[j]? = some o → ∀ e ∈ o.after, Region.binds .any e = true → inL listed e.on
theorem pre_of {listed : Array Bool} (hc : Closed ops listed) : ∀ (f j i : Nat) (o : Oper), ops[j]? = some o → (∀ e ∈ o.after, Region.binds .any e = true → inL listed e.on) → pre ops f j i = true → inL listed i
  | 0, j, i, o, _, _, h => by simp [pre] at h
  | f + 1, j, i, o, ho, he, h => by
    simp only [pre, ho] at h
    obtain ⟨e, h1, h2⟩ := Array.any_eq_true'.1 h
    simp only [Bool.and_eq_true, Bool.or_eq_true, beq_iff_eq] at h2
    have h3 := he e h1 h2.1
    rcases h2.2 with h4 | h4
    · exact h4 ▸ h3
    · cases ho' : ops[e.on]? with
      | none =>
        cases f with
        | zero => simp [pre] at h4
        | succ f => simp [pre, ho'] at h4
      | some o' => exact pre_of hc f e.on i o' ho' (fun e' he' hb => hc e.on o' h3 ho' e' he' hb) h4
theorem pre_closed {listed : Array Bool} (hc : Closed ops listed) {f j i : Nat} (hj : inL listed j) (h : pre ops f j i = true) : inL listed i := by
  cases ho : ops[j]? with
  | none => cases f <;> simp [pre, ho] at h
  | some o => exact pre_of hc f j i o ho (fun e he hb => hc j o hj ho e he hb) h

/-- The slots, when these are done. -/
def slU (ops : Array Oper) (vals : Nat → Va) (sl : Slots) (listed : Nat → Bool) : Nat → Slots
  | 0 => sl
  | k + 1 => if listed k then push (dstOf ops k) (vals k) (slU ops vals sl listed k) else slU ops vals sl listed k
variable {vals : Nat → Va} {sl : Slots}
theorem get_push {d : Option Tmp} {v : Va} {sl : Slots} {t : Tmp} (h : d ≠ some t) : get (push d v sl) t = get sl t := by
  cases d with
  | none => rfl
  | some x => simp only [push, get]; rw [if_neg (fun e => h (by rw [e]))]
theorem slU_agree {P Q : Nat → Bool} {t : Tmp} : ∀ k, (∀ j, j < k → dstOf ops j = some t → P j = Q j) → get (slU ops vals sl P k) t = get (slU ops vals sl Q k) t
  | 0, _ => rfl
  | k + 1, h => by
    have ih := slU_agree k fun j hj => h j (by omega)
    simp only [slU]
    by_cases hd : dstOf ops k = some t
    · rw [h k (by omega) hd]
      split
      · rw [hd]; simp [push, get]
      · exact ih
    · split <;> split <;> (try simp only [get_push hd]) <;> exact ih
theorem slU_low {Q : Nat → Bool} {t : Tmp} {i : Nat} : ∀ k, i ≤ k → (∀ j, j < k → i ≤ j → dstOf ops j = some t → Q j = false) → get (slU ops vals sl Q k) t = get (slU ops vals sl Q i) t
  | 0, hi, _ => by rw [Nat.le_zero.1 hi]
  | k + 1, hi, h => by
    rcases Nat.eq_or_lt_of_le hi with he | hlt
    · rw [he]
    · have ih := slU_low k (by omega) fun j hj => h j (by omega)
      simp only [slU]
      by_cases hd : dstOf ops k = some t
      · rw [h k (by omega) (by omega) hd]
        exact ih
      · split
        · rw [get_push hd]; exact ih
        · exact ih
theorem slU_all {Q : Nat → Bool} : ∀ k, (∀ j, j < k → Q j = true) → slU ops vals sl Q k = slU ops vals sl (fun _ => true) k
  | 0, _ => rfl
  | k + 1, h => by
    simp only [slU]
    rw [h k (by omega), slU_all k fun j hj => h j (by omega)]
    simp
def unl (listed : Array Bool) : Nat → Nat
  | 0 => 0
  | k + 1 => unl listed k + (if listed.getD k true then 0 else 1)
theorem unl_set {listed : Array Bool} {i : Nat} (hi : listed.getD i true = false) : ∀ k, unl listed k = unl (listed.setIfInBounds i true) k + (if i < k then 1 else 0)
  | 0 => by simp [unl]
  | k + 1 => by
    have ih := unl_set hi k
    have hil : i < listed.size := by
      rcases Nat.lt_or_ge i listed.size with h | h
      · exact h
      · simp [Array.getD_eq_getD_getElem?, Array.getElem?_eq_none h] at hi
    simp only [unl]
    by_cases hk : i = k
    · subst hk
      have : (listed.setIfInBounds i true).getD i true = true := by simp [Array.getD_eq_getD_getElem?, hil]
      rw [this, hi]
      simp only [Nat.lt_irrefl, if_false, if_true, Bool.false_eq_true] at ih ⊢
      rw [if_pos (by omega)]
      omega
    · have : (listed.setIfInBounds i true).getD k true = listed.getD k true := getD_set_ne true hk
      rw [this, ih]
      by_cases hlt : i < k
      · have e1 : (if i < k then 1 else 0) = 1 := if_pos hlt
        have e2 : (if i < k + 1 then 1 else 0) = 1 := if_pos (by omega)
        rw [e1, e2]; omega
      · have e1 : (if i < k then 1 else 0) = 0 := if_neg hlt
        have e2 : (if i < k + 1 then 1 else 0) = 0 := if_neg (by omega)
        rw [e1, e2]; omega
theorem unl_zero {listed : Array Bool} : ∀ k, unl listed k = 0 → ∀ j, j < k → listed.getD j true = true
  | 0, _, j, hj => by omega
  | k + 1, h, j, hj => by
    simp only [unl] at h
    rcases Nat.lt_succ_iff_lt_or_eq.1 hj with h1 | h1
    · exact unl_zero k (by omega) j h1
    · subst h1
      cases hb : listed.getD j true
      · rw [hb] at h; simp at h
      · rfl
theorem ready_nil {listed : Array Bool} {f : Nat} (hsz : listed.size = ops.size) (hok : regOk ops f = true) (h : Region.ready .any ops listed = []) : ∀ j, j < ops.size → inL listed j := by
  intro j
  induction j using Nat.strongRecOn with
  | _ j ih =>
    intro hj
    cases hb : listed.getD j false
    · exfalso
      have hmem : j ∈ Region.ready .any ops listed := by
        rw [mem_ready]
        have hj' : j < listed.size := by omega
        refine ⟨?_, ops[j], by simp [hj], fun e he hbd => ?_⟩
        · simpa [Array.getD_eq_getD_getElem?, hj'] using hb
        · have h1 := List.all_eq_true.1 hok j (List.mem_range.2 hj)
          simp only [Bool.and_eq_true, Array.getElem?_eq_getElem hj] at h1
          have h2 := Array.all_eq_true_iff_forall_mem.1 h1.1 e he
          rw [hbd] at h2
          simp only [Bool.not_true, Bool.false_or, decide_eq_true_eq] at h2
          exact ih e.on h2 (by omega)
      rw [h] at hmem
      cases hmem
    · exact hb
end
end Go.Am
/-
  Am, part R: the rule for a region that draws its order.
-/
namespace Go.Am
section
variable {P : Program}
def Same (s s' : Me) : Prop := (∀ i, s.ob i = s'.ob i) ∧ s.nx ≤ s'.nx ∧ s.ls = s'.ls
theorem map_congr_arr {β : Type} {ev ev' : Operand → β} {l : Array Operand} (h : ∀ x ∈ l, ev x = ev' x) : l.toList.map ev = l.toList.map ev' :=
  List.map_congr_left fun x hx => h x (by simpa using hx)
theorem parts_congr {ev ev' : Operand → Va} {l : Array (Nat × Operand)} (h : ∀ x ∈ l.map Prod.snd, ev x = ev' x) : (l.toList.map fun p => (p.1, ev p.2)) = l.toList.map fun p => (p.1, ev' p.2) :=
  List.map_congr_left fun p hp => by rw [h p.2 (Array.mem_map.2 ⟨p, by simpa using hp, rfl⟩)]
theorem opt_congr {ev ev' : Operand → Va} {l : Option Operand} (h : ∀ x ∈ l.toList, ev x = ev' x) : l.map ev = l.map ev' := by
  cases l with
  | none => rfl
  | some x => simp [h x (by simp)]
/-- An operation looks at its operands alone. -/
theorem aop_congr (C : Cfg P) {pb : Bool} {ev ev' : Operand → Va} {ob : Nat → Obj} {nid : Nat} : ∀ {op : Op}, (∀ x ∈ op.operands, ev x = ev' x) → aop C pb ev ob nid op = aop C pb ev' ob nid op := by
  intro op h
  cases op with
  | call c =>
    simp only [aop]
    split
    · rename_i b hb
      rw [map_congr_arr (ev := ev) (ev' := ev') fun x hx => h x (by simp [Op.operands, Call.operands, hx])]
    · rfl
  | build t parts =>
    simp only [aop]
    rw [parts_congr (ev := ev) (ev' := ev') fun x hx => h x (by simpa [Op.operands] using hx)]
  | buildSlice t len parts =>
    simp only [aop]
    rw [parts_congr (ev := ev) (ev' := ev') fun x hx => h x (by simpa [Op.operands] using hx)]
  | makeFunc fn first caps =>
    cases fn with
    | func f =>
      simp only [aop]
      rw [map_congr_arr (ev := ev) (ev' := ev') (l := first) fun x hx => h x (by simp [Op.operands, hx]), map_congr_arr (ev := ev) (ev' := ev') (l := caps) fun x hx => h x (by simp [Op.operands, hx])]
    | _ => rfl
  | makeMap t q => cases q <;> rfl
  | slice t x lo hi mx =>
    cases mx with
    | none =>
      simp only [aop]
      rw [h x (by simp [Op.operands]), opt_congr (ev := ev) (ev' := ev') (l := lo) fun x hx => h x (by simp [Op.operands] at hx ⊢; simp [hx]), opt_congr (ev := ev) (ev' := ev') (l := hi) fun x hx => h x (by simp [Op.operands] at hx ⊢; simp [hx])]
    | some y => rfl
  | pick c a b => simp only [aop, h c (by simp [Op.operands]), h a (by simp [Op.operands]), h b (by simp [Op.operands])]
  | store t a x => simp only [aop, h a (by simp [Op.operands]), h x (by simp [Op.operands])]
  | binOp op t x y z => simp only [aop, h y (by simp [Op.operands]), h x (by simp [Op.operands])]
  | makeSlice t a x => simp only [aop, h a (by simp [Op.operands]), h x (by simp [Op.operands])]
  | indexAddr t a x => simp only [aop, h a (by simp [Op.operands]), h x (by simp [Op.operands])]
  | index t a x => simp only [aop, h a (by simp [Op.operands]), h x (by simp [Op.operands])]
  | lookup t a x ok => simp only [aop, h a (by simp [Op.operands]), h x (by simp [Op.operands])]
  | mapUpdate t a x y => simp only [aop, h a (by simp [Op.operands]), h x (by simp [Op.operands]), h y (by simp [Op.operands])]
  | mapEntry t a x => simp only [aop, h a (by simp [Op.operands]), h x (by simp [Op.operands])]
  | entryStore t a x y => simp only [aop, h a (by simp [Op.operands]), h x (by simp [Op.operands]), h y (by simp [Op.operands])]
  | move x => simp only [aop, h x (by simp [Op.operands])]
  | assign x => simp only [aop, h x (by simp [Op.operands])]
  | box t x => simp only [aop, h x (by simp [Op.operands])]
  | load t x => simp only [aop, h x (by simp [Op.operands])]
  | nilCheck x => simp only [aop, h x (by simp [Op.operands])]
  | unOp op t x => simp only [aop, h x (by simp [Op.operands])]
  | convert t d x => simp only [aop, h x (by simp [Op.operands])]
  | fieldAddr t x f => simp only [aop, h x (by simp [Op.operands])]
  | field t x f => simp only [aop, h x (by simp [Op.operands])]
  | extract x i => simp only [aop, h x (by simp [Op.operands])]
  | _ => rfl
theorem callT_congr {L : Loops} {ev ev' : Operand → Va} {s : Me} {K : Va → Me → Prop} {op : Op} (h : ∀ x ∈ op.operands, ev x = ev' x) : CallT P L op ev s K = CallT P L op ev' s K := by
  unfold CallT
  cases op with
  | call c =>
    simp only
    split
    · rename_i g hc
      rw [h g (by simp [Op.operands, Call.operands, hc]), map_congr_arr (ev := ev) (ev' := ev') fun x hx => h x (by simp [Op.operands, Call.operands, hx])]
    · rfl
  | _ => rfl
def OpAt (C : Cfg P) (X : Fr) (pb : Bool) (o : Oper) (nid : Nat) (sl : Slots) (s : Me) (K : Va → Me → Prop) : Prop :=
  match isCall o.op with
  | true => CallT P X.L o.op (evA sl) s K
  | false => match aop C pb (evA sl) s.ob nid o.op with
    | some (v, ob') => K v ⟨ob', s.nx, s.ls⟩
    | none => False
theorem opAt_congr (C : Cfg P) {X : Fr} {pb : Bool} {o : Oper} {nid : Nat} {sl sl' : Slots} {s : Me} {K : Va → Me → Prop} (h : ∀ x ∈ o.op.operands, evA sl x = evA sl' x) : OpAt C X pb o nid sl s K = OpAt C X pb o nid sl' s K := by
  unfold OpAt
  rw [callT_congr h, aop_congr C h]
def Each {α : Type} (p : α → Prop) : List α → Prop
  | [] => True
  | x :: l => p x ∧ Each p l
theorem Each.mem {α : Type} {p : α → Prop} : ∀ {l : List α}, Each p l → ∀ x ∈ l, p x
  | [], _, x, h => by cases h
  | y :: l, ⟨h1, h2⟩, x, h => by
    rcases List.mem_cons.1 h with rfl | h
    · exact h1
    · exact Each.mem h2 x h
def whichE : List Nat → Nat → Nat → Option Nat
  | [], _, _ => none
  | e :: l, i, q => if e = i then some q else whichE l i (q + 1)
theorem whichE_some : ∀ {E : List Nat} {i q r : Nat}, whichE E i q = some r → q ≤ r ∧ E[r - q]? = some i
  | [], i, q, r, h => by simp [whichE] at h
  | e :: l, i, q, r, h => by
    simp only [whichE] at h
    split at h
    · rename_i he; cases h; simp [he]
    · have := whichE_some h
      refine ⟨by omega, ?_⟩
      rw [show r - q = (r - (q + 1)) + 1 by omega]
      simpa using this.2
theorem whichE_none : ∀ {E : List Nat} {i q : Nat}, whichE E i q = none → i ∉ E
  | [], i, q, h => by simp
  | e :: l, i, q, h => by
    simp only [whichE] at h
    split at h
    · cases h
    · rename_i he
      have := whichE_none h
      simp only [List.mem_cons, not_or]
      exact ⟨fun e' => he e'.symm, this⟩
def AnyOp (C : Cfg P) (X : Fr) (pb : Bool) (ops : Array Oper) (f : Nat) (E : List Nat) (vals : Nat → Va) (st : Nat → Me) (base i : Nat) (o : Oper) (sl : Slots) : Prop :=
  match turn (fun j => (ops[j]?).bind (·.dst)) sl o.guard with
  | .yes => match whichE E i 0 with
    | some q => OpAt C X pb o (base + i) sl (st q) fun v s' => v = vals i ∧ Same s' (st (q + 1))
    | none => Each (fun k => OpAt C X pb o (base + i) sl (st k) fun v s' => v = vals i ∧ Same s' (st k)) ((List.range (E.length + 1)).filter fun k => stageOk ops f i k E 0)
  | .no => vals i = .tup [] ∧ whichE E i 0 = none
  | .lost => False
def AnyOps (C : Cfg P) (X : Fr) (pb : Bool) (ops : Array Oper) (f : Nat) (E : List Nat) (vals : Nat → Va) (st : Nat → Me) (base : Nat) : List Oper → Nat → Slots → Prop
  | [], _, _ => True
  | o :: l, i, sl => AnyOp C X pb ops f E vals st base i o sl ∧ AnyOps C X pb ops f E vals st base l (i + 1) (push o.dst (vals i) sl)

theorem opAt_of (C : Cfg P) {X : Fr} {pb : Bool} {o : Oper} {nid : Nat} {sl : Slots} {s : Me} {K : Va → Me → Prop} (h : OpAt C X pb o nid sl s K) : OpT P X.r X.L o nid (evA sl) s K := by
  unfold OpAt at h
  split at h
  · exact callT_of h
  · split at h
    · rename_i v ob' hop
      exact (opT_aop C (s := s) hop).mono fun v' s' hv => by obtain ⟨rfl, rfl⟩ := hv; exact h
    · exact h.elim
variable {C : Cfg P} {X : Fr} {pb : Bool} {ops : Array Oper} {f : Nat} {E : List Nat} {vals : Nat → Va} {st : Nat → Me} {base : Nat}
theorem evA_mask {o : Oper} {sl : Slots} : ∀ x ∈ o.op.operands, evA sl x = evA (mask (o.looksAt ops) sl) x := by
  intro x hx
  cases x with
  | tmp t =>
    have ht : t ∈ o.looksAt ops := List.mem_append_left _ (List.mem_filterMap.2 ⟨.tmp t, by simpa using hx, rfl⟩)
    simp only [evA]
    exact (get_mask_in sl _ t ht).symm
  | _ => rfl
theorem turn_mask {o : Oper} {sl : Slots} : turn (fun j => (ops[j]?).bind (·.dst)) (mask (o.looksAt ops) sl) o.guard = turn (fun j => (ops[j]?).bind (·.dst)) sl o.guard := by
  unfold turn
  cases hg : o.guard with
  | none => rfl
  | some p =>
    obtain ⟨j, want⟩ := p
    simp only
    cases hd : (ops[j]?).bind (·.dst) with
    | none => rfl
    | some d =>
      have ht : d ∈ o.looksAt ops := List.mem_append_right _ (by simp [hg, hd])
      simp only [get_mask_in sl _ d ht]
theorem slU_succ {sl0 : Slots} {i : Nat} {o : Oper} (h : ops[i]? = some o) : push o.dst (vals i) (slU ops vals sl0 (fun _ => true) i) = slU ops vals sl0 (fun _ => true) (i + 1) := by
  simp [slU, dstOf, h]
theorem anyOps_at {sl0 : Slots} : ∀ (l : List Oper) (i : Nat), (∀ j, l[j]? = ops[i + j]?) → AnyOps C X pb ops f E vals st base l i (slU ops vals sl0 (fun _ => true) i) →
    ∀ j o, l[j]? = some o → AnyOp C X pb ops f E vals st base (i + j) o (slU ops vals sl0 (fun _ => true) (i + j))
  | [], i, _, _, j, o, ho => by simp at ho
  | x :: l, i, hl, h, j, o, ho => by
    obtain ⟨h1, h2⟩ := h
    have hx : ops[i]? = some x := by simpa using (hl 0).symm
    cases j with
    | zero => simp at ho; subst ho; exact h1
    | succ j =>
      rw [slU_succ hx] at h2
      have := anyOps_at l (i + 1) (fun j => by have := hl (j + 1); rw [show i + (j + 1) = i + 1 + j by omega] at this; simpa using this) h2 j o (by simpa using ho)
      rwa [show i + 1 + j = i + (j + 1) by omega] at this
theorem eff_ord : ∀ {E : List Nat}, effOk ops f E = true → ∀ (q r e g : Nat), E[q]? = some e → E[r]? = some g → q < r → pre ops f g e = true
  | [], _, q, r, e, g, h, _, _ => by simp at h
  | x :: E, hE, q, r, e, g, hq, hr, hlt => by
    simp only [effOk, Bool.and_eq_true] at hE
    cases r with
    | zero => omega
    | succ r =>
      simp only [List.getElem?_cons_succ] at hr
      cases q with
      | zero =>
        simp at hq; subst hq
        exact List.all_eq_true.1 hE.1.2 g (List.mem_of_getElem? hr)
      | succ q => exact eff_ord hE.2 q r e g (by simpa using hq) hr (by omega)
theorem stage_of {listed : Array Bool} {i k : Nat} {o : Oper} (hc : Closed ops listed) (ho : ops[i]? = some o) (hr : ∀ e ∈ o.after, Region.binds .any e = true → inL listed e.on) (hi : ¬ inL listed i) :
    ∀ (E : List Nat) (q : Nat), (∀ r e, E[r]? = some e → (inL listed e ↔ q + r < k)) → stageOk ops f i k E q = true
  | [], _, _ => rfl
  | e :: E, q, hE => by
    simp only [stageOk, Bool.and_eq_true, Bool.or_eq_true, Bool.not_eq_true', decide_eq_true_eq]
    have h0 := hE 0 e (by simp)
    simp only [Nat.add_zero] at h0
    refine ⟨⟨?_, ?_⟩, stage_of hc ho hr hi E (q + 1) fun r g hg => by
      have := hE (r + 1) g (by simpa using hg)
      rwa [show q + (r + 1) = q + 1 + r by omega] at this⟩
    · cases hp : pre ops f i e
      · exact .inl rfl
      · exact .inr (h0.1 (pre_of hc f i e o ho hr hp))
    · cases hp : pre ops f e i
      · exact .inl rfl
      · refine .inr ?_
        rcases Nat.lt_or_ge q k with hlt | hge
        · exact absurd (pre_closed hc (h0.2 hlt) hp) hi
        · exact hge
/-- What regOk says of two operations. -/
theorem reg_spec (hok : regOk ops f = true) {i j : Nat} {d : Tmp} (hi : i < ops.size) (hj : j < ops.size) (hne : i ≠ j) (hd : dstOf ops i = some d) :
    (d ∈ looksOf ops j → if i < j then pre ops f j i = true else pre ops f i j = true) ∧ (dstOf ops j = some d → if i < j then pre ops f j i = true else pre ops f i j = true) := by
  have h1 := List.all_eq_true.1 hok j (List.mem_range.2 hj)
  simp only [Bool.and_eq_true] at h1
  have h2 := List.all_eq_true.1 h1.2 i (List.mem_range.2 hi)
  rw [hd] at h2
  simp only [Bool.or_eq_true, beq_iff_eq, hne, false_or, Bool.and_eq_true, Bool.not_eq_true', decide_eq_true_eq] at h2
  refine ⟨fun h => ?_, fun h => ?_⟩
  · have h3 := h2.1.resolve_left (by simp [h])
    split <;> rename_i hlt
    · rwa [if_pos hlt] at h3
    · rwa [if_neg hlt] at h3
  · have h3 := h2.2.resolve_left (fun hn => hn h)
    split <;> rename_i hlt
    · rwa [if_pos hlt] at h3
    · rwa [if_neg hlt] at h3
theorem WR.same {L : Loops} {m : Nat → Option Ent} {G : Nat → Nat → Prop} {w : World} {s s' : Me} (h : WR L m G w s) (hs : Same s s') : WR L m G w s' := h.agree (fun i _ => (hs.1 i).symm) hs.2.1 hs.2.2.symm

theorem any_go {Q : Exit → Slots → Me → Prop} {sl : Slots} {m0 : Nat → Option Ent} {G0 : Nat → Nat → Prop} {w0 : World} (hd : ∀ i t, dstOf ops i = some t → t < X.nt) (hok : regOk ops f = true) (hE : effOk ops f E = true) (hEs : ∀ e ∈ E, e < ops.size)
    (hn : ∀ k, base + ops.size ≤ (st k).nx) (hn0 : X.n0 ≤ base)
    (h : ∀ i o, ops[i]? = some o → AnyOp C X pb ops f E vals st base i o (slU ops vals sl (fun _ => true) i))
    (hQ : Q .normal (slU ops vals sl (fun _ => true) ops.size) (st E.length)) : ∀ (fuel : Nat) (listed : Array Bool) (k : Nat) (m : Nat → Option Ent) (G : Nat → Nat → Prop) (a : Act) (w : World),
      unl listed ops.size = fuel → listed.size = ops.size → Closed ops listed → (∀ (q e : Nat), E[q]? = some e → (inL listed e ↔ q < k)) → k ≤ E.length →
      FS X m G (slU ops vals sl (fun j => listed.getD j false) ops.size) (st k) a w → (∀ i, i < ops.size → ¬ inL listed i → m (base + i) = none) → Ev X.L m0 G0 w0 m G w → (∀ i, i < X.n0 → m0 i = none → m i = none) →
      wpAnyIn (Fw X.r) 0 P .any ops (Post X m0 G0 w0 Q) fuel listed a w := by
  intro fuel
  have done : ∀ (listed : Array Bool) (k : Nat) (m : Nat → Option Ent) (G : Nat → Nat → Prop) (a : Act) (w : World), listed.size = ops.size → (∀ (q e : Nat), E[q]? = some e → (inL listed e ↔ q < k)) → k ≤ E.length →
      FS X m G (slU ops vals sl (fun j => listed.getD j false) ops.size) (st k) a w → Ev X.L m0 G0 w0 m G w → (∀ i, i < X.n0 → m0 i = none → m i = none) → Region.ready .any ops listed = [] → Post X m0 G0 w0 Q .normal a w := by
    intro listed k m G a w hsz hk hkl hf he hkeep hr
    have hall := ready_nil hsz hok hr
    rw [slU_all ops.size fun j hj => hall j hj] at hf
    have hkE : k = E.length := by
      rcases Nat.lt_or_ge k E.length with hlt | hge
      · have := (hk k E[k] (by simp [hlt])).1 (hall _ (hEs _ (by simp)))
        omega
      · omega
    subst hkE
    exact ⟨_, _, m, G, hQ, hf, he, hkeep⟩
  induction fuel with
  | zero =>
    intro listed k m G a w hu hsz hc hk hkl hf hres he hkeep
    have hr : Region.ready .any ops listed = [] := by
      cases hrr : Region.ready .any ops listed with
      | nil => rfl
      | cons i l =>
        have hi : i ∈ Region.ready .any ops listed := by rw [hrr]; simp
        obtain ⟨h1, o, ho, _⟩ := mem_ready.1 hi
        have := unl_zero ops.size hu i (Array.getElem?_eq_some_iff.1 ho).1
        rw [h1] at this
        cases this
    exact ⟨hr, done listed k m G a w hsz hk hkl hf he hkeep hr⟩
  | succ fuel ih =>
    intro listed k m G a w hu hsz hc hk hkl hf hres he hkeep
    refine ⟨done listed k m G a w hsz hk hkl hf he hkeep, fun i hi => ?_⟩
    obtain ⟨hil, o, ho, hafter⟩ := mem_ready.1 hi
    have hio : i < ops.size := (Array.getElem?_eq_some_iff.1 ho).1
    have his : i < listed.size := by omega
    have hnl : ¬ inL listed i := by
      intro hx
      simp [inL, Array.getD_eq_getD_getElem?, his] at hx hil
      rw [hx] at hil; cases hil
    have hso : o.dst = dstOf ops i := by simp [dstOf, ho]
    have hlo : o.looksAt ops = looksOf ops i := by simp [looksOf, ho]
    -- the slots that it looks at
    have hlook : ∀ t, t ∈ o.looksAt ops → get (slU ops vals sl (fun j => listed.getD j false) ops.size) t = get (slU ops vals sl (fun _ => true) i) t := by
      intro t ht
      have hpre : ∀ j, j < ops.size → dstOf ops j = some t → j ≠ i → (if j < i then inL listed j else ¬ inL listed j) := by
        intro j hj hdj hne
        have := (reg_spec hok hj hio hne hdj).1 (hlo ▸ ht)
        split <;> rename_i hlt
        · rw [if_pos hlt] at this
          exact pre_of hc f i j o ho hafter this
        · rw [if_neg hlt] at this
          exact fun hx => hnl (pre_closed hc hx this)
      rw [slU_low (i := i) ops.size (by omega) fun j hj hij hdj => by
        by_cases hji : j = i
        · subst hji
          cases hb : listed.getD j false
          · rfl
          · exact absurd hb hnl
        · have := hpre j hj hdj hji
          rw [if_neg (by omega)] at this
          cases hb : listed.getD j false
          · rfl
          · exact absurd hb this]
      exact slU_agree i fun j hj hdj => by
        have := hpre j (by omega) hdj (by omega)
        rw [if_pos hj] at this
        exact this
    have hmask : ∀ t, VR m X.L.lb G w (get (mask (o.looksAt ops) (slU ops vals sl (fun _ => true) i)) t) (a.tmps.getD t undef) := by
      intro t
      rcases get_mask (slU ops vals sl (fun _ => true) i) (o.looksAt ops) t with h1 | ⟨h1, h2⟩
      · rw [h1]; simp only [VR]
      · rw [h2, ← hlook t h1]; exact hf.slots t
    -- behind it
    have next : ∀ {u w' m' G'} {k' : Nat}, VR m' X.L.lb G' w' (vals i) u → WR X.L m' G' w' (st k') → Ev X.L m G w m' G' w' → (∀ j, j ≠ base + i → j < base + ops.size → m j = none → m' j = none) → k' ≤ E.length →
        (∀ (q e : Nat), E[q]? = some e → (inL (listed.setIfInBounds i true) e ↔ q < k')) → wpAnyIn (Fw X.r) 0 P .any ops (Post X m0 G0 w0 Q) fuel (listed.setIfInBounds i true) (a.put o.dst u) w' := by
      intro u w' m' G' k' h1 h2 h3 h4 h5 h6
      have hd' : ∀ t, o.dst = some t → t < X.nt := fun t ht => hd i t (by rw [← hso]; exact ht)
      have hset : ∀ j, (listed.setIfInBounds i true).getD j false = if j = i then true else listed.getD j false := by
        intro j
        by_cases hji : j = i
        · subst hji; simp [Array.getD_eq_getD_getElem?, his]
        · rw [if_neg hji]; exact getD_set_ne false (fun e => hji e.symm)
      refine ih _ k' m' G' _ w' ?_ (by simpa using hsz) ?_ h6 h5 ⟨?_, ?_, h2, ?_, ?_, ?_⟩ ?_ (he.trans h3) ?_
      · have := unl_set hil ops.size
        rw [if_pos hio] at this
        omega
      · intro j oj hj hoj e hej hb
        simp only [inL, hset] at hj ⊢
        split
        · rfl
        · split at hj
          · rename_i hji; subst hji
            rw [ho] at hoj; cases hoj
            exact hafter e hej hb
          · exact hc j oj hj hoj e hej hb
      · rw [put_size]; exact hf.size
      · intro t
        have hput := slots_put (X := X) (d := o.dst) hf.size hf.slots h3.on h1 hd' t
        have e : get (slU ops vals sl (fun j => (listed.setIfInBounds i true).getD j false) ops.size) t = get (push o.dst (vals i) (slU ops vals sl (fun j => listed.getD j false) ops.size)) t := by
          by_cases hdt : o.dst = some t
          · rw [hdt]
            simp only [push, get, if_true]
            have hlater : ∀ j, j < ops.size → i + 1 ≤ j → dstOf ops j = some t → (listed.setIfInBounds i true).getD j false = false := by
              intro j hj hij hdj
              have hdi : dstOf ops i = some t := by rw [← hso]; exact hdt
              have := (reg_spec hok hio hj (by omega) hdi).2 hdj
              rw [if_pos (by omega)] at this
              rw [hset, if_neg (by omega)]
              cases hb : listed.getD j false
              · rfl
              · exact absurd (pre_closed hc hb this) hnl
            rw [slU_low (i := i + 1) ops.size (by omega) hlater]
            simp only [slU, hset, if_true, ← hso, hdt, push, get]
          · rw [get_push hdt]
            exact slU_agree ops.size fun j hj hdj => by
              have hji : j ≠ i := fun e => hdt (by rw [hso, ← e]; exact hdj)
              rw [hset, if_neg hji]
        rw [e]
        exact hput
      · rw [put_defers]; exact DR.ev h3 hf.dr
      · exact Nat.le_trans hf.d0 h3.size
      · have := hn k'; omega
      · intro j hj hnj
        have hji : j ≠ i := fun e => hnj (by simp only [inL, hset, e, if_true])
        refine h4 _ (by omega) (by omega) (hres j hj fun hx => hnj ?_)
        simp only [inL, hset]
        rw [if_neg hji]
        exact hx
      · intro j hj hm
        exact h4 j (by omega) (by omega) (hkeep j hj hm)
    have hidx : ∀ k' : Nat, (∀ (q e : Nat), E[q]? = some e → e ≠ i → (inL listed e ↔ q < k')) → (∀ q : Nat, E[q]? = some i → q < k') → ∀ (q e : Nat), E[q]? = some e → (inL (listed.setIfInBounds i true) e ↔ q < k') := by
      intro k' h1 h2 q e he
      by_cases hei : e = i
      · subst hei
        refine ⟨fun _ => h2 q he, fun _ => ?_⟩
        simp [inL, Array.getD_eq_getD_getElem?, his]
      · rw [← h1 q e he hei]
        simp only [inL]
        rw [getD_set_ne false (fun x => hei x.symm)]
    have hop := h i o ho
    unfold wpOpIn
    rw [ho]
    simp only
    have ht := turn_of (X := X) (ops := ops) (o := o) hmask
    unfold AnyOp at hop
    rw [← turn_mask (ops := ops)] at hop
    have hnid : m (base + i) = none := hres i hio hnl
    split at hop
    · rename_i hy
      rw [if_pos (ht.1 hy)]
      split at hop
      · rename_i q hq
        have hEq := whichE_some hq
        simp only [Nat.sub_zero] at hEq
        have hqk : q = k := by
          have h1 := hk q i hEq.2
          rcases Nat.lt_trichotomy q k with hlt | heq | hgt
          · exact absurd (h1.2 hlt) hnl
          · exact heq
          · exfalso
            have hkE : k < E.length := by have := (List.getElem?_eq_some_iff.1 hEq.2).1; omega
            have hp := eff_ord hE k q E[k] i (by simp [hkE]) hEq.2 hgt
            have := (hk k E[k] (by simp [hkE])).1 (pre_of hc f i _ o ho hafter hp)
            omega
        subst hqk
        have hqE := (List.getElem?_eq_some_iff.1 hEq.2).1
        rw [opAt_congr C (evA_mask (ops := ops))] at hop
        refine opAt_of C hop m G a w (evA_of hmask) hf.wr hnid (by have := hn q; omega) _ _ fun u w' m' G' v s' h1 h2 h3 h4 h5 h6 => ?_
        obtain ⟨rfl, hsame⟩ := h1
        refine next h2 (h3.same hsame) h4 (fun j hj hlt hm => h6 j hj (by have := hn q; omega) hm) (by omega) (hidx _ (fun r e hr hei => ?_) fun r hr => ?_)
        · rw [hk r e hr]
          refine ⟨fun _ => by omega, fun hlt => ?_⟩
          rcases Nat.lt_or_ge r q with h7 | h7
          · exact h7
          · have : r = q := by omega
            subst this
            rw [hEq.2] at hr
            cases hr
            exact absurd rfl hei
        · rcases Nat.lt_trichotomy r q with hlt | heq | hgt
          · omega
          · omega
          · exfalso
            have hp := eff_ord hE q r i i hEq.2 hr hgt
            exact hnl (pre_of hc f i i o ho hafter hp)
      · rename_i hq
        have hnE := whichE_none hq
        have hst := stage_of (f := f) hc ho hafter hnl E 0 (k := k) (fun r e hr => by simpa using hk r e hr)
        have hop := hop.mem k (List.mem_filter.2 ⟨List.mem_range.2 (by omega), hst⟩)
        rw [opAt_congr C (evA_mask (ops := ops))] at hop
        refine opAt_of C hop m G a w (evA_of hmask) hf.wr hnid (by have := hn k; omega) _ _ fun u w' m' G' v s' h1 h2 h3 h4 h5 h6 => ?_
        obtain ⟨rfl, hsame⟩ := h1
        exact next h2 (h3.same hsame) h4 (fun j hj hlt hm => h6 j hj (by have := hn k; omega) hm) hkl (hidx _ (fun r e hr _ => hk r e hr) fun r hr => absurd (List.mem_of_getElem? hr) hnE)
    · rename_i hy
      rw [if_neg (by rw [ht.2 hy]; simp)]
      obtain ⟨hv, hq⟩ := hop
      have hnE := whichE_none hq
      exact ⟨fun _ _ => trivial, next (by rw [hv]; exact undA) hf.wr Ev.refl (fun _ _ _ h => h) hkl (hidx _ (fun r e hr _ => hk r e hr) fun r hr => absurd (List.mem_of_getElem? hr) hnE)⟩
    · exact hop.elim
/-- The slots behind all. -/
def slP (vals : Nat → Va) : List Oper → Nat → Slots → Slots
  | [], _, sl => sl
  | o :: l, i, sl => slP vals l (i + 1) (push o.dst (vals i) sl)
theorem slP_of {sl0 : Slots} : ∀ (l : List Oper) (i : Nat), (∀ j, l[j]? = ops[i + j]?) → slP vals l i (slU ops vals sl0 (fun _ => true) i) = slU ops vals sl0 (fun _ => true) (i + l.length)
  | [], i, _ => rfl
  | x :: l, i, hl => by
    have hx : ops[i]? = some x := by simpa using (hl 0).symm
    simp only [slP, List.length_cons]
    rw [slU_succ hx, slP_of l (i + 1) fun j => by have := hl (j + 1); rw [show i + (j + 1) = i + 1 + j by omega] at this; simpa using this]
    rw [show i + 1 + l.length = i + (l.length + 1) by omega]
theorem effOk_lt : ∀ {E : List Nat}, effOk ops f E = true → ∀ e ∈ E, e < ops.size
  | [], _, e, h => by cases h
  | x :: E, h, e, he => by
    simp only [effOk, Bool.and_eq_true, decide_eq_true_eq] at h
    rcases List.mem_cons.1 he with rfl | he
    · exact h.1.1
    · exact effOk_lt h.2 e he
/-- **A region that draws its order.** f: how long a chain of edges may be; E: what changes the store, in order; vals: what each operation yields; st: the store behind each of E. -/
theorem aw_any (C : Cfg P) {pb : Bool} {id : Nat} {ops : Array Oper} {Q : Exit → Slots → Me → Prop} {sl : Slots} {s : Me} (f : Nat) (E : List Nat) (vals : Nat → Va) (st : Nat → Me)
    (hd : dstOk X.nt ops.toList = true) (hok : regOk ops f = true) (hE : effOk ops f E = true) (hn : ∀ k, s.nx + ops.size ≤ (st k).nx) (h0 : (∀ i, i < s.nx → (st 0).ob i = s.ob i) ∧ (st 0).ls = s.ls)
    (h : AnyOps C X pb ops f E vals st s.nx ops.toList 0 sl) (hQ : Q .normal (slP vals ops.toList 0 sl) (st E.length)) : AW P X (.region id ops true) Q sl s := by
  intro m G a w hf
  refine wpIn_region_any C.mixed ?_
  obtain ⟨hr, he⟩ := hf.wr.rel.same (w' := { w with drawn := w.drawn + 1 }) rfl rfl rfl rfl
  have hwr : WR X.L m G { w with drawn := w.drawn + 1 } s := hf.wr.evo hr he rfl
  have hd' : ∀ i t, dstOf ops i = some t → t < X.nt := by
    intro i t hi
    cases ho : ops[i]? with
    | none => simp [dstOf, ho] at hi
    | some o =>
      have hm : o ∈ ops.toList := by simpa using Array.mem_of_getElem? ho
      have := List.all_eq_true.1 hd o hm
      simp only [dstOf, ho, Option.bind_some] at hi
      rw [hi] at this
      simpa using this
  have hsl : ∀ k, slU ops vals sl (fun j => (Array.replicate ops.size false).getD j false) k = sl := by
    intro k
    induction k with
    | zero => rfl
    | succ k ih =>
      simp only [slU]
      rw [ih, if_neg]
      simp [Array.getD_eq_getD_getElem?, Array.getElem?_replicate]
      split <;> simp
  have hnot : ∀ j, ¬ inL (Array.replicate ops.size false) j := by
    intro j hj
    simp only [inL, Array.getD_eq_getD_getElem?, Array.getElem?_replicate] at hj
    split at hj <;> simp at hj
  have hunl : ∀ k, k ≤ ops.size → unl (Array.replicate ops.size false) k = k := by
    intro k
    induction k with
    | zero => intro _; rfl
    | succ k ih =>
      intro hk
      simp only [unl]
      rw [ih (by omega)]
      have : (Array.replicate ops.size false).getD k true = false := by simp [Array.getD_eq_getD_getElem?, Array.getElem?_replicate, show k < ops.size by omega]
      rw [this]
      simp
  have hlist : ∀ j, ops.toList[j]? = ops[0 + j]? := by intro j; simp
  have hQ' : Q .normal (slU ops vals sl (fun _ => true) ops.size) (st E.length) := by
    have := slP_of (ops := ops) (vals := vals) (sl0 := sl) ops.toList 0 hlist
    simp only [slU, Nat.zero_add, Array.length_toList] at this
    rw [← this]
    exact hQ
  refine any_go (base := s.nx) (f := f) hd' hok hE (effOk_lt hE) hn hf.n0 (fun i o ho => by
    have := anyOps_at (sl0 := sl) ops.toList 0 hlist h i o (by simpa using ho)
    simpa using this) hQ' ops.size _ 0 m G a { w with drawn := w.drawn + 1 } (hunl _ (Nat.le_refl _)) (by simp) (fun j o hj => absurd hj (hnot j)) (fun q e _ => ⟨fun hx => absurd hx (hnot e), fun hx => by omega⟩) (Nat.zero_le _) ⟨hf.size, ?_, ?_, DR.ev he.ev hf.dr, hf.d0, ?_⟩ (fun i hi _ => hf.wr.rel.fresh _ (by omega)) he.ev (fun _ _ h => h)
  · intro t
    rw [hsl]
    exact VR.on he.on (hf.slots t)
  · exact hwr.agree (fun i hi => h0.1 i (hwr.lt hi)) (by have := hn 0; omega) h0.2
  · have := hn 0; have := hf.n0; omega

/-! ### A region that draws its order and changes nothing that was there -/
def exThen (A B : Va → Prop) : Prop := ∃ v, A v ∧ B v
def aThen (A B : Prop) : Prop := A ∧ B
@[congr] theorem exThen_congr {A A' B : Va → Prop} (h : ∀ v, A v = A' v) : exThen A B = exThen A' B := by rw [show A = A' from funext h]
@[congr] theorem aThen_congr {A A' B : Prop} (h : A = A') : aThen A B = aThen A' B := by rw [h]
theorem aThen_true {B : Prop} : aThen True B = B := by simp [aThen]
def SilOps (C : Cfg P) (X : Fr) (pb : Bool) (gd : Nat → Option Tmp) (base : Nat) (sp : Me) (K : Slots → Prop) : List Oper → Nat → Slots → Prop
  | [], _, sl => K sl
  | o :: l, i, sl => tThen (turn gd sl o.guard)
    (bThen (isCall o.op) (exThen (fun v => CallT P X.L o.op (evA sl) sp (fun v' s' => v' = v ∧ s' = sp)) fun v => SilOps C X pb gd base sp K l (i + 1) (push o.dst v sl))
      (oThen (aop C pb (evA sl) sp.ob (base + i) o.op) fun v ob' => aThen (∀ j, ob' j = sp.ob j) (SilOps C X pb gd base sp K l (i + 1) (push o.dst v sl))))
    (SilOps C X pb gd base sp K l (i + 1) (push o.dst (.tup []) sl))
section
variable {gd : Nat → Option Tmp} {sp : Me} {K : Slots → Prop} {o : Oper} {l : List Oper} {i : Nat} {sl : Slots} {t : Tmp}
theorem sil_nil (h : K sl) : SilOps C X pb gd base sp K [] i sl := h
theorem sil_yes {v : Va} {ob' : Nat → Obj} (ht : turn gd sl o.guard = .yes) (hc : isCall o.op = false) (hd : o.dst = some t) (ha : aop C pb (evA sl) sp.ob (base + i) o.op = some (v, ob')) (hob : ∀ j, ob' j = sp.ob j) (h : SilOps C X pb gd base sp K l (i + 1) ((t, v) :: sl)) :
    SilOps C X pb gd base sp K (o :: l) i sl := by
  simp only [SilOps, ht, hc, ha, tThen, bThen, oThen, hd]
  exact ⟨hob, h⟩
theorem sil_no (ht : turn gd sl o.guard = .no) (hd : o.dst = some t) (h : SilOps C X pb gd base sp K l (i + 1) ((t, .tup []) :: sl)) : SilOps C X pb gd base sp K (o :: l) i sl := by
  simp only [SilOps, ht, tThen, hd]
  exact h
theorem sil_call {v : Va} (ht : turn gd sl o.guard = .yes) (hc : isCall o.op = true) (hd : o.dst = some t) (ha : CallT P X.L o.op (evA sl) sp fun v' s' => v' = v ∧ s' = sp) (h : SilOps C X pb gd base sp K l (i + 1) ((t, v) :: sl)) :
    SilOps C X pb gd base sp K (o :: l) i sl := by
  simp only [SilOps, ht, hc, tThen, bThen, hd]
  exact ⟨v, ha, h⟩
end
theorem Each.of {α : Type} {p : α → Prop} (h : ∀ x, p x) : ∀ l : List α, Each p l
  | [] => trivial
  | x :: l => ⟨h x, Each.of h l⟩
theorem Same.refl (s : Me) : Same s s := ⟨fun _ => rfl, Nat.le_refl _, rfl⟩
theorem sil_of {K : Slots → Prop} {sp : Me} : ∀ (l : List Oper) (i : Nat) (sl : Slots), SilOps C X pb (fun j => (ops[j]?).bind (·.dst)) base sp K l i sl →
    ∃ vals : Nat → Va, ∀ vals' : Nat → Va, (∀ j, i ≤ j → vals' j = vals j) → AnyOps C X pb ops f [] vals' (fun _ => sp) base l i sl ∧ K (slP vals' l i sl)
  | [], i, sl, h => ⟨fun _ => .und, fun _ _ => ⟨trivial, h⟩⟩
  | o :: l, i, sl, h => by
    have step : ∀ v, (∀ vals' : Nat → Va, vals' i = v → AnyOp C X pb ops f [] vals' (fun _ => sp) base i o sl) → SilOps C X pb (fun j => (ops[j]?).bind (·.dst)) base sp K l (i + 1) (push o.dst v sl) →
        ∃ vals : Nat → Va, ∀ vals' : Nat → Va, (∀ j, i ≤ j → vals' j = vals j) → AnyOps C X pb ops f [] vals' (fun _ => sp) base (o :: l) i sl ∧ K (slP vals' (o :: l) i sl) := by
      intro v h1 h2
      obtain ⟨vals, hv⟩ := sil_of l (i + 1) _ h2
      refine ⟨fun j => if j = i then v else vals j, fun vals' hv' => ?_⟩
      have hi : vals' i = v := by rw [hv' i (Nat.le_refl _)]; exact if_pos rfl
      obtain ⟨h3, h4⟩ := hv vals' fun j hj => by rw [hv' j (by omega)]; exact if_neg (by omega)
      simp only [AnyOps, slP, hi]
      exact ⟨⟨h1 vals' hi, h3⟩, h4⟩
    simp only [SilOps] at h
    unfold tThen at h
    split at h
    · rename_i hy
      unfold bThen at h
      split at h
      · rename_i hcall
        obtain ⟨v, h1, h2⟩ := h
        refine step v (fun vals' hv => ?_) h2
        unfold AnyOp
        rw [hy]
        simp only [whichE]
        refine Each.of (fun k => ?_) _
        unfold OpAt
        rw [hcall]
        exact (by rw [hv]; exact callT_mono h1 fun v' s' ⟨h3, h4⟩ => ⟨h3, h4 ▸ Same.refl _⟩)
      · rename_i hcall
        unfold oThen at h
        split at h
        · rename_i v ob' hop
          refine step v (fun vals' hv => ?_) h.2
          unfold AnyOp
          rw [hy]
          simp only [whichE]
          refine Each.of (fun k => ?_) _
          unfold OpAt
          rw [hcall]
          simp only [hop]
          exact ⟨hv.symm, h.1, Nat.le_refl _, rfl⟩
        · exact h.elim
    · rename_i hy
      refine step (.tup []) (fun vals' hv => ?_) h
      unfold AnyOp
      rw [hy]
      exact ⟨hv, rfl⟩
    · exact h.elim
/-- A region that draws its order and changes nothing that was there; obn: what it makes, beside what there is. -/
theorem aw_sil (C : Cfg P) {pb : Bool} {id : Nat} {ops : Array Oper} {Q : Exit → Slots → Me → Prop} {sl : Slots} {ob : Nat → Obj} {nx : Nat} {ls : Nat → LSt} (f : Nat) (obn : Nat → Obj)
    (hd : dstOk X.nt ops.toList = true) (hok : regOk ops f = true) (hsz : ops.size = f) (h0 : ∀ i, i < nx → obn i = ob i)
    (h : SilOps C X pb (nthO (ops.toList.map (·.dst))) nx ⟨obn, nx + f, ls⟩ (fun sl' => Q .normal sl' ⟨obn, nx + f, ls⟩) ops.toList 0 sl) : AW P X (.region id ops true) Q sl ⟨ob, nx, ls⟩ := by
  rw [nthO_of] at h
  obtain ⟨vals, hv⟩ := sil_of (f := f) ops.toList 0 sl h
  obtain ⟨h1, h2⟩ := hv vals fun _ _ => rfl
  exact aw_any C f [] vals (fun _ => ⟨obn, nx + f, ls⟩) hd hok rfl (fun _ => by simp only [hsz]; exact Nat.le_refl _) ⟨h0, rfl⟩ h1 h2
theorem aw_sil_seq (C : Cfg P) {pb : Bool} {id : Nat} {ops : Array Oper} {y : Code} {Q : Exit → Slots → Me → Prop} {sl : Slots} {ob : Nat → Obj} {nx : Nat} {ls : Nat → LSt} (f : Nat) (obn : Nat → Obj)
    (hd : dstOk X.nt ops.toList = true) (hok : regOk ops f = true) (hsz : ops.size = f) (h0 : ∀ i, i < nx → obn i = ob i)
    (h : ∀ K : Slots → Prop, (∀ sl', AW P X y Q sl' ⟨obn, nx + f, ls⟩ → K sl') → SilOps C X pb (nthO (ops.toList.map (·.dst))) nx ⟨obn, nx + f, ls⟩ K ops.toList 0 sl) : AW P X ((Code.region id ops true).seq y) Q sl ⟨ob, nx, ls⟩ :=
  aw_seq (aw_sil C f obn hd hok hsz h0 (h _ fun _ h => h))
end
end Go.Am
/-
  Am, part S: yield, one round of a range over a function, and the statement itself.
-/
namespace Go.Am
section
variable {P : Program} {L : Loops}
def setPs : List Tmp → List Va → Slots → Slots
  | p :: ps, x :: xs, sl => setPs ps xs ((p, x) :: sl)
  | _, _, sl => sl
theorem setPs_of {nt : Nat} {m : Nat → Option Ent} {lb : Nat → Option Nat} {G : Nat → Nat → Prop} {w : World} : ∀ (ps : List Tmp) (xs : List Va) (us : List Value) (sl : Slots) (A : Array Value), (∀ p ∈ ps, p < nt) → A.size = nt → VRs m lb G w xs us → (∀ t, VR m lb G w (get sl t) (A.getD t undef)) →
    ((ps.zip us).foldl (fun tmps (x : Tmp × Value) => tmps.setIfInBounds x.1 x.2) A).size = nt ∧ ∀ t, VR m lb G w (get (setPs ps xs sl) t) (((ps.zip us).foldl (fun tmps (x : Tmp × Value) => tmps.setIfInBounds x.1 x.2) A).getD t undef)
  | [], xs, us, sl, A, _, hA, _, h => by have := And.intro hA h; simpa [setPs] using this
  | p :: ps, [], us, sl, A, _, hA, hx, h => by
    simp only [VRs] at hx; subst hx
    have := And.intro hA h
    simpa [setPs] using this
  | p :: ps, x :: xs, us, sl, A, hp, hA, hx, h => by
    simp only [VRs] at hx
    obtain ⟨u, us, rfl, h1, h2⟩ := hx
    simp only [List.zip_cons_cons, List.foldl_cons, setPs]
    refine setPs_of ps xs us _ _ (fun q hq => hp q (by simp [hq])) (by simpa using hA) h2 fun t => ?_
    rw [getD_setIf _ _ _ _ _ (by rw [hA]; exact hp p (by simp))]
    simp only [get]
    split
    · exact h1
    · exact h t

/-- A loop's record turns. -/
theorem wr_putLoop {m : Nat → Option Ent} {G : Nat → Nat → Prop} {w : World} {s : Me} {l : Nat} (h : WR L m G w s) (hl : L.lb l = some l) (x : LSt) :
    WR L m G (w.putObj l (.loop (x.rec' (L.rc l)))) ⟨s.ob, s.nx, upd s.ls l x⟩ ∧ Ev L m G w m G (w.putObj l (.loop (x.rec' (L.rc l)))) := by
  have h0 := h.loops l l hl
  have hlt : l < w.heap.size := (h.rel.ll l l hl).1
  have hon : On m L.lb G w m L.lb G (w.putObj l (.loop (x.rec' (L.rc l)))) := on_putObj h0 (fun k => cell_loop h0) (fun k => cell_loop (World.putObj_heap_same hlt))
  refine ⟨⟨rel_putObj h.rel (fun id e he => (h.rel.ll l l hl).2 id e he) hon, fun l' b hb => ?_, fun l' b hb t => VR.on hon (h.tm l' b hb t)⟩, hon, rfl, rfl, rfl, by simp, fun b hb hm hnl => World.putObj_heap_other (fun e => hnl l (by rw [hl, e])), fun id e he => .inl ⟨id, e, he, rfl⟩⟩
  have hbl := L.nm l' b hb
  subst hbl
  by_cases hll : b = l
  · subst hll
    rw [World.putObj_heap_same hlt]
    simp [Loops.at]
  · rw [World.putObj_heap_other hll, h.loops b b hb]
    simp [Loops.at, upd_ne _ _ hll]

/-- How a round may end. -/
def roundQ (l : Nat) (K : Va → Me → Prop) : Exit → Slots → Me → Prop
  | .normal, _, s => K (.av (.sc (.bool true))) ⟨s.ob, s.nx, upd s.ls l .ready⟩
  | .ret, _, s => K (.av (.sc (.bool false))) ⟨s.ob, s.nx, upd s.ls l (.over .ret)⟩
  | .exit i, _, s => K (.av (.sc (.bool false))) ⟨s.ob, s.nx, upd s.ls l (.over (.exit i))⟩
  | _, _, _ => False
theorem zip_foldl (ps : Array Tmp) (us : List Value) (A : Array Value) : ((ps.zip us.toArray).foldl (fun tmps (t, a) => tmps.setIfInBounds t a) A) = (ps.toList.zip us).foldl (fun tmps (x : Tmp × Value) => tmps.setIfInBounds x.1 x.2) A := by
  rw [← Array.foldl_toList, Array.toList_zip]
theorem roundL_of {l nt : Nat} {ps : Array Tmp} {assign body : Code} {xs : List Va} {s : Me} {K : Va → Me → Prop} (h1 : (L.rc l).params = ps) (h2 : (L.rc l).assign = assign) (h3 : (L.rc l).body = body) (hsz : (L.rc l).tmps.size = nt)
    (hps : ∀ p ∈ ps.toList, p < nt)
    (h : AW P ⟨some l, nt, 0, s.nx, L⟩ assign (thenA (fun sl1 s1 => s1.ls l = .ready ∧ AW P ⟨some l, nt, 0, s.nx, L⟩ body (roundQ l K) sl1 ⟨s1.ob, s1.nx, upd s1.ls l .busy⟩) fun _ _ _ => False) (setPs ps.toList xs (L.sl l)) s) : RoundL P L l xs s K := by
  intro m G w vs hv hw hl
  rw [h1, h2, h3, zip_foldl]
  have hs := setPs_of (nt := nt) ps.toList xs vs (L.sl l) (L.rc l).tmps hps hsz hv (hw.tm l l hl)
  refine roundIn_of_wpIn trivial (wpIn_mono (h m G _ w ⟨hs.1, hs.2, hw, trivial, Nat.zero_le _, Nat.le_refl _⟩) fun e a1 w1 hp => ?_)
  obtain ⟨sl1, s1, m1, G1, q1, f1, e1, k1⟩ := hp
  cases e with
  | normal =>
    obtain ⟨hr, hb⟩ := q1
    have hw1 := f1.wr
    have hrec := hw1.loops l l hl
    rw [show L.at s1.ls l = LSt.rec' (L.rc l) .ready by simp [Loops.at, hr]] at hrec
    have hbeg := run_beginRound (P := P) hrec rfl
    obtain ⟨hw2, e2⟩ := wr_putLoop hw1 hl .busy
    refine ⟨_, hbeg, ?_⟩
    refine wpIn_mono (hb m1 G1 a1 _ ⟨f1.size, fun t => VR.on e2.on (f1.slots t), hw2, DR.ev e2 f1.dr, Nat.zero_le _, f1.n0⟩) fun e a3 w3 hp => ?_
    obtain ⟨sl3, s3, m3, G3, q3, f3, e3, k3⟩ := hp
    have hrec3 := f3.wr.loops l l hl
    have fin : ∀ (jump : Option Code) (x : LSt) (r : Va), (∀ L0 : Loop, LSt.rec' L0 x = { L0 with state := if jump.isNone then .ready else .done, pending := jump }) → r = .av (.sc (.bool jump.isNone)) → K r ⟨s3.ob, s3.nx, upd s3.ls l x⟩ →
        ∃ v w', (Instr.endRound l jump).run P w3 = .ok v w' ∧ ∃ v' r s' m' G', Ending.returned v = .returned v' ∧ K r s' ∧ VR m' L.lb G' w' r v' ∧ WR L m' G' w' s' ∧ Ev L m G w m' G' w' ∧ s.nx ≤ s'.nx ∧ ∀ i, i < s.nx → m i = none → m' i = none := by
      intro jump x r hx hr hK
      obtain ⟨hw4, e4⟩ := wr_putLoop f3.wr hl x
      have hend := run_endRound (P := P) jump hrec3
      have hput : ({ L.at s3.ls l with state := if jump.isNone then .ready else .done, pending := jump } : Loop) = LSt.rec' (L.rc l) x := by
        rw [hx]
        unfold Loops.at LSt.rec'
        split <;> rfl
      rw [hput] at hend
      refine ⟨_, _, hend, _, r, _, m3, G3, rfl, hK, ?_, hw4, ((e1.trans e2).trans e3).trans e4, f3.n0, fun i hi hm => k3 i hi (k1 i hi hm)⟩
      rw [hr]
      simp [VR, AR, SR]
    cases e with
    | normal => exact fin none .ready _ (fun _ => rfl) rfl q3
    | ret => exact fin (some .ret) (.over .ret) _ (fun _ => rfl) rfl q3
    | exit i => exact fin (some (.exit i)) (.over (.exit i)) _ (fun _ => rfl) rfl q3
    | _ => exact q3.elim
  | _ => exact q1.elim
end

/-- A region that leaves the store as it was, whichever of its operations have their turn: what is told of the slots behind it. -/
theorem aw_cut {P : Program} {X : Fr} (C : Cfg P) {pb : Bool} {id : Nat} {ops : Array Oper} {Q : Exit → Slots → Me → Prop} {sl : Slots} {ob : Nat → Obj} {nx : Nat} {ls : Nat → LSt} (sl' : Slots) (hd : dstOk X.nt ops.toList = true)
    (h : AwOps C X pb (nthO (ops.toList.map (·.dst))) (fun sl1 s1 => AllIn sl1 sl' ∧ s1.ob = ob ∧ nx ≤ s1.nx ∧ s1.ls = ls) ops.toList sl ⟨ob, nx, ls⟩) (k : ∀ n, nx ≤ n → Q .normal sl' ⟨ob, n, ls⟩) : AW P X (.region id ops false) Q sl ⟨ob, nx, ls⟩ := by
  refine AW.weaken (AW.mono (aw_region C (Q := thenA (fun sl1 s1 => AllIn sl1 sl' ∧ s1.ob = ob ∧ nx ≤ s1.nx ∧ s1.ls = ls) fun _ _ _ => False) hd h) fun e sl1 s1 hq => ?_)
  cases e with
  | normal =>
    obtain ⟨h1, h2, h3, h4⟩ := hq
    obtain ⟨o, n, l⟩ := s1
    simp only at h2 h3 h4
    subst h2 h4
    exact ⟨sl', h1.less, k n h3⟩
  | _ => exact hq.elim
theorem aw_cut_seq {P : Program} {X : Fr} (C : Cfg P) {pb : Bool} {id : Nat} {ops : Array Oper} {y : Code} {Q : Exit → Slots → Me → Prop} {sl : Slots} {ob : Nat → Obj} {nx : Nat} {ls : Nat → LSt} (sl' : Slots) (hd : dstOk X.nt ops.toList = true)
    (h : AwOps C X pb (nthO (ops.toList.map (·.dst))) (fun sl1 s1 => AllIn sl1 sl' ∧ s1.ob = ob ∧ nx ≤ s1.nx ∧ s1.ls = ls) ops.toList sl ⟨ob, nx, ls⟩) (k : ∀ n, nx ≤ n → AW P X y Q sl' ⟨ob, n, ls⟩) : AW P X ((Code.region id ops false).seq y) Q sl ⟨ob, nx, ls⟩ :=
  aw_seq (aw_cut C sl' hd h fun n hn => k n hn)
/-- A region, and what is told of slots and store behind it. -/
theorem aw_cutM {P : Program} {X : Fr} (C : Cfg P) {pb : Bool} {id : Nat} {ops : Array Oper} {Q : Exit → Slots → Me → Prop} {sl : Slots} {s : Me} (sl' : Slots) (M : Me → Prop) (hd : dstOk X.nt ops.toList = true)
    (h : AwOps C X pb (nthO (ops.toList.map (·.dst))) (fun sl1 s1 => AllIn sl1 sl' ∧ M s1) ops.toList sl s) (k : ∀ s1, M s1 → Q .normal sl' s1) : AW P X (.region id ops false) Q sl s := by
  refine AW.weaken (AW.mono (aw_region C (Q := thenA (fun sl1 s1 => AllIn sl1 sl' ∧ M s1) fun _ _ _ => False) hd h) fun e sl1 s1 hq => ?_)
  cases e with
  | normal => exact ⟨sl', hq.1.less, k s1 hq.2⟩
  | _ => exact hq.elim
theorem aw_cutM_seq {P : Program} {X : Fr} (C : Cfg P) {pb : Bool} {id : Nat} {ops : Array Oper} {y : Code} {Q : Exit → Slots → Me → Prop} {sl : Slots} {s : Me} (sl' : Slots) (M : Me → Prop) (hd : dstOk X.nt ops.toList = true)
    (h : AwOps C X pb (nthO (ops.toList.map (·.dst))) (fun sl1 s1 => AllIn sl1 sl' ∧ M s1) ops.toList sl s) (k : ∀ s1, M s1 → AW P X y Q sl' s1) : AW P X ((Code.region id ops false).seq y) Q sl s :=
  aw_seq (aw_cutM C sl' M hd h fun s1 hm => k s1 hm)
theorem sil_mono {P : Program} {C : Cfg P} {X : Fr} {pb : Bool} {gd : Nat → Option Tmp} {base : Nat} {sp : Me} {K K' : Slots → Prop} (hk : ∀ sl, K sl → K' sl) : ∀ (l : List Oper) {i : Nat} {sl : Slots}, SilOps C X pb gd base sp K l i sl → SilOps C X pb gd base sp K' l i sl
  | [], _, _, h => hk _ h
  | o :: l, i, sl, h => by
    simp only [SilOps] at h ⊢
    unfold tThen at h ⊢
    split at h
    · unfold bThen at h ⊢
      split at h
      · obtain ⟨v, h1, h2⟩ := h
        exact ⟨v, h1, sil_mono hk l h2⟩
      · unfold oThen at h ⊢
        split at h
        · exact ⟨h.1, sil_mono hk l h.2⟩
        · exact h.elim
    · exact sil_mono hk l h
    · exact h.elim
/-- A region that draws its order and changes nothing, whichever of its operations have their turn. -/
theorem aw_silcut {P : Program} {X : Fr} (C : Cfg P) {pb : Bool} {id : Nat} {ops : Array Oper} {Q : Exit → Slots → Me → Prop} {sl : Slots} {ob : Nat → Obj} {nx : Nat} {ls : Nat → LSt} (f : Nat) (obn : Nat → Obj) (sl' : Slots)
    (hd : dstOk X.nt ops.toList = true) (hok : regOk ops f = true) (hsz : ops.size = f) (h0 : ∀ i, i < nx → obn i = ob i)
    (h : SilOps C X pb (nthO (ops.toList.map (·.dst))) nx ⟨obn, nx + f, ls⟩ (fun sl1 => AllIn sl1 sl') ops.toList 0 sl) (k : Q .normal sl' ⟨obn, nx + f, ls⟩) : AW P X (.region id ops true) Q sl ⟨ob, nx, ls⟩ := by
  refine AW.weaken (AW.mono (aw_sil C (Q := thenA (fun sl1 s1 => AllIn sl1 sl' ∧ s1 = ⟨obn, nx + f, ls⟩) fun _ _ _ => False) f obn hd hok hsz h0 (sil_mono (fun _ h => ⟨h, rfl⟩) _ h)) fun e sl1 s1 hq => ?_)
  cases e with
  | normal => exact ⟨sl', hq.1.less, hq.2 ▸ k⟩
  | _ => exact hq.elim
theorem aw_silcut_seq {P : Program} {X : Fr} (C : Cfg P) {pb : Bool} {id : Nat} {ops : Array Oper} {y : Code} {Q : Exit → Slots → Me → Prop} {sl : Slots} {ob : Nat → Obj} {nx : Nat} {ls : Nat → LSt} (f : Nat) (obn : Nat → Obj) (sl' : Slots)
    (hd : dstOk X.nt ops.toList = true) (hok : regOk ops f = true) (hsz : ops.size = f) (h0 : ∀ i, i < nx → obn i = ob i)
    (h : SilOps C X pb (nthO (ops.toList.map (·.dst))) nx ⟨obn, nx + f, ls⟩ (fun sl1 => AllIn sl1 sl') ops.toList 0 sl) (k : AW P X y Q sl' ⟨obn, nx + f, ls⟩) : AW P X ((Code.region id ops true).seq y) Q sl ⟨ob, nx, ls⟩ :=
  aw_seq (aw_silcut C f obn sl' hd hok hsz h0 h k)
/-- What a slot leads to is turned no more: from now on it is plain data. -/
theorem aw_pur {P : Program} {X : Fr} {c : Code} {Q : Exit → Slots → Me → Prop} {sl : Slots} {s : Me} (t : Nat) {x' : Va} {ob' : Nat → Obj} (hp : purV s.ob (get sl t) = some (x', ob')) (h : AW P X c Q ((t, x') :: sl) ⟨ob', s.nx, s.ls⟩) :
    AW P X c Q sl s := by
  intro m G a w hf
  obtain ⟨G', ⟨h1, h2, h3⟩, h4⟩ := purV_of hp hf.wr.rel (hf.slots t)
  refine wpIn_mono (h m G' a w ⟨hf.size, fun k => ?_, hf.wr.evo (s' := ⟨ob', s.nx, s.ls⟩) h1 h2 rfl, DR.ev h2.ev hf.dr, hf.d0, hf.n0⟩) fun e a' w' hp => Post.trans ⟨h2.ev, fun _ _ h => h⟩ hp
  simp only [get]
  split
  · rename_i hk; subst hk; exact h4
  · exact VR.on h2.on (hf.slots k)

/-! ### The statement -/
def Av.noyl : Av → Bool
  | .fn _ _ _ => false
  | .yl _ => false
  | _ => true
def Obj.noyl : Obj → Bool
  | .dead => true
  | .cs l _ => l.all Av.noyl
  | .mp l => l.all fun p => p.2.noyl
section
variable {m m' : Nat → Option Ent} {lb lb' : Nat → Option Nat} {G G' : Nat → Nat → Prop} {w w' : World}
theorem AR.noyl {c : Av} {v : Value} (hc : c.noyl = true) (h : AR m lb G w c v) : AR m lb' G w c v := by
  cases c <;> simp [Av.noyl] at hc <;> simpa only [AR] using h
theorem ARs.noyl : ∀ {cs : List Av} {vs : List Value}, cs.all Av.noyl = true → ARs m lb G w cs vs → ARs m lb' G w cs vs
  | [], _, _, h => by simpa only [ARs] using h
  | c :: cs, _, hp, h => by
    simp only [List.all_cons, Bool.and_eq_true] at hp
    simp only [ARs] at h ⊢
    obtain ⟨u, us, hv, h1, h2⟩ := h
    exact ⟨u, us, hv, AR.noyl hp.1 h1, ARs.noyl hp.2 h2⟩
theorem MR.noyl : ∀ {l : List (Sc × Av)} {es : List MapEntry}, l.all (fun p => p.2.noyl) = true → MR m lb G w l es → MR m lb' G w l es
  | [], es, _, h => by simpa only [MR] using h
  | (k, a) :: l, es, hp, h => by
    simp only [List.all_cons, Bool.and_eq_true] at hp
    simp only [MR] at h ⊢
    obtain ⟨x, xs, he, h1, h2, h3⟩ := h
    exact ⟨x, xs, he, h1, AR.noyl hp.1 h2, MR.noyl hp.2 h3⟩
theorem OR.noyl {o : Obj} {e : Ent} (hp : o.noyl = true) (h : OR m lb G w o e) : OR m lb' G w o e := by
  cases o with
  | dead => trivial
  | cs l fz =>
    simp only [OR] at h ⊢
    obtain ⟨A, vs, h1, h2, h3, h4, h5, h6⟩ := h
    exact ⟨A, vs, h1, h2, ARs.noyl hp h3, h4, h5, h6⟩
  | mp l =>
    simp only [OR] at h ⊢
    obtain ⟨es, clock, h1, h2⟩ := h
    exact ⟨es, clock, h1, MR.noyl hp h2.1, h2.2⟩
mutual
theorem AR.shrink (hl : ∀ l b, lb l = some b → lb' l = some b) : ∀ {c : Av} {v0 v : Value}, AR m lb G w c v0 → AR m' lb' G' w' c v → AR m' lb G' w' c v
  | .sc s, v0, v, _, h => by simpa only [AR] using h
  | .own id o n es, v0, v, _, h => by simpa only [AR] using h
  | .ptr id o, v0, v, _, h => by simpa only [AR] using h
  | .fn f first caps, v0, v, h0, h => by
    simp only [AR] at h0 h ⊢
    obtain ⟨us0, vs0, _, k1, k2⟩ := h0
    obtain ⟨us, vs, hv, h1, h2⟩ := h
    exact ⟨us, vs, hv, ARs.shrink hl k1 h1, ARs.shrink hl k2 h2⟩
  | .map id, v0, v, _, h => by simpa only [AR] using h
  | .yl l, v0, v, h0, h => by
    simp only [AR] at h0 h ⊢
    obtain ⟨b0, h1, _⟩ := h0
    obtain ⟨b, h2, h3⟩ := h
    rw [hl _ _ h1] at h2
    cases h2
    exact ⟨b0, h1, h3⟩
theorem ARs.shrink (hl : ∀ l b, lb l = some b → lb' l = some b) : ∀ {cs : List Av} {vs0 vs : List Value}, ARs m lb G w cs vs0 → ARs m' lb' G' w' cs vs → ARs m' lb G' w' cs vs
  | [], _, vs, _, h => by simpa only [ARs] using h
  | c :: cs, vs0, vs, h0, h => by
    simp only [ARs] at h0 h ⊢
    obtain ⟨u0, us0, _, k1, k2⟩ := h0
    obtain ⟨u, us, hv, h1, h2⟩ := h
    exact ⟨u, us, hv, AR.shrink hl k1 h1, ARs.shrink hl k2 h2⟩
end
theorem MR.shrink (hl : ∀ l b, lb l = some b → lb' l = some b) : ∀ {l : List (Sc × Av)} {es0 es : List MapEntry}, MR m lb G w l es0 → MR m' lb' G' w' l es → MR m' lb G' w' l es
  | [], _, es, _, h => by simpa only [MR] using h
  | (k, a) :: l, es0, es, h0, h => by
    simp only [MR] at h0 h ⊢
    obtain ⟨x0, xs0, _, k1, k2, k3⟩ := h0
    obtain ⟨x, xs, he, h1, h2, h3⟩ := h
    exact ⟨x, xs, he, h1, AR.shrink hl k2 h2, MR.shrink hl k3 h3⟩
theorem OR.shrink (hl : ∀ l b, lb l = some b → lb' l = some b) {o : Obj} {e e' : Ent} (h0 : OR m lb G w o e) (h : OR m' lb' G' w' o e') : OR m' lb G' w' o e' := by
  cases o with
  | dead => trivial
  | cs l fz =>
    simp only [OR] at h0 h ⊢
    obtain ⟨A0, vs0, _, _, k3, _⟩ := h0
    obtain ⟨A, vs, h1, h2, h3, h4, h5, h6⟩ := h
    exact ⟨A, vs, h1, h2, ARs.shrink hl k3 h3, h4, h5, h6⟩
  | mp l =>
    simp only [OR] at h0 h ⊢
    obtain ⟨es0, clock0, _, k2, _⟩ := h0
    obtain ⟨es, clock, h1, h2, h3⟩ := h
    exact ⟨es, clock, h1, MR.shrink hl k2 h2, h3⟩
end

/-- What is known of the loop l as its rounds go. -/
structure LoopIs (L : Loops) (l : Nat) (ps : Array Tmp) (assign body : Code) (nt : Nat) (sl : Slots) : Prop where
  params : (L.rc l).params = ps
  assign : (L.rc l).assign = assign
  body : (L.rc l).body = body
  size : (L.rc l).tmps.size = nt
  sl : L.sl l = sl
  lb : L.lb l = some l
/-- How the statement is left, by how the loop's record stands. -/
def leftBy (Q : Exit → Slots → Me → Prop) (sl : Slots) (s : Me) : LSt → Prop
  | .ready => Q .normal sl s
  | .over .ret => Q .ret sl s
  | .over (.exit i) => Q (.exit i) sl s
  | _ => False
theorem aw_rangeFunc {P : Program} {X : Fr} {Q : Exit → Slots → Me → Prop} {sl : Slots} {s : Me} {g : Operand} {ps : Array Tmp} {assign body : Code} {gf : FuncId} {first caps : List Av} (hr : X.r = none)
    (hg : evA sl g = .av (.fn gf first caps)) (hc : Callable P gf)
    (h : ∀ (L' : Loops) (l : Nat), LoopIs L' l ps assign body X.nt sl →
      FnL P L' gf (first.map .av ++ [.av (.yl l)] ++ caps.map .av) ⟨fun i => if i < s.nx then s.ob i else .dead, s.nx, upd s.ls l .ready⟩ fun r s' =>
        (∀ i, i < s'.nx → (i < s.nx ∧ s'.ob i = s.ob i) ∨ (s'.ob i).noyl = true) ∧ leftBy Q sl ⟨s'.ob, s'.nx, upd s'.ls l (s.ls l)⟩ (s'.ls l)) : AW P X (.rangeFunc g ps assign body) Q sl s := by
  intro m G a w hf
  refine wpIn_rangeFunc fun fn _ => ?_
  rw [Fw_round, hr]
  have hgv := evA_of hf.slots g
  rw [hg] at hgv
  simp only [VR, AR] at hgv
  obtain ⟨us, vs, hv, hus, hvs⟩ := hgv
  obtain ⟨rec, hrec⟩ : ∃ rec : Loop, rec = { state := .ready, pending := none, fn, tmps := a.tmps, params := ps, assign, body, defers := w.heap.size } := ⟨_, rfl⟩
  obtain ⟨w1, hw1⟩ : ∃ w1, (w.alloc (.deferred (some []))).alloc (.loop rec) = w1 := ⟨_, rfl⟩
  obtain ⟨l, hl⟩ : ∃ l, l = w.heap.size + 1 := ⟨_, rfl⟩
  have hsz1 : w1.heap.size = w.heap.size + 2 := by rw [← hw1]; simp
  have hold : ∀ b : Nat, b < w.heap.size → w1.heap[b]? = w.heap[b]? := fun b hb => by
    rw [← hw1]
    show ((w.heap.push _).push _)[b]? = _
    rw [Array.getElem?_push, Array.getElem?_push, if_neg (by simp; omega), if_neg (by omega)]
  have hD1 : w1.heap[w.heap.size]? = some (.deferred (some [])) := by
    rw [← hw1]
    show ((w.heap.push _).push _)[w.heap.size]? = _
    rw [Array.getElem?_push, if_neg (by simp), Array.getElem?_push, if_pos rfl]
  have hL1 : w1.heap[l]? = some (.loop rec) := by
    rw [← hw1, hl]
    show ((w.heap.push _).push _)[w.heap.size + 1]? = _
    rw [Array.getElem?_push, if_pos (by simp)]
  have hfreshl : ∀ l' b, X.L.lb l' = some b → b < w.heap.size ∧ l' = b := fun l' b hb => ⟨(hf.wr.rel.ll l' b hb).1, (X.L.nm l' b hb).symm⟩
  have hll : X.L.lb l = none := by
    cases hx : X.L.lb l with
    | none => rfl
    | some b => have := hfreshl l b hx; omega
  let L' : Loops := ⟨upd X.L.lb l (some l), upd X.L.rc l rec, upd X.L.sl l sl, fun l' b hb => by
    by_cases he : l' = l
    · subst he; rw [upd_same] at hb; cases hb; rfl
    · rw [upd_ne _ _ he] at hb; exact X.L.nm l' b hb⟩
  have hlb : ∀ l' b, X.L.lb l' = some b → L'.lb l' = some b := fun l' b hb => by
    show upd X.L.lb l (some l) l' = some b
    rw [upd_ne _ _ (fun e => by rw [e, hll] at hb; cases hb)]
    exact hb
  have on1 : On m X.L.lb G w m L'.lb G w1 := ⟨⟨fun _ _ h => h, fun b o hg => cell_of_heap (hold b (hf.wr.rel.glt b o hg))⟩, fun _ _ h => h, hlb⟩
  have is : LoopIs L' l ps assign body X.nt sl := by
    refine ⟨?_, ?_, ?_, ?_, ?_, ?_⟩ <;> simp only [L', upd_same, hrec]
    exact hf.size
  obtain ⟨s0, hs0⟩ : ∃ s0 : Me, s0 = ⟨fun i => if i < s.nx then s.ob i else .dead, s.nx, upd s.ls l .ready⟩ := ⟨_, rfl⟩
  have hob0 : ∀ i, m i ≠ none → s0.ob i = s.ob i := fun i hi => by rw [hs0]; exact if_pos (hf.wr.lt hi)
  have wr1 : WR L' m G w1 s0 := by
    refine ⟨⟨fun id e he => ?_, fun i j e f he hf' hi hj hef => ?_, fun b o hg => by have := hf.wr.rel.glt b o hg; omega, fun id e he => by have := hf.wr.rel.mlt id e he; omega, fun id hid => hf.wr.rel.fresh id (by rw [hs0] at hid; exact hid), fun l' b hb => ?_⟩, fun l' b hb => ?_, fun l' b hb t => ?_⟩
    · rw [hob0 id (by simp [he])]
      exact (hf.wr.rel.obj id e he).on on1 (hold _ (hf.wr.rel.mlt id e he)) fun _ h => h
    · rw [hob0 i (by simp [he])] at hi
      rw [hob0 j (by simp [hf'])] at hj
      exact hf.wr.rel.inj i j e f he hf' hi hj hef
    · by_cases he : l' = l
      · subst he
        simp only [L', upd_same] at hb
        cases hb
        exact ⟨by omega, fun id e hm => by have := hf.wr.rel.mlt id e hm; omega⟩
      · simp only [L', upd_ne _ _ he] at hb
        have := hf.wr.rel.ll l' b hb
        exact ⟨by omega, this.2⟩
    · by_cases he : l' = l
      · subst he
        simp only [L', upd_same] at hb
        cases hb
        rw [hL1, hs0]
        simp only [Loops.at, upd_same, LSt.rec', L', hrec]
      · simp only [L', upd_ne _ _ he] at hb
        rw [hold b (hfreshl l' b hb).1, hf.wr.loops l' b hb, hs0]
        simp only [Loops.at, upd_ne _ _ he, L']
    · by_cases he : l' = l
      · subst he
        simp only [L', upd_same, hrec]
        exact VR.on on1 (hf.slots t)
      · have hb' := hb
        simp only [L', upd_ne _ _ he] at hb'
        have := VR.on on1 (hf.wr.tm l' b hb' t)
        simpa only [L', upd_ne _ _ he] using this
  have hargs : VRs m L'.lb G w1 (first.map .av ++ [.av (.yl l)] ++ caps.map .av) (us ++ [.func (.yield l) #[] #[]] ++ vs) := by
    refine VRs.append (VRs.append (VRs.of_ars (ARs.on on1 hus)) (VRs.cons ?_ VRs.nil)) (VRs.of_ars (ARs.on on1 hvs))
    simp only [VR, AR]
    exact ⟨l, is.lb, rfl⟩
  refine ⟨l, [{ target := .collected w.heap.size, args := #[] }], w1, { target := .fn (.func gf) vs.toArray, args := us.toArray ++ #[.func (.yield l) #[] #[]] }, w1, gf, us.toArray ++ #[.func (.yield l) #[] #[]] ++ vs.toArray, w1, ?_, ?_, fun _ _ => trivial, ?_, by simp [Fw], ?_⟩
  · rw [← hw1, hl, hrec]; exact run_enterLoop_outer _ _ _ _ _
  · simp only [resolve, hv, Deferred.ofValue, Sem.run_pure]
    simp [Act.eval]
  · simp only [invoke]
    exact hc _ _
  have hcall := h L' l is m G w1 _ hargs (hs0 ▸ wr1)
  have earr : (us ++ [Value.func (.yield l) #[] #[]] ++ vs).toArray = us.toArray ++ #[Value.func (.yield l) #[] #[]] ++ vs.toArray := by apply Array.toList_inj.1; simp
  rw [earr] at hcall
  refine CallsIn.mono (F := Fw X.r) (n := 0) hcall fun e w2 he => ?_
  obtain ⟨v, r, s', m', G', rfl, ⟨hno, hleft⟩, _, hw2, he2, hnx, hkeep⟩ := he
  -- the record is shut
  have hrec2 := hw2.loops l l is.lb
  have hlt2 : l < w2.heap.size := (hw2.rel.ll l l is.lb).1
  have hbusy : (L'.at s'.ls l).state ≠ .busy := by
    cases hx : s'.ls l with
    | ready => simp [Loops.at, hx, LSt.rec']
    | busy => rw [hx] at hleft; exact hleft.elim
    | over c => simp [Loops.at, hx, LSt.rec']
  have hend := run_endLoop (P := P) hrec2 hbusy
  obtain ⟨w4, hw4⟩ : ∃ w4, w2.putObj l (.loop { L'.at s'.ls l with state := .exhausted }) = w4 := ⟨_, rfl⟩
  rw [hw4] at hend
  have on4 : On m' L'.lb G' w2 m' L'.lb G' w4 := by rw [← hw4]; exact on_putObj hrec2 (fun k => cell_loop hrec2) (fun k => cell_loop (World.putObj_heap_same hlt2))
  have rel4 := rel_putObj (o' := .loop { L'.at s'.ls l with state := .exhausted }) hw2.rel (fun id e he => (hw2.rel.ll l l is.lb).2 id e he) (hw4 ▸ on4)
  rw [hw4] at rel4
  have hother : ∀ b : Nat, b ≠ l → w4.heap[b]? = w2.heap[b]? := fun b hb => by rw [← hw4]; exact World.putObj_heap_other hb
  have st : Stays G w G' w4 := (on1.s.trans he2.on.s).trans on4.s
  have onA : On m X.L.lb G w m' X.L.lb G' w4 := ⟨st, he2.on.m, fun _ _ h => h⟩
  have hm' : ∀ i e, m' i = some e → i < s.nx → m i = some e := fun i e hi hlt => by
    cases hc : m i with
    | none => rw [hkeep i hlt hc] at hi; cases hi
    | some e' => rw [he2.on.m _ _ hc] at hi; exact hi
  have evA : Ev X.L m G w m' G' w4 := by
    refine ⟨onA, ?_, ?_, ?_, ?_, fun b hb hnm hnl => ?_, fun id e hm => ?_⟩
    · rw [← hw4]; show w2.os = w.os; rw [he2.os, ← hw1]; rfl
    · rw [← hw4]; show w2.tape = w.tape; rw [he2.tape, ← hw1]; rfl
    · rw [← hw4]; show w2.output = w.output; rw [he2.output, ← hw1]; rfl
    · have := he2.size; rw [← hw4]; simp; omega
    · rw [hother b (by omega), he2.old b (by omega) hnm fun l' hx => ?_, hold b hb]
      by_cases hel : l' = l
      · subst hel; rw [is.lb] at hx; cases hx; omega
      · simp only [L', upd_ne _ _ hel] at hx; exact hnl l' hx
    · rcases he2.new id e hm with h1 | h1
      · exact .inl h1
      · exact .inr (by omega)
  have relX : Rel m' X.L.lb G' w4 s'.ob s'.nx := by
    refine ⟨fun id e he => ?_, rel4.inj, rel4.glt, rel4.mlt, rel4.fresh, fun l' b hb => rel4.ll l' b (hlb l' b hb)⟩
    rcases hno id (hw2.lt (by simp [he])) with ⟨h1, h2⟩ | h1
    · have h3 := rel4.obj id e he
      rw [h2] at h3 ⊢
      exact OR.shrink hlb (hf.wr.rel.obj id e (hm' id e he h1)) h3
    · exact OR.noyl h1 (rel4.obj id e he)
  have hD2 : w4.heap[w.heap.size]? = some (.deferred (some [])) := by
    rw [hother _ (by omega), he2.old _ (by omega) (fun id e hm hx => by have := hf.wr.rel.mlt id e hm; omega) (fun l' hx => ?_), hD1]
    by_cases hel : l' = l
    · subst hel; rw [is.lb] at hx; cases hx; omega
    · simp only [L', upd_ne _ _ hel] at hx; have := (hfreshl l' _ hx).1; omega
  have hwr : WR X.L m' G' w4 ⟨s'.ob, s'.nx, upd s'.ls l (s.ls l)⟩ := by
    refine ⟨relX, fun l' b hb => ?_, fun l' b hb t => VR.on onA (hf.wr.tm l' b hb t)⟩
    have hne : l' ≠ l := fun e => by rw [e, hll] at hb; cases hb
    have h1 := hw2.loops l' b (hlb l' b hb)
    have hbl : b ≠ l := by have := (hfreshl l' b hb).1; omega
    rw [hother b hbl, h1]
    simp only [Loops.at, upd_ne _ _ hne, L']
  have dr : ∀ ds, DR X.D0 X.L m w ds → ∀ d ∈ ds, d.target ≠ .collected w.heap.size := by
    intro ds
    induction ds with
    | nil => intro _ d hd; cases hd
    | cons x ds ih =>
      rintro ⟨⟨D, h1, h2, h3, _⟩, h4⟩ d hd
      rcases List.mem_cons.1 hd with rfl | hd
      · rw [h1]
        intro e
        injection e with e
        have := (Array.getElem?_eq_some_iff.1 h3).1
        omega
      · exact ih h4 d hd
  have hfs : FS X m' G' sl ⟨s'.ob, s'.nx, upd s'.ls l (s.ls l)⟩ { a with defers := [{ target := .collected w.heap.size, args := #[] }] ++ a.defers } w4 := by
    refine ⟨hf.size, fun t => VR.on onA (hf.slots t), hwr, ⟨⟨w.heap.size, rfl, hf.d0, hD2, fun id e hm hx => ?_, fun l' hx => ?_, dr _ hf.dr⟩, DR.ev evA hf.dr⟩, Nat.le_trans hf.d0 evA.size, ?_⟩
    · rcases he2.new id e hm with ⟨i, f, h1, h2⟩ | h1
      · have := hf.wr.rel.mlt i f h1; omega
      · omega
    · have := (hfreshl l' _ hx).1; omega
    · have := hf.n0; simp only at hnx ⊢; omega
  have hpost : ∀ e, Q e sl ⟨s'.ob, s'.nx, upd s'.ls l (s.ls l)⟩ → Post X m G w Q e { a with defers := [{ target := .collected w.heap.size, args := #[] }] ++ a.defers } w4 := fun e hq =>
    ⟨_, _, m', G', hq, hfs, evA, fun i hi hm => hkeep i (by have := hf.n0; simp only; omega) hm⟩
  refine ⟨_, w4, hend, ?_⟩
  cases hx : s'.ls l with
  | ready =>
    rw [hx] at hleft
    simp only [Loops.at, hx, LSt.rec']
    exact hpost .normal hleft
  | busy => rw [hx] at hleft; exact hleft.elim
  | over c =>
    rw [hx] at hleft
    simp only [Loops.at, hx, LSt.rec']
    cases c with
    | ret => exact wpIn_ret (hpost .ret hleft)
    | exit i => exact wpIn_exit (hpost (.exit i) hleft)
    | _ => exact hleft.elim
end Go.Am
/-
  MADE BY PROGRAM (seat.py): what the abstract machine knows of the seat's types.
-/
namespace Go.Am.Seat
open Go.Proofs
def fsOf (i : TypeInfo) : Array Field := match i.desc with
  | .struct fs => fs
  | _ => #[]
noncomputable def y1 : Ty := ⟨Try.t1.desc, 1, 8, [.nilfn]⟩
noncomputable def y2 : Ty := ⟨.int .i64, 1, 8, [.int .i64 0]⟩
noncomputable def y3 : Ty := ⟨.int .i64, 1, 8, [.int .i64 0]⟩
noncomputable def y4 : Ty := ⟨.bool, 1, 1, [.bool false]⟩
noncomputable def y5 : Ty := ⟨.int .u8, 1, 1, [.int .u8 0]⟩
noncomputable def y9 : Ty := ⟨.string, 1, 16, [.str ⟨#[]⟩]⟩
noncomputable def y21 : Ty := ⟨.int .i32, 1, 4, [.int .i32 0]⟩
noncomputable def y22 : Ty := ⟨.slice 42, 1, 24, [.nilsl]⟩
noncomputable def y25 : Ty := ⟨.slice 39, 1, 24, [.nilsl]⟩
noncomputable def y26 : Ty := ⟨.int .i64, 1, 8, [.int .i64 0]⟩
noncomputable def y36 : Ty := ⟨.slice 3, 1, 24, [.nilsl]⟩
noncomputable def y39 : Ty := ⟨.struct (fsOf Try.t38), 2, 32, [.int .i64 0, .nilsl]⟩
noncomputable def y40 : Ty := ⟨.slice 22, 1, 24, [.nilsl]⟩
noncomputable def y42 : Ty := ⟨.struct (fsOf Try.t41), 3, 32, [.int .i64 0, .str ⟨#[]⟩, .int .i64 0]⟩
noncomputable def y45 : Ty := ⟨.array 2 22, 2, 48, [.nilsl, .nilsl]⟩
noncomputable def y55 : Ty := ⟨.pointer 63, 1, 8, [.nilptr]⟩
noncomputable def y61 : Ty := ⟨.map 3 3, 1, 8, [.nilmap]⟩
noncomputable def y63 : Ty := ⟨.struct (fsOf Try.t62), 4, 96, [.nilsl, .nilsl, .nilsl, .nilsl]⟩
noncomputable def y65 : Ty := ⟨Try.t65.desc, 1, 8, [.nilfn]⟩
noncomputable def y71 : Ty := ⟨.map 3 22, 1, 8, [.nilmap]⟩
noncomputable def y73 : Ty := ⟨Try.t73.desc, 1, 8, [.nilfn]⟩
noncomputable def y74 : Ty := ⟨Try.t73.desc, 1, 8, [.nilfn]⟩
noncomputable def y83 : Ty := ⟨.array 2 3, 2, 16, [.int .i64 0, .int .i64 0]⟩
noncomputable def y84 : Ty := ⟨.slice 83, 1, 24, [.nilsl]⟩
noncomputable def y89 : Ty := ⟨.slice 4, 1, 24, [.nilsl]⟩
noncomputable def y91 : Ty := ⟨Try.t91.desc, 1, 8, [.nilfn]⟩
noncomputable def y98 : Ty := ⟨.int .u64, 1, 8, [.int .u64 0]⟩
noncomputable def y102 : Ty := ⟨.int .i64, 1, 8, [.int .i64 0]⟩
noncomputable def y109 : Ty := ⟨.int .u32, 1, 4, [.int .u32 0]⟩
noncomputable def y111 : Ty := ⟨.int .u64, 1, 8, [.int .u64 0]⟩
noncomputable def y112 : Ty := ⟨.int .u64, 1, 8, [.int .u64 0]⟩
noncomputable def y116 : Ty := ⟨.pointer 3, 1, 8, [.nilptr]⟩
noncomputable def y118 : Ty := ⟨Try.t118.desc, 1, 8, [.nilfn]⟩
noncomputable def y120 : Ty := ⟨.slice 21, 1, 24, [.nilsl]⟩
noncomputable def y121 : Ty := ⟨.pointer 112, 1, 8, [.nilptr]⟩
noncomputable def T : TypeId → Option Ty
  | 1 => some y1
  | 2 => some y2
  | 3 => some y3
  | 4 => some y4
  | 5 => some y5
  | 9 => some y9
  | 21 => some y21
  | 22 => some y22
  | 25 => some y25
  | 26 => some y26
  | 36 => some y36
  | 39 => some y39
  | 40 => some y40
  | 42 => some y42
  | 45 => some y45
  | 55 => some y55
  | 61 => some y61
  | 63 => some y63
  | 65 => some y65
  | 71 => some y71
  | 73 => some y73
  | 74 => some y74
  | 83 => some y83
  | 84 => some y84
  | 89 => some y89
  | 91 => some y91
  | 98 => some y98
  | 102 => some y102
  | 109 => some y109
  | 111 => some y111
  | 112 => some y112
  | 116 => some y116
  | 118 => some y118
  | 120 => some y120
  | 121 => some y121
  | _ => none
theorem ok1 : Try.prog.underlying 1 = some y1.d ∧ y1.zero.all Sc.isConst = true ∧ y1.zero.length = y1.size ∧ ∃ i, Try.prog.info? 1 = some i ∧ i.size = y1.size ∧ i.bytes = y1.bytes ∧ i.zero = some y1.zeroV :=
  ⟨Try.underlying1, rfl, rfl, Try.t1, by kernel_rfl, rfl, rfl, rfl⟩
theorem ok2 : Try.prog.underlying 2 = some y2.d ∧ y2.zero.all Sc.isConst = true ∧ y2.zero.length = y2.size ∧ ∃ i, Try.prog.info? 2 = some i ∧ i.size = y2.size ∧ i.bytes = y2.bytes ∧ i.zero = some y2.zeroV :=
  ⟨Try.underlying2, rfl, rfl, Try.t2, by kernel_rfl, rfl, rfl, rfl⟩
theorem ok3 : Try.prog.underlying 3 = some y3.d ∧ y3.zero.all Sc.isConst = true ∧ y3.zero.length = y3.size ∧ ∃ i, Try.prog.info? 3 = some i ∧ i.size = y3.size ∧ i.bytes = y3.bytes ∧ i.zero = some y3.zeroV :=
  ⟨Try.underlying3, rfl, rfl, Try.t3, by kernel_rfl, rfl, rfl, rfl⟩
theorem ok4 : Try.prog.underlying 4 = some y4.d ∧ y4.zero.all Sc.isConst = true ∧ y4.zero.length = y4.size ∧ ∃ i, Try.prog.info? 4 = some i ∧ i.size = y4.size ∧ i.bytes = y4.bytes ∧ i.zero = some y4.zeroV :=
  ⟨Try.underlying4, rfl, rfl, Try.t4, by kernel_rfl, rfl, rfl, rfl⟩
theorem ok5 : Try.prog.underlying 5 = some y5.d ∧ y5.zero.all Sc.isConst = true ∧ y5.zero.length = y5.size ∧ ∃ i, Try.prog.info? 5 = some i ∧ i.size = y5.size ∧ i.bytes = y5.bytes ∧ i.zero = some y5.zeroV :=
  ⟨Try.underlying5, rfl, rfl, Try.t5, by kernel_rfl, rfl, rfl, rfl⟩
theorem ok9 : Try.prog.underlying 9 = some y9.d ∧ y9.zero.all Sc.isConst = true ∧ y9.zero.length = y9.size ∧ ∃ i, Try.prog.info? 9 = some i ∧ i.size = y9.size ∧ i.bytes = y9.bytes ∧ i.zero = some y9.zeroV :=
  ⟨Try.underlying9, rfl, rfl, Try.t9, by kernel_rfl, rfl, rfl, rfl⟩
theorem ok21 : Try.prog.underlying 21 = some y21.d ∧ y21.zero.all Sc.isConst = true ∧ y21.zero.length = y21.size ∧ ∃ i, Try.prog.info? 21 = some i ∧ i.size = y21.size ∧ i.bytes = y21.bytes ∧ i.zero = some y21.zeroV :=
  ⟨Try.underlying21, rfl, rfl, Try.t21, by kernel_rfl, rfl, rfl, rfl⟩
theorem ok22 : Try.prog.underlying 22 = some y22.d ∧ y22.zero.all Sc.isConst = true ∧ y22.zero.length = y22.size ∧ ∃ i, Try.prog.info? 22 = some i ∧ i.size = y22.size ∧ i.bytes = y22.bytes ∧ i.zero = some y22.zeroV :=
  ⟨Try.underlying22, rfl, rfl, Try.t22, by kernel_rfl, rfl, rfl, rfl⟩
theorem ok25 : Try.prog.underlying 25 = some y25.d ∧ y25.zero.all Sc.isConst = true ∧ y25.zero.length = y25.size ∧ ∃ i, Try.prog.info? 25 = some i ∧ i.size = y25.size ∧ i.bytes = y25.bytes ∧ i.zero = some y25.zeroV :=
  ⟨Try.underlying25, rfl, rfl, Try.t25, by kernel_rfl, rfl, rfl, rfl⟩
theorem ok26 : Try.prog.underlying 26 = some y26.d ∧ y26.zero.all Sc.isConst = true ∧ y26.zero.length = y26.size ∧ ∃ i, Try.prog.info? 26 = some i ∧ i.size = y26.size ∧ i.bytes = y26.bytes ∧ i.zero = some y26.zeroV :=
  ⟨Try.underlying26, rfl, rfl, Try.t26, by kernel_rfl, rfl, rfl, rfl⟩
theorem ok36 : Try.prog.underlying 36 = some y36.d ∧ y36.zero.all Sc.isConst = true ∧ y36.zero.length = y36.size ∧ ∃ i, Try.prog.info? 36 = some i ∧ i.size = y36.size ∧ i.bytes = y36.bytes ∧ i.zero = some y36.zeroV :=
  ⟨Try.underlying36, rfl, rfl, Try.t36, by kernel_rfl, rfl, rfl, rfl⟩
theorem ok39 : Try.prog.underlying 39 = some y39.d ∧ y39.zero.all Sc.isConst = true ∧ y39.zero.length = y39.size ∧ ∃ i, Try.prog.info? 39 = some i ∧ i.size = y39.size ∧ i.bytes = y39.bytes ∧ i.zero = some y39.zeroV :=
  ⟨Try.underlying39, rfl, rfl, Try.t39, by kernel_rfl, rfl, rfl, rfl⟩
theorem ok40 : Try.prog.underlying 40 = some y40.d ∧ y40.zero.all Sc.isConst = true ∧ y40.zero.length = y40.size ∧ ∃ i, Try.prog.info? 40 = some i ∧ i.size = y40.size ∧ i.bytes = y40.bytes ∧ i.zero = some y40.zeroV :=
  ⟨Try.underlying40, rfl, rfl, Try.t40, by kernel_rfl, rfl, rfl, rfl⟩
theorem ok42 : Try.prog.underlying 42 = some y42.d ∧ y42.zero.all Sc.isConst = true ∧ y42.zero.length = y42.size ∧ ∃ i, Try.prog.info? 42 = some i ∧ i.size = y42.size ∧ i.bytes = y42.bytes ∧ i.zero = some y42.zeroV :=
  ⟨Try.underlying42, rfl, rfl, Try.t42, by kernel_rfl, rfl, rfl, rfl⟩
theorem ok45 : Try.prog.underlying 45 = some y45.d ∧ y45.zero.all Sc.isConst = true ∧ y45.zero.length = y45.size ∧ ∃ i, Try.prog.info? 45 = some i ∧ i.size = y45.size ∧ i.bytes = y45.bytes ∧ i.zero = some y45.zeroV :=
  ⟨Try.underlying45, rfl, rfl, Try.t45, by kernel_rfl, rfl, rfl, rfl⟩
theorem ok55 : Try.prog.underlying 55 = some y55.d ∧ y55.zero.all Sc.isConst = true ∧ y55.zero.length = y55.size ∧ ∃ i, Try.prog.info? 55 = some i ∧ i.size = y55.size ∧ i.bytes = y55.bytes ∧ i.zero = some y55.zeroV :=
  ⟨Try.underlying55, rfl, rfl, Try.t55, by kernel_rfl, rfl, rfl, rfl⟩
theorem ok61 : Try.prog.underlying 61 = some y61.d ∧ y61.zero.all Sc.isConst = true ∧ y61.zero.length = y61.size ∧ ∃ i, Try.prog.info? 61 = some i ∧ i.size = y61.size ∧ i.bytes = y61.bytes ∧ i.zero = some y61.zeroV :=
  ⟨Try.underlying61, rfl, rfl, Try.t61, by kernel_rfl, rfl, rfl, rfl⟩
theorem ok63 : Try.prog.underlying 63 = some y63.d ∧ y63.zero.all Sc.isConst = true ∧ y63.zero.length = y63.size ∧ ∃ i, Try.prog.info? 63 = some i ∧ i.size = y63.size ∧ i.bytes = y63.bytes ∧ i.zero = some y63.zeroV :=
  ⟨Try.underlying63, rfl, rfl, Try.t63, by kernel_rfl, rfl, rfl, rfl⟩
theorem ok65 : Try.prog.underlying 65 = some y65.d ∧ y65.zero.all Sc.isConst = true ∧ y65.zero.length = y65.size ∧ ∃ i, Try.prog.info? 65 = some i ∧ i.size = y65.size ∧ i.bytes = y65.bytes ∧ i.zero = some y65.zeroV :=
  ⟨Try.underlying65, rfl, rfl, Try.t65, by kernel_rfl, rfl, rfl, rfl⟩
theorem ok71 : Try.prog.underlying 71 = some y71.d ∧ y71.zero.all Sc.isConst = true ∧ y71.zero.length = y71.size ∧ ∃ i, Try.prog.info? 71 = some i ∧ i.size = y71.size ∧ i.bytes = y71.bytes ∧ i.zero = some y71.zeroV :=
  ⟨Try.underlying71, rfl, rfl, Try.t71, by kernel_rfl, rfl, rfl, rfl⟩
theorem ok73 : Try.prog.underlying 73 = some y73.d ∧ y73.zero.all Sc.isConst = true ∧ y73.zero.length = y73.size ∧ ∃ i, Try.prog.info? 73 = some i ∧ i.size = y73.size ∧ i.bytes = y73.bytes ∧ i.zero = some y73.zeroV :=
  ⟨Try.underlying73, rfl, rfl, Try.t73, by kernel_rfl, rfl, rfl, rfl⟩
theorem ok74 : Try.prog.underlying 74 = some y74.d ∧ y74.zero.all Sc.isConst = true ∧ y74.zero.length = y74.size ∧ ∃ i, Try.prog.info? 74 = some i ∧ i.size = y74.size ∧ i.bytes = y74.bytes ∧ i.zero = some y74.zeroV :=
  ⟨Try.underlying74, rfl, rfl, Try.t74, by kernel_rfl, rfl, rfl, rfl⟩
theorem ok83 : Try.prog.underlying 83 = some y83.d ∧ y83.zero.all Sc.isConst = true ∧ y83.zero.length = y83.size ∧ ∃ i, Try.prog.info? 83 = some i ∧ i.size = y83.size ∧ i.bytes = y83.bytes ∧ i.zero = some y83.zeroV :=
  ⟨Try.underlying83, rfl, rfl, Try.t83, by kernel_rfl, rfl, rfl, rfl⟩
theorem ok84 : Try.prog.underlying 84 = some y84.d ∧ y84.zero.all Sc.isConst = true ∧ y84.zero.length = y84.size ∧ ∃ i, Try.prog.info? 84 = some i ∧ i.size = y84.size ∧ i.bytes = y84.bytes ∧ i.zero = some y84.zeroV :=
  ⟨Try.underlying84, rfl, rfl, Try.t84, by kernel_rfl, rfl, rfl, rfl⟩
theorem ok89 : Try.prog.underlying 89 = some y89.d ∧ y89.zero.all Sc.isConst = true ∧ y89.zero.length = y89.size ∧ ∃ i, Try.prog.info? 89 = some i ∧ i.size = y89.size ∧ i.bytes = y89.bytes ∧ i.zero = some y89.zeroV :=
  ⟨Try.underlying89, rfl, rfl, Try.t89, by kernel_rfl, rfl, rfl, rfl⟩
theorem ok91 : Try.prog.underlying 91 = some y91.d ∧ y91.zero.all Sc.isConst = true ∧ y91.zero.length = y91.size ∧ ∃ i, Try.prog.info? 91 = some i ∧ i.size = y91.size ∧ i.bytes = y91.bytes ∧ i.zero = some y91.zeroV :=
  ⟨Try.underlying91, rfl, rfl, Try.t91, by kernel_rfl, rfl, rfl, rfl⟩
theorem ok98 : Try.prog.underlying 98 = some y98.d ∧ y98.zero.all Sc.isConst = true ∧ y98.zero.length = y98.size ∧ ∃ i, Try.prog.info? 98 = some i ∧ i.size = y98.size ∧ i.bytes = y98.bytes ∧ i.zero = some y98.zeroV :=
  ⟨Try.underlying98, rfl, rfl, Try.t98, by kernel_rfl, rfl, rfl, rfl⟩
theorem ok102 : Try.prog.underlying 102 = some y102.d ∧ y102.zero.all Sc.isConst = true ∧ y102.zero.length = y102.size ∧ ∃ i, Try.prog.info? 102 = some i ∧ i.size = y102.size ∧ i.bytes = y102.bytes ∧ i.zero = some y102.zeroV :=
  ⟨Try.underlying102, rfl, rfl, Try.t102, by kernel_rfl, rfl, rfl, rfl⟩
theorem ok109 : Try.prog.underlying 109 = some y109.d ∧ y109.zero.all Sc.isConst = true ∧ y109.zero.length = y109.size ∧ ∃ i, Try.prog.info? 109 = some i ∧ i.size = y109.size ∧ i.bytes = y109.bytes ∧ i.zero = some y109.zeroV :=
  ⟨Try.underlying109, rfl, rfl, Try.t109, by kernel_rfl, rfl, rfl, rfl⟩
theorem ok111 : Try.prog.underlying 111 = some y111.d ∧ y111.zero.all Sc.isConst = true ∧ y111.zero.length = y111.size ∧ ∃ i, Try.prog.info? 111 = some i ∧ i.size = y111.size ∧ i.bytes = y111.bytes ∧ i.zero = some y111.zeroV :=
  ⟨Try.underlying111, rfl, rfl, Try.t111, by kernel_rfl, rfl, rfl, rfl⟩
theorem ok112 : Try.prog.underlying 112 = some y112.d ∧ y112.zero.all Sc.isConst = true ∧ y112.zero.length = y112.size ∧ ∃ i, Try.prog.info? 112 = some i ∧ i.size = y112.size ∧ i.bytes = y112.bytes ∧ i.zero = some y112.zeroV :=
  ⟨Try.underlying112, rfl, rfl, Try.t112, by kernel_rfl, rfl, rfl, rfl⟩
theorem ok116 : Try.prog.underlying 116 = some y116.d ∧ y116.zero.all Sc.isConst = true ∧ y116.zero.length = y116.size ∧ ∃ i, Try.prog.info? 116 = some i ∧ i.size = y116.size ∧ i.bytes = y116.bytes ∧ i.zero = some y116.zeroV :=
  ⟨Try.underlying116, rfl, rfl, Try.t116, by kernel_rfl, rfl, rfl, rfl⟩
theorem ok118 : Try.prog.underlying 118 = some y118.d ∧ y118.zero.all Sc.isConst = true ∧ y118.zero.length = y118.size ∧ ∃ i, Try.prog.info? 118 = some i ∧ i.size = y118.size ∧ i.bytes = y118.bytes ∧ i.zero = some y118.zeroV :=
  ⟨Try.underlying118, rfl, rfl, Try.t118, by kernel_rfl, rfl, rfl, rfl⟩
theorem ok120 : Try.prog.underlying 120 = some y120.d ∧ y120.zero.all Sc.isConst = true ∧ y120.zero.length = y120.size ∧ ∃ i, Try.prog.info? 120 = some i ∧ i.size = y120.size ∧ i.bytes = y120.bytes ∧ i.zero = some y120.zeroV :=
  ⟨Try.underlying120, rfl, rfl, Try.t120, by kernel_rfl, rfl, rfl, rfl⟩
theorem ok121 : Try.prog.underlying 121 = some y121.d ∧ y121.zero.all Sc.isConst = true ∧ y121.zero.length = y121.size ∧ ∃ i, Try.prog.info? 121 = some i ∧ i.size = y121.size ∧ i.bytes = y121.bytes ∧ i.zero = some y121.zeroV :=
  ⟨Try.underlying121, rfl, rfl, Try.t121, by kernel_rfl, rfl, rfl, rfl⟩
theorem tok : TOk Try.prog T := by
  intro t y h
  unfold T at h
  split at h
  · cases h; exact ok1
  · cases h; exact ok2
  · cases h; exact ok3
  · cases h; exact ok4
  · cases h; exact ok5
  · cases h; exact ok9
  · cases h; exact ok21
  · cases h; exact ok22
  · cases h; exact ok25
  · cases h; exact ok26
  · cases h; exact ok36
  · cases h; exact ok39
  · cases h; exact ok40
  · cases h; exact ok42
  · cases h; exact ok45
  · cases h; exact ok55
  · cases h; exact ok61
  · cases h; exact ok63
  · cases h; exact ok65
  · cases h; exact ok71
  · cases h; exact ok73
  · cases h; exact ok74
  · cases h; exact ok83
  · cases h; exact ok84
  · cases h; exact ok89
  · cases h; exact ok91
  · cases h; exact ok98
  · cases h; exact ok102
  · cases h; exact ok109
  · cases h; exact ok111
  · cases h; exact ok112
  · cases h; exact ok116
  · cases h; exact ok118
  · cases h; exact ok120
  · cases h; exact ok121
  · cases h
theorem hone : ∀ t y, T t = some y → isAggD y.d = false → y.size = 1 := by
  intro t y h hd
  unfold T at h
  split at h
  · cases h; rfl
  · cases h; rfl
  · cases h; rfl
  · cases h; rfl
  · cases h; rfl
  · cases h; rfl
  · cases h; rfl
  · cases h; rfl
  · cases h; rfl
  · cases h; rfl
  · cases h; rfl
  · cases h; simp [y39, isAggD] at hd
  · cases h; rfl
  · cases h; simp [y42, isAggD] at hd
  · cases h; simp [y45, isAggD] at hd
  · cases h; rfl
  · cases h; rfl
  · cases h; simp [y63, isAggD] at hd
  · cases h; rfl
  · cases h; rfl
  · cases h; rfl
  · cases h; rfl
  · cases h; simp [y83, isAggD] at hd
  · cases h; rfl
  · cases h; rfl
  · cases h; rfl
  · cases h; rfl
  · cases h; rfl
  · cases h; rfl
  · cases h; rfl
  · cases h; rfl
  · cases h; rfl
  · cases h; rfl
  · cases h; rfl
  · cases h; rfl
  · cases h
@[go_sem] theorem T1 : T 1 = some y1 := rfl
@[go_sem] theorem T2 : T 2 = some y2 := rfl
@[go_sem] theorem T3 : T 3 = some y3 := rfl
@[go_sem] theorem T4 : T 4 = some y4 := rfl
@[go_sem] theorem T5 : T 5 = some y5 := rfl
@[go_sem] theorem T9 : T 9 = some y9 := rfl
@[go_sem] theorem T21 : T 21 = some y21 := rfl
@[go_sem] theorem T22 : T 22 = some y22 := rfl
@[go_sem] theorem T25 : T 25 = some y25 := rfl
@[go_sem] theorem T26 : T 26 = some y26 := rfl
@[go_sem] theorem T36 : T 36 = some y36 := rfl
@[go_sem] theorem T39 : T 39 = some y39 := rfl
@[go_sem] theorem T40 : T 40 = some y40 := rfl
@[go_sem] theorem T42 : T 42 = some y42 := rfl
@[go_sem] theorem T45 : T 45 = some y45 := rfl
@[go_sem] theorem T55 : T 55 = some y55 := rfl
@[go_sem] theorem T61 : T 61 = some y61 := rfl
@[go_sem] theorem T63 : T 63 = some y63 := rfl
@[go_sem] theorem T65 : T 65 = some y65 := rfl
@[go_sem] theorem T71 : T 71 = some y71 := rfl
@[go_sem] theorem T73 : T 73 = some y73 := rfl
@[go_sem] theorem T74 : T 74 = some y74 := rfl
@[go_sem] theorem T83 : T 83 = some y83 := rfl
@[go_sem] theorem T84 : T 84 = some y84 := rfl
@[go_sem] theorem T89 : T 89 = some y89 := rfl
@[go_sem] theorem T91 : T 91 = some y91 := rfl
@[go_sem] theorem T98 : T 98 = some y98 := rfl
@[go_sem] theorem T102 : T 102 = some y102 := rfl
@[go_sem] theorem T109 : T 109 = some y109 := rfl
@[go_sem] theorem T111 : T 111 = some y111 := rfl
@[go_sem] theorem T112 : T 112 = some y112 := rfl
@[go_sem] theorem T116 : T 116 = some y116 := rfl
@[go_sem] theorem T118 : T 118 = some y118 := rfl
@[go_sem] theorem T120 : T 120 = some y120 := rfl
@[go_sem] theorem T121 : T 121 = some y121 := rfl
@[go_sem] theorem fo39_0 : fieldOf T 39 0 = some (0, y3) := rfl
@[go_sem] theorem fo39_1 : fieldOf T 39 1 = some (1, y22) := rfl
@[go_sem] theorem pl38 : placesOf T (fsOf Try.t38).toList = some [(0, 1), (1, 1)] := rfl
@[go_sem] theorem fo42_0 : fieldOf T 42 0 = some (0, y3) := rfl
@[go_sem] theorem fo42_1 : fieldOf T 42 1 = some (1, y9) := rfl
@[go_sem] theorem fo42_2 : fieldOf T 42 2 = some (2, y3) := rfl
@[go_sem] theorem pl41 : placesOf T (fsOf Try.t41).toList = some [(0, 1), (1, 1), (2, 1)] := rfl
@[go_sem] theorem fo63_0 : fieldOf T 63 0 = some (0, y22) := rfl
@[go_sem] theorem fo63_1 : fieldOf T 63 1 = some (1, y36) := rfl
@[go_sem] theorem fo63_2 : fieldOf T 63 2 = some (2, y36) := rfl
@[go_sem] theorem fo63_3 : fieldOf T 63 3 = some (3, y36) := rfl
@[go_sem] theorem pl62 : placesOf T (fsOf Try.t62).toList = some [(0, 1), (1, 1), (2, 1), (3, 1)] := rfl
attribute [go_sem] y1 y2 y3 y4 y5 y9 y21 y22 y25 y26 y36 y39 y40 y42 y45 y55 y61 y63 y65 y71 y73 y74 y83 y84 y89 y91 y98 y102 y109 y111 y112 y116 y118 y120 y121
end Go.Am.Seat
/-
  Am, part U: the machine for this seat: api.Cell compares cell by cell.
-/
namespace Go.Am.Seat
open Go.Proofs
section
variable {P : Program} {d : Nat} {xs ys : Array Value} {f : Field} {fs : List Field} {a b : Value} {r s : Bool} {w : World}
theorem eqf_cons (hn : (f.name == "_") = false) (ha : (part f.type xs f.offset).run P w = .ok a w) (hb : (part f.type ys f.offset).run P w = .ok b w) (he : (Op.equalIn d f.type a b).run P w = .ok r w) (hr : (Op.eqFields d xs ys fs).run P w = .ok s w) : (Op.eqFields d xs ys (f :: fs)).run P w = .ok (r && s) w := by
  have hn' : f.name ≠ "_" := by simpa using hn
  rw [Op.eqFields]
  simp only [if_pos hn', Sem.run_bind, ha, hb, he, Result.andThen_ok]
  cases r
  · simp
  · simpa using hr
theorem eqf_nil : (Op.eqFields d xs ys []).run P w = .ok true w := by simp [Op.eqFields]
theorem eqA_of {t : TypeId} {fs : Array Field} (hu : P.underlying t = some (.struct fs)) (hp : P.stoodInHeld t = false) (h : (Op.eqFields d xs ys fs.toList).run P w = .ok r w) : (Op.equalIn (d + 1) t (.agg xs) (.agg ys)).run P w = .ok r w := by
  have hf : P.fieldsOf t = fs := by simp [Program.fieldsOf, hu]
  rw [run_equalIn_struct (P := P) w d t xs ys (by rw [hf]; exact hu) hp, hf]
  exact h
end
theorem eqA42 (d : Nat) (w : World) (x0 y0 : Int) (x1 y1 : ByteArray) (x2 y2 : Int) :
    (Op.equalIn (d + 2) 42 (.agg #[.int .i64 x0, .string x1, .int .i64 x2]) (.agg #[.int .i64 y0, .string y1, .int .i64 y2])).run Try.prog w = .ok (x0 == y0 && (x1.toList == y1.toList && ((x2 == y2) && true))) w := by
  refine eqA_of Try.underlying42 (by kernel_rfl) ?_
  refine eqf_cons (by rfl) (by go_simp; rfl) (by go_simp; rfl) (by go_simp) ?_
  refine eqf_cons (by rfl) (by go_simp; rfl) (by go_simp; rfl) (by go_simp) ?_
  exact eqf_cons (by rfl) (by go_simp; rfl) (by go_simp; rfl) (by go_simp) eqf_nil
def E : TypeId → List Av → Bool
  | 42, [.sc (.int .i64 _), .sc (.str _), .sc (.int .i64 _)] => true
  | _, _ => false
theorem bytes_beq (a b : ByteArray) : (a == b) = (a.toList == b.toList) := by
  rw [ba_beq, ByteArray.toList_eq, ByteArray.toList_eq, Bool.eq_iff_iff, beq_iff_eq, beq_iff_eq, Array.toList_inj]
theorem eok : ∀ t xs ys, E t xs = true → E t ys = true → ∀ (m : Nat → Option Ent) (lb : Nat → Option Nat) (G : Nat → Nat → Prop) (w : World) (us vs : List Value) (b : Bool), eqCells xs ys = some b → ARs m lb G w xs us → ARs m lb G w ys vs →
    ∀ x y, ((eqGuard .eql t x y (.agg us.toArray) (.agg vs.toArray)).run Try.prog w = .ok () w ∧ (binOp .eql t (.agg us.toArray) (.agg vs.toArray)).run Try.prog w = .ok (.bool b) w) ∧
      ((eqGuard .neq t x y (.agg us.toArray) (.agg vs.toArray)).run Try.prog w = .ok () w ∧ (binOp .neq t (.agg us.toArray) (.agg vs.toArray)).run Try.prog w = .ok (.bool (!b)) w) := by
  intro t xs ys h1 h2 m lb G w us vs b hb hu hv x y
  unfold E at h1 h2
  split at h1
  · split at h2
    · simp only [ARs, AR, SR] at hu hv
      obtain ⟨_, _, rfl, rfl, _, _, rfl, rfl, _, _, rfl, rfl, rfl⟩ := hu
      obtain ⟨_, _, rfl, rfl, _, _, rfl, rfl, _, _, rfl, rfl, rfl⟩ := hv
      simp only [eqCells, eqSc, if_pos, Option.bind_some, Option.map_some, Option.some.injEq] at hb
      subst hb
      have e : ∀ op : BinOp, (op = .eql ∨ op = .neq) → Try.prog.eqGuardType Try.prog.depth 42 = false := fun _ _ => by kernel_rfl
      have g := e .eql (.inl rfl)
      simp only [bytes_beq]
      refine ⟨⟨?_, ?_⟩, ?_, ?_⟩
      · simp [eqGuard, program, Sem.run_bind, Sem.run, Result.andThen, g]
      · simp only [binOp, Op.equal, Op.maxDepth, Sem.run_bind]
        rw [eqA42 9998]
        rfl
      · simp [eqGuard, program, Sem.run_bind, Sem.run, Result.andThen, g]
      · simp only [binOp, Op.equal, Op.maxDepth, Sem.run_bind]
        rw [eqA42 9998]
        rfl
    · cases h2
  · cases h1
noncomputable def C : Cfg Try.prog where
  T := T
  tok := tok
  hone := hone
  E := E
  eok := eok
  mixed := by kernel_rfl
  pure := fun _ => false
  keep := fun _ => false
end Go.Am.Seat
/-
  Am, part V: what the walk of a region is unfolded by.
-/
namespace Go.Am.Seat
open Go.Proofs
attribute [go_sem] AwOps tThen_yes tThen_no tThen_lost bThen_true bThen_false oThen_some oThen_none aThen_true turn push isCall aop evA get constA aBin aBinE aArith aUn aConvE aConv aField aFieldV aMin aMax aEq aEqNil aExtract aBuiltin aCap aSrc aAlloc aBox aBuildSlice aFill aBuild
  isAggD unflat cellsA thenA_normal thenA_ret thenA_exit blockA_normal blockA_ret blockA_exit dstOk storeL
@[go_sem] theorem aLoad_c {T : TypeId → Option Ty} {ob : Nat → Obj} {t : TypeId} {cs : List Sc} : aLoad T ob t (.av (.sc (.cptr cs))) = (T t).bind fun y => if y.size ≤ cs.length then unflat y ((cs.take y.size).map .sc) else none := rfl
theorem ldA {T : TypeId → Option Ty} {ob : Nat → Obj} {t : TypeId} {id o fz : Nat} {l : List Av} (h : ob id = .cs l fz) : aLoad T ob t (.av (.ptr id o)) = (T t).bind fun y => if o + y.size ≤ l.length then unflat y ((l.drop o).take y.size) else none := by
  simp only [aLoad, h]
theorem stA {T : TypeId → Option Ty} {ob : Nat → Obj} {t : TypeId} {id o fz : Nat} {l : List Av} {v : Va} {cs : List Av} (h : ob id = .cs l fz) (hv : cellsA v = some cs) : aStore T ob t (.av (.ptr id o)) v = (T t).bind fun y => if cs.length = y.size ∧ fz ≤ o ∧ o + y.size ≤ l.length then some (upd ob id (.cs (storeL l o cs) fz)) else none := by
  simp only [aStore, hv, h]
theorem C_T : C.T = T := rfl
theorem C_E : C.E = E := rfl
attribute [go_sem] C_T C_E Option.bind_some Option.map_some Option.bind_none Option.map_none List.map_cons List.map_nil
theorem wrap_small (n : Int) (h1 : -4000000000000000000 ≤ n) (h2 : n ≤ 4000000000000000000) : IntKind.i64.wrap n = n := by
  simp [IntKind.wrap, IntKind.signed, IntKind.bits]
  omega
/-- Nothing that was there has changed. -/
abbrev Kp (s s1 : Me) : Prop := s.nx ≤ s1.nx ∧ (∀ i, i < s.nx → s1.ob i = s.ob i) ∧ s1.ls = s.ls
theorem Kp.refl (s : Me) : Kp s s := ⟨Nat.le_refl _, fun _ _ => rfl, rfl⟩
theorem Kp.up {s s1 : Me} (h : Kp s s1) {n : Nat} (hn : s1.nx ≤ n) : Kp s ⟨s1.ob, n, s1.ls⟩ := ⟨Nat.le_trans h.1 hn, h.2.1, h.2.2⟩
@[reducible] def vI (n : Int) : Va := .av (.sc (.int .i64 n))
@[reducible] def vB (b : Bool) : Va := .av (.sc (.bool b))

/-! ### Slices of plain data -/
/-- t is a slice that holds l; each of l takes up cells as enc says. -/
def GSl {α : Type} (enc : α → List Sc) (t : Sc) (l : List α) : Prop := (t = .nilsl ∧ l = []) ∨ t = .sl l.length (l.flatMap enc)
section
variable {α : Type} {enc : α → List Sc} {k : Nat}
theorem flat_len (hk : ∀ a, (enc a).length = k) : ∀ l : List α, (l.flatMap enc).length = l.length * k
  | [] => by simp
  | a :: l => by
    have := flat_len hk l
    simp only [List.flatMap_cons, List.length_append, hk, List.length_cons, this]
    rw [Nat.add_mul, Nat.one_mul, Nat.add_comm]
theorem flat_drop (hk : ∀ a, (enc a).length = k) : ∀ (l : List α) (i : Nat), (l.flatMap enc).drop (i * k) = (l.drop i).flatMap enc
  | l, 0 => by simp
  | [], i + 1 => by simp
  | a :: l, i + 1 => by
    simp only [List.flatMap_cons, List.drop_succ_cons]
    rw [show (i + 1) * k = (enc a).length + i * k by rw [hk, Nat.add_mul, Nat.one_mul, Nat.add_comm], List.drop_append]
    simp [flat_drop hk l i]
theorem flat_take (hk : ∀ a, (enc a).length = k) : ∀ (l : List α) (i : Nat), (l.flatMap enc).take (i * k) = (l.take i).flatMap enc
  | l, 0 => by simp
  | [], i + 1 => by simp
  | a :: l, i + 1 => by
    simp only [List.flatMap_cons, List.take_succ_cons]
    rw [show (i + 1) * k = (enc a).length + i * k by rw [hk, Nat.add_mul, Nat.one_mul, Nat.add_comm], List.take_length_add_append]
    simp [flat_take hk l i]
theorem flat_at (hk : ∀ a, (enc a).length = k) (l : List α) (i : Nat) (hi : i < l.length) : (l.flatMap enc).drop (i * k) = enc l[i] ++ (l.drop (i + 1)).flatMap enc := by
  rw [flat_drop hk, List.drop_eq_getElem_cons hi, List.flatMap_cons]
theorem len_g {t e : TypeId} {y : Ty} (hT : T t = some y) (hd : y.d = .slice e) {x : Sc} {l : List α} (h : GSl enc x l) (ob : Nat → Obj) : aLen T ob t (.av (.sc x)) = some (vI l.length) := by
  unfold aLen
  rw [hT]
  simp only [Option.bind_some, hd]
  rcases h with ⟨rfl, rfl⟩ | rfl <;> simp [vI]
theorem idx_g {t e : TypeId} {y z : Ty} (hT : T t = some y) (hd : y.d = .slice e) (he : T e = some z) (hz : z.size = k) (hk0 : k ≠ 0) (hk : ∀ a, (enc a).length = k) {x : Sc} {l : List α} (h : GSl enc x l) {i : Nat} (hi : i < l.length) :
    aIndex T t (.av (.sc x)) (vI i) = some (.av (.sc (.cptr (enc l[i] ++ (l.drop (i + 1)).flatMap enc)))) := by
  rcases h with ⟨rfl, rfl⟩ | rfl
  · simp at hi
  unfold aIndex vI
  simp only [hT, Option.bind_some, hd, he]
  rw [if_pos ⟨by omega, by omega, by rw [flat_len hk, hz], by rw [hz]; exact hk0⟩, hz, Int.toNat_natCast, flat_at hk l i hi]
theorem slc_g {t e : TypeId} {y z : Ty} (hT : T t = some y) (hd : y.d = .slice e) (he : T e = some z) (hz : z.size = k) (hk0 : k ≠ 0) (hk : ∀ a, (enc a).length = k) {x : Sc} {l : List α} (h : GSl enc x l) {lo hi : Option Va} {a b : Nat}
    (hlo : bnd lo 0 = some a) (hhi : bnd hi l.length = some b) (hab : a ≤ b) (hbl : b ≤ l.length) : ∃ x', aSlice T t (.av (.sc x)) lo hi = some (.av (.sc x')) ∧ GSl enc x' ((l.take b).drop a) := by
  unfold aSlice
  simp only [hT, Option.bind_some, hd]
  rcases h with ⟨rfl, rfl⟩ | rfl
  · simp at hbl
    subst hbl
    have : a = 0 := by omega
    subst this
    simp only [List.length_nil] at hhi
    simp only [he, Option.bind_some, hlo, hhi]
    exact ⟨.nilsl, by simp, .inl ⟨rfl, by simp⟩⟩
  · simp only [he, Option.bind_some, hlo, hhi]
    rw [if_pos ⟨hab, hbl, by rw [flat_len hk, hz], by rw [hz]; exact hk0⟩]
    refine ⟨_, rfl, .inr ?_⟩
    rw [hz, flat_drop hk, flat_take hk]
    have e1 : (l.drop a).take (b - a) = (l.take b).drop a := by rw [List.drop_take]
    rw [e1]
    congr 1
    simp
    omega

/-! ### Slices that grow -/
/-- x is a slice of our own (or none yet) whose cells are cs; its name lies from lo up to hi. -/
def Acc (lo hi : Nat) (ob : Nat → Obj) (x : Va) (n es : Nat) (cs : List Av) : Prop :=
  (x = .av (.sc .nilsl) ∧ n = 0 ∧ cs = []) ∨ (∃ id fz, x = .av (.own id 0 n es) ∧ lo ≤ id ∧ id < hi ∧ ob id = .cs cs fz ∧ fz ≤ cs.length ∧ cs.length = n * es)
theorem Acc.len {lo hi : Nat} {ob : Nat → Obj} {x : Va} {n es : Nat} {cs : List Av} (h : Acc lo hi ob x n es cs) {t e : TypeId} {y : Ty} (hT : T t = some y) (hd : y.d = .slice e) : aLen T ob t x = some (vI n) := by
  unfold aLen
  rw [hT]
  simp only [Option.bind_some, hd]
  rcases h with ⟨rfl, rfl, rfl⟩ | ⟨id, fz, rfl, _⟩ <;> simp [vI]
theorem Acc.up {lo hi hi' : Nat} {ob ob' : Nat → Obj} {x : Va} {n es : Nat} {cs : List Av} (h : Acc lo hi ob x n es cs) (hh : hi ≤ hi') (ho : ∀ i, lo ≤ i → i < hi → ob' i = ob i) : Acc lo hi' ob' x n es cs := by
  rcases h with h | ⟨id, fz, h1, h2, h3, h4, h5⟩
  · exact .inl h
  · exact .inr ⟨id, fz, h1, h2, by omega, by rw [ho id h2 h3]; exact h4, h5⟩
/-- What is appended. -/
theorem Acc.append {lo hi : Nat} {ob : Nat → Obj} {x : Va} {n es : Nat} {cs : List Av} (h : Acc lo hi ob x n es cs) {t e : TypeId} {y z : Ty} (hT : T t = some y) (hd : y.d = .slice e) (he : T e = some z) (hz : z.size = es) (hes : es ≠ 0) (hb : z.bytes ≤ 128)
    {src : Va} {k : Nat} {new : List Av} (hsrc : aSrc ob es src = some (k, new)) (hnew : new.length = k * es) (hn : n + k ≤ 1099511627776) {nid : Nat} (hnid : hi ≤ nid) (hlo : lo ≤ hi) :
    ∃ x' ob', aAppend T ob nid t x src = some (x', ob') ∧ Acc lo (nid + 1) ob' x' (n + k) es (cs ++ new) ∧ (∀ i, i < lo → ob' i = ob i) ∧ (∀ i, i ≠ nid → (∀ j, x = .av (.own j 0 n es) → i ≠ j) → ob' i = ob i) := by
  unfold aAppend
  simp only [hT, Option.bind_some, hd, he, hz, hsrc]
  rw [if_neg (by omega)]
  rcases h with ⟨rfl, rfl, rfl⟩ | ⟨id, fz, rfl, h2, h3, h4, h5, h6⟩
  · simp only
    by_cases hk : k = 0
    · subst hk
      rw [if_pos rfl]
      have hn0 : new = [] := by simpa using hnew
      subst hn0
      exact ⟨_, _, rfl, .inl ⟨rfl, rfl, rfl⟩, fun _ _ => rfl, fun _ _ _ => rfl⟩
    · rw [if_neg hk, if_pos (by omega)]
      refine ⟨_, _, rfl, .inr ⟨nid, 0, by simp, by omega, by omega, by simp, by omega, by simp [hnew]⟩, fun i hi => upd_ne _ _ (by omega), fun i hi _ => upd_ne _ _ hi⟩
  · simp only [h4]
    rw [if_pos ⟨trivial, by omega, by omega, hn⟩]
    by_cases hk : k = 0
    · subst hk
      rw [if_pos rfl]
      have hn0 : new = [] := by simpa using hnew
      subst hn0
      exact ⟨_, _, rfl, .inr ⟨id, fz, rfl, h2, by omega, by simpa using h4, by simpa using h5, by simpa using h6⟩, fun _ _ => rfl, fun _ _ _ => rfl⟩
    · rw [if_neg hk]
      refine ⟨_, _, rfl, .inr ⟨nid, fz - 0, rfl, by omega, by omega, ?_, ?_, ?_⟩, fun i hi => ?_, fun i hi hj => ?_⟩
      · rw [upd_same, List.drop_zero, List.take_of_length_le (by omega)]
      · simp; omega
      · rw [List.length_append, h6, hnew, Nat.add_mul]
      · rw [upd_ne _ _ (by omega), upd_ne _ _ (by omega)]
      · rw [upd_ne _ _ hi, upd_ne _ _ (hj id rfl)]
theorem awOps_append {P : Program} {C : Cfg P} {X : Fr} {pb : Bool} {gd : Nat → Option Tmp} {Q : Slots → Me → Prop} {o : Oper} {rest : List Oper} {sl : Slots} {ob : Nat → Obj} {nx : Nat} {ls : Nat → LSt} {d : Tmp}
    {lo hi : Nat} {x : Va} {n es : Nat} {cs : List Av} {t e : TypeId} {y z : Ty} {src : Va} {k : Nat} {new : List Av}
    (ht : turn gd sl o.guard = .yes) (hc : isCall o.op = false) (hd : o.dst = some d) (hop : aop C pb (evA sl) ob nx o.op = aAppend T ob nx t x src) (h : Acc lo hi ob x n es cs) (hT : T t = some y) (hyd : y.d = .slice e) (he : T e = some z) (hz : z.size = es) (hes : es ≠ 0) (hb : z.bytes ≤ 128)
    (hsrc : aSrc ob es src = some (k, new)) (hnew : new.length = k * es) (hn : n + k ≤ 1099511627776) (hnid : hi ≤ nx) (hlo : lo ≤ hi)
    (hk : ∀ x' ob', Acc lo (nx + 1) ob' x' (n + k) es (cs ++ new) → (∀ i, i < lo → ob' i = ob i) → (∀ i, i ≠ nx → (∀ j, x = .av (.own j 0 n es) → i ≠ j) → ob' i = ob i) → AwOps C X pb gd Q rest ((d, x') :: sl) ⟨ob', nx + 1, ls⟩) : AwOps C X pb gd Q (o :: rest) sl ⟨ob, nx, ls⟩ := by
  obtain ⟨x', ob', h1, h2, h3, h4⟩ := h.append hT hyd he hz hes hb hsrc hnew hn hnid hlo
  exact awOps_yes ht hc hd (hop.trans h1) (hk x' ob' h2 h3 h4)
theorem aSrc_g (hk : ∀ a, (enc a).length = k) {x : Sc} {l : List α} (h : GSl enc x l) (ob : Nat → Obj) : aSrc ob k (.av (.sc x)) = some (l.length, (l.flatMap enc).map .sc) := by
  rcases h with ⟨rfl, rfl⟩ | rfl
  · simp [aSrc]
  · simp [aSrc, flat_len hk]
theorem purL_plain {f : (Nat → Obj) → Av → Option (Sc × (Nat → Obj))} (hf : ∀ ob s, f ob (.sc s) = some (s, ob)) (ob : Nat → Obj) : ∀ l : List Sc, purL f ob (l.map .sc) = some (l, ob)
  | [] => rfl
  | a :: l => by simp [purL, hf, purL_plain hf ob l]
/-- It is made plain. -/
theorem Acc.pure {lo hi : Nat} {ob : Nat → Obj} {x : Va} {l : List α} (hk : ∀ a, (enc a).length = k) (h : Acc lo hi ob x l.length k ((l.flatMap enc).map .sc)) :
    ∃ t ob', purV ob x = some (.av (.sc t), ob') ∧ GSl enc t l ∧ Acc lo hi ob' x l.length k ((l.flatMap enc).map .sc) ∧ (∀ i, i < lo → ob' i = ob i) ∧ (∀ i, (∀ j, x = .av (.own j 0 l.length k) → i ≠ j) → ob' i = ob i) := by
  rcases h with ⟨rfl, h1, h2⟩ | ⟨id, fz, rfl, h2, h3, h4, h5, h6⟩
  · have : l = [] := List.length_eq_zero_iff.1 h1
    subst this
    exact ⟨.nilsl, ob, by simp [purV, pur, purD], .inl ⟨rfl, rfl⟩, .inl ⟨rfl, h1, h2⟩, fun _ _ => rfl, fun _ _ => rfl⟩
  · have hlen : ((l.flatMap enc).map Av.sc).length = l.length * k := by rw [List.length_map, flat_len hk]
    refine ⟨.sl l.length (l.flatMap enc), upd ob id (.cs ((l.flatMap enc).map .sc) (max fz (0 + l.length * k))), ?_, .inr rfl, .inr ⟨id, _, rfl, h2, h3, upd_same _ _ _, by omega, h6⟩, fun i hi => ?_, fun i hi => ?_⟩
    rotate_left 1
    · exact upd_ne _ _ (by omega)
    · exact upd_ne _ _ (hi id rfl)
    · simp only [purV, purD, pur, h4]
      rw [if_pos (by omega), List.drop_zero, List.take_of_length_le (by omega), purL_plain (fun ob s => by simp [pur])]
      rfl
end
/-! ### The kinds of slices there are -/
structure Cell where
  kind : Int
  name : ByteArray
  n : Int
def encI (i : Int) : List Sc := [.int .i64 i]
def encC (c : Cell) : List Sc := [.int .i64 c.kind, .str c.name, .int .i64 c.n]
def encT (t : Sc) : List Sc := [t]
/-- A binding: its variable, its term's slice. -/
structure Bnd where
  v : Int
  t : Sc
def encB (b : Bnd) : List Sc := [.int .i64 b.v, b.t]
theorem lenI {x : Sc} {l : List Int} (h : GSl encI x l) (ob : Nat → Obj) : aLen T ob 36 (.av (.sc x)) = some (vI l.length) := len_g T36 rfl h ob
theorem idxI {x : Sc} {l : List Int} (h : GSl encI x l) {i : Nat} (hi : i < l.length) : aIndex T 36 (.av (.sc x)) (vI i) = some (.av (.sc (.cptr (.int .i64 l[i] :: (l.drop (i + 1)).flatMap encI)))) :=
  idx_g T36 rfl T3 rfl (by simp) (k := 1) (fun _ => rfl) h hi
theorem lenC {x : Sc} {l : List Cell} (h : GSl encC x l) (ob : Nat → Obj) : aLen T ob 22 (.av (.sc x)) = some (vI l.length) := len_g T22 rfl h ob
theorem idxC {x : Sc} {l : List Cell} (h : GSl encC x l) {i : Nat} (hi : i < l.length) :
    aIndex T 22 (.av (.sc x)) (vI i) = some (.av (.sc (.cptr (.int .i64 l[i].kind :: .str l[i].name :: .int .i64 l[i].n :: (l.drop (i + 1)).flatMap encC)))) := idx_g T22 rfl T42 rfl (by simp) (k := 3) (fun _ => rfl) h hi
theorem lenB {x : Sc} {l : List Bnd} (h : GSl encB x l) (ob : Nat → Obj) : aLen T ob 25 (.av (.sc x)) = some (vI l.length) := len_g T25 rfl h ob
theorem idxB {x : Sc} {l : List Bnd} (h : GSl encB x l) {i : Nat} (hi : i < l.length) : aIndex T 25 (.av (.sc x)) (vI i) = some (.av (.sc (.cptr (.int .i64 l[i].v :: l[i].t :: (l.drop (i + 1)).flatMap encB)))) :=
  idx_g T25 rfl T39 rfl (by simp) (k := 2) (fun _ => rfl) h hi
theorem lenT {x : Sc} {l : List Sc} (h : GSl encT x l) (ob : Nat → Obj) : aLen T ob 40 (.av (.sc x)) = some (vI l.length) := len_g T40 rfl h ob
theorem idxT {x : Sc} {l : List Sc} (h : GSl encT x l) {i : Nat} (hi : i < l.length) : aIndex T 40 (.av (.sc x)) (vI i) = some (.av (.sc (.cptr (l[i] :: (l.drop (i + 1)).flatMap encT)))) :=
  idx_g T40 rfl T22 rfl (by simp) (k := 1) (fun _ => rfl) h hi
theorem lenS (s : ByteArray) (ob : Nat → Obj) : aLen T ob 9 (.av (.sc (.str s))) = some (vI s.size) := rfl
theorem idxS {s : ByteArray} {i : Nat} (hi : i < s.data.toList.length) : aIndexV T 9 (.av (.sc (.str s))) (vI i) = some (.av (.sc (.int .u8 (s.data.toList[i].toNat : Int)))) := by
  have h : i < s.size := by simpa using hi
  have e : s[i]? = some s[i] := getElem?_pos s i h
  unfold aIndexV
  simp only [vI, T9, Option.bind_some, y9, Int.toNat_natCast, e, Option.map_some, Int.natCast_nonneg, if_true]
  rfl
attribute [go_sem] List.take_succ_cons List.take_zero List.drop_succ_cons List.drop_zero List.length_cons List.length_nil Nat.le_add_left upd_same nthO List.nil_append List.append_nil List.cons_append
attribute [go_sem] vI vB CallT SilOps implies_true
end Go.Am.Seat
/-
  Am, part W: regions that draw their order and change the store; a function that changes the store in a way that is known; rows of numbers of our own.
-/
namespace Go.Am
section
variable {P : Program} {C : Cfg P} {X : Fr} {pb : Bool} {ops : Array Oper} {f : Nat} {E : List Nat} {st : Nat → Me} {base : Nat}
def stages (ops : Array Oper) (f : Nat) (E : List Nat) (i : Nat) : List Nat := (List.range (E.length + 1)).filter fun k => stageOk ops f i k E 0
def DraOps (C : Cfg P) (X : Fr) (pb : Bool) (ops : Array Oper) (f : Nat) (E : List Nat) (st : Nat → Me) (gd : Nat → Option Tmp) (base : Nat) (K : Slots → Prop) : List Oper → Nat → Slots → Prop
  | [], _, sl => K sl
  | o :: l, i, sl => match turn gd sl o.guard with
    | .yes => ∃ v, (match whichE E i 0 with
        | some q => OpAt C X pb o (base + i) sl (st q) fun v' s' => v' = v ∧ Same s' (st (q + 1))
        | none => Each (fun k => OpAt C X pb o (base + i) sl (st k) fun v' s' => v' = v ∧ Same s' (st k)) (stages ops f E i)) ∧ DraOps C X pb ops f E st gd base K l (i + 1) (push o.dst v sl)
    | .no => whichE E i 0 = none ∧ DraOps C X pb ops f E st gd base K l (i + 1) (push o.dst (.tup []) sl)
    | .lost => False
theorem dra_of {K : Slots → Prop} : ∀ (l : List Oper) (i : Nat) (sl : Slots), DraOps C X pb ops f E st (fun j => (ops[j]?).bind (·.dst)) base K l i sl →
    ∃ vals : Nat → Va, ∀ vals' : Nat → Va, (∀ j, i ≤ j → vals' j = vals j) → AnyOps C X pb ops f E vals' st base l i sl ∧ K (slP vals' l i sl)
  | [], i, sl, h => ⟨fun _ => .und, fun _ _ => ⟨trivial, h⟩⟩
  | o :: l, i, sl, h => by
    have step : ∀ v, (∀ vals' : Nat → Va, vals' i = v → AnyOp C X pb ops f E vals' st base i o sl) → DraOps C X pb ops f E st (fun j => (ops[j]?).bind (·.dst)) base K l (i + 1) (push o.dst v sl) →
        ∃ vals : Nat → Va, ∀ vals' : Nat → Va, (∀ j, i ≤ j → vals' j = vals j) → AnyOps C X pb ops f E vals' st base (o :: l) i sl ∧ K (slP vals' (o :: l) i sl) := by
      intro v h1 h2
      obtain ⟨vals, hv⟩ := dra_of l (i + 1) _ h2
      refine ⟨fun j => if j = i then v else vals j, fun vals' hv' => ?_⟩
      have hi : vals' i = v := by rw [hv' i (Nat.le_refl _)]; exact if_pos rfl
      obtain ⟨h3, h4⟩ := hv vals' fun j hj => by rw [hv' j (by omega)]; exact if_neg (by omega)
      simp only [AnyOps, slP, hi]
      exact ⟨⟨h1 vals' hi, h3⟩, h4⟩
    simp only [DraOps] at h
    split at h
    · rename_i hy
      obtain ⟨v, h1, h2⟩ := h
      refine step v (fun vals' hv => ?_) h2
      unfold AnyOp
      rw [hy, hv]
      exact h1
    · rename_i hy
      refine step (.tup []) (fun vals' hv => ?_) h.2
      unfold AnyOp
      rw [hy]
      exact ⟨hv, h.1⟩
    · exact h.elim
section
variable {gd : Nat → Option Tmp} {K : Slots → Prop} {o : Oper} {l : List Oper} {i : Nat} {sl : Slots} {t : Tmp}
theorem dra_nil (h : K sl) : DraOps C X pb ops f E st gd base K [] i sl := h
/-- An operation that changes nothing; ks: where it may stand among what changes the store. -/
def SilAt (C : Cfg P) (pb : Bool) (ev : Operand → Va) (st : Nat → Me) (nid : Nat) (op : Op) (v : Va) : List Nat → Prop
  | [] => True
  | k :: ks => (∃ ob', aop C pb ev (st k).ob nid op = some (v, ob') ∧ ∀ j, ob' j = (st k).ob j) ∧ SilAt C pb ev st nid op v ks
theorem each_sil {v : Va} (hc : isCall o.op = false) : ∀ {ks : List Nat}, SilAt C pb (evA sl) st (base + i) o.op v ks → Each (fun k => OpAt C X pb o (base + i) sl (st k) fun v' s' => v' = v ∧ Same s' (st k)) ks
  | [], _ => trivial
  | k :: ks, ⟨⟨ob', h1, h2⟩, h3⟩ => ⟨by
    unfold OpAt
    rw [hc]
    simp only [h1]
    exact ⟨trivial, h2, Nat.le_refl _, rfl⟩, each_sil hc h3⟩
theorem dra_yes {v : Va} (ks : List Nat) (ht : turn gd sl o.guard = .yes) (hc : isCall o.op = false) (hd : o.dst = some t) (hE : whichE E i 0 = none) (hs : stages ops f E i = ks) (ha : SilAt C pb (evA sl) st (base + i) o.op v ks)
    (h : DraOps C X pb ops f E st gd base K l (i + 1) ((t, v) :: sl)) : DraOps C X pb ops f E st gd base K (o :: l) i sl := by
  simp only [DraOps, ht, hE, hs]
  refine ⟨v, each_sil hc ha, ?_⟩
  rw [hd]
  exact h
theorem dra_no (ht : turn gd sl o.guard = .no) (hd : o.dst = some t) (hE : whichE E i 0 = none) (h : DraOps C X pb ops f E st gd base K l (i + 1) ((t, .tup []) :: sl)) : DraOps C X pb ops f E st gd base K (o :: l) i sl := by
  simp only [DraOps, ht]
  refine ⟨hE, ?_⟩
  rw [hd]
  exact h
theorem dra_eff {v : Va} {q : Nat} {ob' : Nat → Obj} (ht : turn gd sl o.guard = .yes) (hc : isCall o.op = false) (hd : o.dst = some t) (hE : whichE E i 0 = some q) (ha : aop C pb (evA sl) (st q).ob (base + i) o.op = some (v, ob'))
    (hob : ∀ j, ob' j = (st (q + 1)).ob j) (hx : (st q).nx ≤ (st (q + 1)).nx ∧ (st q).ls = (st (q + 1)).ls) (h : DraOps C X pb ops f E st gd base K l (i + 1) ((t, v) :: sl)) : DraOps C X pb ops f E st gd base K (o :: l) i sl := by
  simp only [DraOps, ht, hE]
  refine ⟨v, ?_, ?_⟩
  · unfold OpAt
    rw [hc]
    simp only [ha]
    exact ⟨trivial, hob, hx.1, hx.2⟩
  · rw [hd]
    exact h
theorem dra_eff0 {v : Va} {q : Nat} {ob' : Nat → Obj} (ht : turn gd sl o.guard = .yes) (hc : isCall o.op = false) (hd : o.dst = none) (hE : whichE E i 0 = some q) (ha : aop C pb (evA sl) (st q).ob (base + i) o.op = some (v, ob'))
    (hob : ∀ j, ob' j = (st (q + 1)).ob j) (hx : (st q).nx ≤ (st (q + 1)).nx ∧ (st q).ls = (st (q + 1)).ls) (h : DraOps C X pb ops f E st gd base K l (i + 1) sl) : DraOps C X pb ops f E st gd base K (o :: l) i sl := by
  simp only [DraOps, ht, hE]
  refine ⟨v, ?_, ?_⟩
  · unfold OpAt
    rw [hc]
    simp only [ha]
    exact ⟨trivial, hob, hx.1, hx.2⟩
  · rw [hd]
    exact h
/-- A call that changes the store in a way that is known. -/
theorem dra_call {v : Va} {q : Nat} (ht : turn gd sl o.guard = .yes) (hc : isCall o.op = true) (hd : o.dst = some t) (hE : whichE E i 0 = some q) (ha : CallT P X.L o.op (evA sl) (st q) fun v' s' => v' = v ∧ s' = st (q + 1))
    (h : DraOps C X pb ops f E st gd base K l (i + 1) ((t, v) :: sl)) : DraOps C X pb ops f E st gd base K (o :: l) i sl := by
  simp only [DraOps, ht, hE]
  refine ⟨v, ?_, ?_⟩
  · unfold OpAt
    rw [hc]
    exact callT_mono ha fun v' s' ⟨h1, h2⟩ => ⟨h1, h2 ▸ Same.refl _⟩
  · rw [hd]
    exact h
/-- A call that changes nothing. -/
def CallAt (P : Program) (L : Loops) (ev : Operand → Va) (st : Nat → Me) (op : Op) (v : Va) : List Nat → Prop
  | [] => True
  | k :: ks => CallT P L op ev (st k) (fun v' s' => v' = v ∧ s' = st k) ∧ CallAt P L ev st op v ks
theorem each_call {v : Va} (hc : isCall o.op = true) : ∀ {ks : List Nat}, CallAt P X.L (evA sl) st o.op v ks → Each (fun k => OpAt C X pb o (base + i) sl (st k) fun v' s' => v' = v ∧ Same s' (st k)) ks
  | [], _ => trivial
  | k :: ks, ⟨h1, h3⟩ => ⟨by
    unfold OpAt
    rw [hc]
    exact callT_mono h1 fun v' s' ⟨h1, h2⟩ => ⟨h1, h2 ▸ Same.refl _⟩, each_call hc h3⟩
theorem dra_callsil {v : Va} (ks : List Nat) (ht : turn gd sl o.guard = .yes) (hc : isCall o.op = true) (hd : o.dst = some t) (hE : whichE E i 0 = none) (hs : stages ops f E i = ks) (ha : CallAt P X.L (evA sl) st o.op v ks)
    (h : DraOps C X pb ops f E st gd base K l (i + 1) ((t, v) :: sl)) : DraOps C X pb ops f E st gd base K (o :: l) i sl := by
  simp only [DraOps, ht, hE, hs]
  refine ⟨v, each_call hc ha, ?_⟩
  rw [hd]
  exact h
end
def osL : List (Nat → Obj) → Nat → Nat → Obj
  | [], _ => fun _ => .dead
  | o :: _, 0 => o
  | _ :: l, k + 1 => osL l k
section
variable {a b c d e f g : Nat → Obj} {l : List (Nat → Obj)}
theorem osL_0 : osL (a :: l) 0 = a := rfl
theorem osL_1 : osL (a :: b :: l) 1 = b := rfl
theorem osL_2 : osL (a :: b :: c :: l) 2 = c := rfl
theorem osL_3 : osL (a :: b :: c :: d :: l) 3 = d := rfl
theorem osL_4 : osL (a :: b :: c :: d :: e :: l) 4 = e := rfl
theorem osL_5 : osL (a :: b :: c :: d :: e :: f :: l) 5 = f := rfl
theorem osL_6 : osL (a :: b :: c :: d :: e :: f :: g :: l) 6 = g := rfl
end
/-- **A region that draws its order and changes the store.** E: what changes it, in order; os: the store at first, and behind each of E. -/
theorem aw_dra (C : Cfg P) {pb : Bool} {id : Nat} {ops : Array Oper} {Q : Exit → Slots → Me → Prop} {sl : Slots} {ob : Nat → Obj} {nx : Nat} {ls : Nat → LSt} (f : Nat) (E : List Nat) (os : List (Nat → Obj))
    (hd : dstOk X.nt ops.toList = true) (hok : regOk ops f = true) (hE : effOk ops f E = true) (hsz : ops.size = f) (h0 : ∀ i, i < nx → osL os 0 i = ob i)
    (h : DraOps C X pb ops f E (fun k => ⟨osL os k, nx + f, ls⟩) (nthO (ops.toList.map (·.dst))) nx (fun sl' => Q .normal sl' ⟨osL os E.length, nx + f, ls⟩) ops.toList 0 sl) : AW P X (.region id ops true) Q sl ⟨ob, nx, ls⟩ := by
  rw [nthO_of] at h
  obtain ⟨vals, hv⟩ := dra_of ops.toList 0 sl h
  obtain ⟨h1, h2⟩ := hv vals fun _ _ => rfl
  exact aw_any C f E vals (fun k => ⟨osL os k, nx + f, ls⟩) hd hok hE (fun _ => by simp only [hsz]; exact Nat.le_refl _) ⟨h0, rfl⟩ h1 h2
theorem aw_dra_seq (C : Cfg P) {pb : Bool} {id : Nat} {ops : Array Oper} {y : Code} {Q : Exit → Slots → Me → Prop} {sl : Slots} {ob : Nat → Obj} {nx : Nat} {ls : Nat → LSt} (f : Nat) (E : List Nat) (os : List (Nat → Obj))
    (hd : dstOk X.nt ops.toList = true) (hok : regOk ops f = true) (hE : effOk ops f E = true) (hsz : ops.size = f) (h0 : ∀ i, i < nx → osL os 0 i = ob i)
    (h : ∀ K : Slots → Prop, (∀ sl', AW P X y Q sl' ⟨osL os E.length, nx + f, ls⟩ → K sl') → DraOps C X pb ops f E (fun k => ⟨osL os k, nx + f, ls⟩) (nthO (ops.toList.map (·.dst))) nx K ops.toList 0 sl) : AW P X ((Code.region id ops true).seq y) Q sl ⟨ob, nx, ls⟩ :=
  aw_seq (aw_dra C f E os hd hok hE hsz h0 (h _ fun _ h => h))
end
/-- A function that turns the store in a way that is known, and leaves nothing else behind. -/
theorem FnL.pureM {P : Program} {L : Loops} {f : FuncId} {args : List Va} {s : Me} {R : Va → Prop} (ob' : Nat → Obj) (ho : ∀ i, i < s.nx → ob' i = s.ob i ∨ (ob' i).plain = true) (h : FnL P L f args s fun r s' => r.plain = true ∧ (∀ i, i < s.nx → s'.ob i = ob' i) ∧ s'.ls = s.ls ∧ R r) :
    FnL P L f args s fun r s'' => R r ∧ s'' = ⟨ob', s.nx, s.ls⟩ := by
  have h1 := FnL.forget (R := fun r s' => (∀ i, i < s.nx → s'.ob i = ob' i) ∧ s'.ls = s.ls ∧ R r) (h.mono fun r s' ⟨h1, h2, h3⟩ => ⟨h1, fun i hi => by rw [h2 i hi]; exact ho i hi, h2, h3⟩)
  intro m G w vs hv hw
  refine CallsIn.mono (h1 m G w vs hv hw) fun e w' he => ?_
  obtain ⟨v, r, s'', m', G', rfl, ⟨s', ⟨h2, h3, h4⟩, rfl⟩, h5, h6, h7, h8, h9⟩ := he
  exact ⟨v, r, _, m', G', rfl, ⟨h4, rfl⟩, h5, h6.agree (fun i hi => (h2 i (h6.lt hi)).symm) (Nat.le_refl _) h3.symm, h7, Nat.le_refl _, h9⟩
namespace Seat
/-! ### Rows of numbers of our own -/
def arr (n : Nat) (f : Nat → Int) : List Av := (List.range n).map fun i => .sc (.int .i64 (f i))
def arrN (n : Nat) (f : Nat → Nat) : List Av := arr n fun i => (f i : Int)
theorem arr_len {n : Nat} {f : Nat → Int} : (arr n f).length = n := by simp [arr]
theorem arrN_len {n : Nat} {f : Nat → Nat} : (arrN n f).length = n := arr_len
theorem arr_congr {n : Nat} {f g : Nat → Int} (h : ∀ i, i < n → f i = g i) : arr n f = arr n g := List.map_congr_left fun i hi => by rw [h i (List.mem_range.1 hi)]
theorem arr_set {n : Nat} {f : Nat → Int} {i : Nat} {v : Int} : (arr n f).set i (.sc (.int .i64 v)) = arr n (upd f i v) := by
  apply List.ext_getElem?
  intro j
  simp only [arr, List.getElem?_set, List.length_map, List.length_range, List.getElem?_map, List.getElem?_range]
  by_cases h : i = j
  · subst h
    by_cases hn : i < n
    · simp [hn, List.getElem?_range, upd]
    · simp [hn, List.getElem?_range]
  · by_cases hn : j < n
    · simp [h, hn, List.getElem?_range, upd, show ¬ j = i from fun e => h e.symm]
    · simp [h, hn, List.getElem?_range]
theorem arr_push {n : Nat} {f : Nat → Int} {v : Int} : arr n f ++ [.sc (.int .i64 v)] = arr (n + 1) (upd f n v) := by
  simp only [arr, List.range_succ, List.map_append, List.map_cons, List.map_nil, upd_same]
  congr 1
  exact List.map_congr_left fun i hi => by rw [upd_ne _ _ (by have := List.mem_range.1 hi; omega)]
theorem upd_cast {f : Nat → Nat} {i v : Nat} : (upd (fun i => ((f i : Nat) : Int)) i ((v : Nat) : Int)) = fun j => ((upd f i v j : Nat) : Int) := by
  funext j
  simp only [upd]
  split <;> rfl
theorem ixO {id n i : Nat} (hi : i < n) : aIndex T 36 (.av (.own id 0 n 1)) (vI i) = some (.av (.ptr id i)) := by
  unfold aIndex
  simp only [T36, Option.bind_some, y36, T3, y3]
  rw [if_pos ⟨trivial, by omega, by omega⟩]
  simp
theorem ldO {ob : Nat → Obj} {id n i fz : Nat} {f : Nat → Int} (h : ob id = .cs (arr n f) fz) (hi : i < n) : aLoad T ob 3 (.av (.ptr id i)) = some (vI (f i)) := by
  unfold aLoad
  simp only [T3, Option.bind_some, h, y3, arr_len]
  rw [if_pos (by omega), List.drop_eq_getElem_cons (by rw [arr_len]; exact hi)]
  simp [unflat, isAggD, arr]
theorem ldN {ob : Nat → Obj} {id n i fz : Nat} {f : Nat → Nat} (h : ob id = .cs (arrN n f) fz) (hi : i < n) : aLoad T ob 3 (.av (.ptr id i)) = some (vI ((f i : Nat) : Int)) := ldO (f := fun i => (f i : Int)) h hi
theorem stO {ob : Nat → Obj} {id n i fz : Nat} {f : Nat → Int} (h : ob id = .cs (arr n f) fz) (hi : i < n) (hf : fz ≤ i) (v : Int) : aStore T ob 3 (.av (.ptr id i)) (vI v) = some (upd ob id (.cs (arr n (upd f i v)) fz)) := by
  unfold aStore
  simp only [vI, cellsA, T3, Option.bind_some, h, y3, arr_len, storeL, arr_set, List.length_cons, List.length_nil]
  rw [if_pos ⟨trivial, hf, by omega⟩]
theorem stN {ob : Nat → Obj} {id n i fz : Nat} {f : Nat → Nat} (h : ob id = .cs (arrN n f) fz) (hi : i < n) (hf : fz ≤ i) (v : Nat) : aStore T ob 3 (.av (.ptr id i)) (vI ((v : Nat) : Int)) = some (upd ob id (.cs (arrN n (upd f i v)) fz)) := by
  rw [stO (f := fun i => (f i : Int)) h hi hf, upd_cast]
  rfl
theorem stNc {ob : Nat → Obj} {id n i fz : Nat} {f : Nat → Nat} (h : ob id = .cs (arrN n f) fz) (hi : i < n) (hf : fz ≤ i) (v : Nat) {c : Int} (hc : (v : Int) = c) : aStore T ob 3 (.av (.ptr id i)) (vI c) = some (upd ob id (.cs (arrN n (upd f i v)) fz)) := by
  subst hc
  exact stN h hi hf v
theorem arr_plain {n fz : Nat} {f : Nat → Int} : (Obj.cs (arr n f) fz).plain = true := by simp [Obj.plain, arr, Av.plain]
theorem arrN_plain {n fz : Nat} {f : Nat → Nat} : (Obj.cs (arrN n f) fz).plain = true := arr_plain
theorem upd_plain {ob : Nat → Obj} {id : Nat} {o : Obj} (h : o.plain = true) (i : Nat) : upd ob id o i = ob i ∨ (upd ob id o i).plain = true := if h' : i = id then .inr (by rw [h', upd_same]; exact h) else .inl (upd_ne _ _ h')
/-! ### Slices that grow, with room behind -/
def AccL (lo hi : Nat) (ob : Nat → Obj) (x : Va) (n es : Nat) (cs : List Av) : Prop :=
  (x = .av (.sc .nilsl) ∧ n = 0 ∧ cs = []) ∨ (∃ id fz l, x = .av (.own id 0 n es) ∧ lo ≤ id ∧ id < hi ∧ ob id = .cs l fz ∧ fz ≤ n * es ∧ l.take (n * es) = cs ∧ n * es ≤ l.length)
theorem AccL.up {lo hi hi' : Nat} {ob ob' : Nat → Obj} {x : Va} {n es : Nat} {cs : List Av} (h : AccL lo hi ob x n es cs) (hh : hi ≤ hi') (ho : ∀ i, lo ≤ i → i < hi → ob' i = ob i) : AccL lo hi' ob' x n es cs := by
  rcases h with h | ⟨id, fz, l, h1, h2, h3, h4, h5⟩
  · exact .inl h
  · exact .inr ⟨id, fz, l, h1, h2, by omega, by rw [ho id h2 h3]; exact h4, h5⟩
theorem AccL.low {lo lo' hi : Nat} {ob : Nat → Obj} {x : Va} {n es : Nat} {cs : List Av} (h : AccL lo hi ob x n es cs) (hl : lo' ≤ lo) : AccL lo' hi ob x n es cs := by
  rcases h with h | ⟨id, fz, l, h1, h2, h3, h4, h5⟩
  · exact .inl h
  · exact .inr ⟨id, fz, l, h1, by omega, h3, h4, h5⟩
theorem AccL.append {lo hi : Nat} {ob : Nat → Obj} {x : Va} {n es : Nat} {cs : List Av} (h : AccL lo hi ob x n es cs) {t e : TypeId} {y z : Ty} (hT : T t = some y) (hd : y.d = .slice e) (he : T e = some z) (hz : z.size = es) (hes : es ≠ 0) (hb : z.bytes ≤ 128)
    {src : Va} {k : Nat} {new : List Av} (hsrc : aSrc ob es src = some (k, new)) (hnew : new.length = k * es) (hn : n + k ≤ 1099511627776) {nid : Nat} (hnid : hi ≤ nid) (hlo : lo ≤ hi) :
    ∃ x' ob', aAppend T ob nid t x src = some (x', ob') ∧ AccL lo (nid + 1) ob' x' (n + k) es (cs ++ new) ∧ (∀ i, i < lo → ob' i = ob i) := by
  unfold aAppend
  simp only [hT, Option.bind_some, hd, he, hz, hsrc]
  rw [if_neg (by omega)]
  rcases h with ⟨rfl, rfl, rfl⟩ | ⟨id, fz, l, rfl, h2, h3, h4, h5, h6, h7⟩
  · simp only
    by_cases hk : k = 0
    · subst hk
      rw [if_pos rfl]
      have hn0 : new = [] := by simpa using hnew
      subst hn0
      exact ⟨_, _, rfl, .inl ⟨rfl, rfl, rfl⟩, fun _ _ => rfl⟩
    · rw [if_neg hk, if_pos (by omega)]
      refine ⟨_, _, rfl, .inr ⟨nid, 0, _, by simp, by omega, by omega, upd_same _ _ _, by omega, by rw [List.nil_append, List.take_of_length_le (by rw [hnew]; simp)], by rw [hnew]; simp⟩, fun i hi => upd_ne _ _ (by omega)⟩
  · simp only [h4]
    rw [if_pos ⟨trivial, by omega, by omega, hn⟩]
    by_cases hk : k = 0
    · subst hk
      rw [if_pos rfl]
      have hn0 : new = [] := by simpa using hnew
      subst hn0
      exact ⟨_, _, rfl, .inr ⟨id, fz, l, rfl, h2, by omega, h4, by simpa using h5, by simpa using h6, by simpa using h7⟩, fun _ _ => rfl⟩
    · rw [if_neg hk]
      have hle : (l.take (n * es)).length = n * es := by rw [List.length_take]; omega
      have hm : (n + k) * es = n * es + k * es := Nat.add_mul _ _ _
      refine ⟨_, _, rfl, .inr ⟨nid, fz - 0, _, rfl, by omega, by omega, upd_same _ _ _, by omega, ?_, ?_⟩, fun i hi => ?_⟩
      · rw [List.drop_zero, List.take_of_length_le (by rw [List.length_append, hle, hnew, hm]; exact Nat.le_refl _), h6]
      · rw [List.drop_zero, List.length_append, hle, hnew, hm]; exact Nat.le_refl _
      · rw [upd_ne _ _ (by omega), upd_ne _ _ (by omega)]
theorem AccL.pure {α : Type} {enc : α → List Sc} {k : Nat} {lo hi : Nat} {ob : Nat → Obj} {x : Va} {l : List α} (hk : ∀ a, (enc a).length = k) (h : AccL lo hi ob x l.length k ((l.flatMap enc).map .sc)) :
    ∃ t ob', purV ob x = some (.av (.sc t), ob') ∧ GSl enc t l ∧ (∀ i, i < lo → ob' i = ob i) := by
  rcases h with ⟨rfl, h1, h2⟩ | ⟨id, fz, c, rfl, h2, h3, h4, h5, h6, h7⟩
  · have : l = [] := List.length_eq_zero_iff.1 h1
    subst this
    exact ⟨.nilsl, ob, by simp [purV, pur, purD], .inl ⟨rfl, rfl⟩, fun _ _ => rfl⟩
  · refine ⟨.sl l.length (l.flatMap enc), upd ob id (.cs c (max fz (0 + l.length * k))), ?_, .inr rfl, fun i hi => ?_⟩
    rotate_left 1
    · exact upd_ne _ _ (by omega)
    · simp only [purV, purD, pur, h4]
      rw [if_pos (by omega), List.drop_zero, h6, purL_plain (fun ob s => by simp [pur])]
      rfl
theorem awOps_appendL {P : Program} {C : Cfg P} {X : Fr} {pb : Bool} {gd : Nat → Option Tmp} {Q : Slots → Me → Prop} {o : Oper} {rest : List Oper} {sl : Slots} {ob : Nat → Obj} {nx : Nat} {ls : Nat → LSt} {d : Tmp}
    {lo hi : Nat} {x : Va} {n es : Nat} {cs : List Av} {t e : TypeId} {y z : Ty} {src : Va} {k : Nat} {new : List Av}
    (ht : turn gd sl o.guard = .yes) (hc : isCall o.op = false) (hd : o.dst = some d) (hop : aop C pb (evA sl) ob nx o.op = aAppend T ob nx t x src) (h : AccL lo hi ob x n es cs) (hT : T t = some y) (hyd : y.d = .slice e) (he : T e = some z) (hz : z.size = es) (hes : es ≠ 0) (hb : z.bytes ≤ 128)
    (hsrc : aSrc ob es src = some (k, new)) (hnew : new.length = k * es) (hn : n + k ≤ 1099511627776) (hnid : hi ≤ nx) (hlo : lo ≤ hi)
    (hk : ∀ x' ob', AccL lo (nx + 1) ob' x' (n + k) es (cs ++ new) → (∀ i, i < lo → ob' i = ob i) → AwOps C X pb gd Q rest ((d, x') :: sl) ⟨ob', nx + 1, ls⟩) : AwOps C X pb gd Q (o :: rest) sl ⟨ob, nx, ls⟩ := by
  obtain ⟨x', ob', h1, h2, h3⟩ := h.append hT hyd he hz hes hb hsrc hnew hn hnid hlo
  exact awOps_yes ht hc hd (hop.trans h1) (hk x' ob' h2 h3)
theorem appZ22 {ob : Nat → Obj} {nid : Nat} {n : Int} (h0 : 0 < n) (h1 : n ≤ 1099511627776) : aAppendZ T ob nid 22 3 (.av (.sc .nilsl)) (vI n) = some (.av (.own nid 0 n.toNat 3), upd ob nid (.cs (zerosA y42.zero (n.toNat * 3)) 0)) := by
  unfold aAppendZ
  simp only [vI, T22, T3, Option.bind_some, y22, y3, T42]
  rw [if_pos ⟨h0, h1, by simp [y42], by simp [y42]⟩]
  simp [y42]
theorem slcO22 {id n : Nat} {k : Nat} (h : k ≤ n) : aSlice T 22 (.av (.own id 0 n 3)) none (some (vI k)) = some (.av (.own id 0 k 3)) := by
  unfold aSlice
  simp only [T22, Option.bind_some, y22, T42, bnd, vI]
  rw [if_pos (by omega)]
  simp only [Option.bind_some, Int.toNat_natCast]
  rw [if_pos ⟨by simp [y42], Nat.zero_le _, h⟩]
  simp
theorem slcO22z {id n : Nat} : aSlice T 22 (.av (.own id 0 n 3)) none (some (.av (.sc (.int .i64 0)))) = some (.av (.own id 0 0 3)) := slcO22 (k := 0) (Nat.zero_le _)
theorem slcN22 : aSlice T 22 (.av (.sc .nilsl)) none (some (.av (.sc (.int .i64 0)))) = some (.av (.sc .nilsl)) := rfl
/-! ### Maps keyed by numbers -/
def mapA (l : List (Int × Av)) : List (Sc × Av) := l.map fun p => (.int .i64 p.1, p.2)
def lkA : List (Int × Av) → Int → Option Av
  | [], _ => none
  | (k, a) :: l, n => if n = k then some a else lkA l n
def setA : List (Int × Av) → Int → Av → List (Int × Av)
  | [], n, a => [(n, a)]
  | (k, b) :: l, n, a => if n = k then (n, a) :: l else (k, b) :: setA l n a
theorem lk_setA {n m : Int} {a : Av} : ∀ {l : List (Int × Av)}, lkA (setA l n a) m = if m = n then some a else lkA l m
  | [] => by simp [setA, lkA]
  | (k, b) :: l => by
    simp only [setA]
    split
    · rename_i h
      subst h
      simp only [lkA]
      split <;> simp
    · rename_i h
      simp only [lkA, lk_setA]
      split
      · rename_i h2
        rw [if_neg (fun h3 => h (h3.symm.trans h2))]
      · rfl
theorem find_mapA {n : Int} : ∀ {l : List (Int × Av)} {i : Nat}, (findA (.int .i64 n) (mapA l) i = some none ∧ lkA l n = none ∧ setA l n = fun a => l ++ [(n, a)]) ∨
    ∃ j a, findA (.int .i64 n) (mapA l) i = some (some (i + j, a)) ∧ lkA l n = some a ∧ ∀ b, mapA (setA l n b) = (mapA l).set j (.int .i64 n, b)
  | [], i => .inl ⟨rfl, rfl, rfl⟩
  | (k, a) :: l, i => by
    by_cases h : n = k
    · subst h
      exact .inr ⟨0, a, by simp [findA, mapA, eqSc], by simp [lkA], fun b => by simp [setA, mapA]⟩
    · rcases find_mapA (n := n) (l := l) (i := i + 1) with ⟨h1, h2, h3⟩ | ⟨j, b, h1, h2, h3⟩
      · refine .inl ⟨?_, by simp [lkA, h, h2], ?_⟩
        · simpa [findA, mapA, eqSc, h] using h1
        · funext b
          simp [setA, h, h3]
      · refine .inr ⟨j + 1, b, ?_, by simp [lkA, h, h2], fun b => ?_⟩
        · have : findA (.int .i64 n) (mapA ((k, a) :: l)) i = findA (.int .i64 n) (mapA l) (i + 1) := by simp [findA, mapA, eqSc, h]
          rw [this, h1, show i + 1 + j = i + (j + 1) by omega]
        · have h4 := h3 b
          simp only [setA, h, if_false]
          simp only [mapA, List.map_cons, List.set_cons_succ] at h4 ⊢
          rw [h4]
theorem lookA {t kt e : TypeId} {y yk z : Ty} (hT : T t = some y) (hd : y.d = .map kt e) (hk : T kt = some yk) (hkd : yk.d = .int .i64) (he : T e = some z) (hz : z.size = 1) (hza : isAggD z.d = false) {ob : Nat → Obj} {id : Nat} {l : List (Int × Av)} (h : ob id = .mp (mapA l)) (n : Int) :
    aLookup T ob t (.av (.map id)) (vI n) true = some (.tup [.av ((lkA l n).getD (.sc (z.zero.headD .nili))), vB (lkA l n).isSome]) := by
  unfold aLookup
  simp only [vI, hT, Option.bind_some, hd, hk, he, h]
  rcases find_mapA (n := n) (l := l) (i := 0) with ⟨h1, h2, _⟩ | ⟨j, a, h1, h2, _⟩
  · rw [h1]
    simp [hz, hza, hkd, kindOk, h2]
  · rw [h1]
    simp [hz, hza, hkd, kindOk, h2]
theorem mapUpdA {t kt e : TypeId} {y yk : Ty} (hT : T t = some y) (hd : y.d = .map kt e) (hk : T kt = some yk) (hkd : yk.d = .int .i64) {ob : Nat → Obj} {id : Nat} {l : List (Int × Av)} (h : ob id = .mp (mapA l)) (n : Int) (a : Av) :
    aMapUpdate T ob t (.av (.map id)) (vI n) (.av a) = some (upd ob id (.mp (mapA (setA l n a)))) := by
  unfold aMapUpdate
  simp only [vI, hT, Option.bind_some, hd, hk, h]
  rcases find_mapA (n := n) (l := l) (i := 0) with ⟨h1, h2, h3⟩ | ⟨j, b, h1, h2, h3⟩
  · rw [h1]
    simp [hkd, kindOk, h3, mapA]
  · rw [h1]
    simp [hkd, kindOk, h3]
/-! ### Rows of our own that grow -/
def slOf (id n : Nat) : Av := if n = 0 then .sc .nilsl else .own id 0 n 1
def kill (n : Nat) (ob : Nat → Obj) (id : Nat) : Nat → Obj := if n = 0 then ob else upd ob id .dead
theorem upd_self {α : Type} {f : Nat → α} {i : Nat} {v : α} (h : f i = v) (j : Nat) : upd f i v j = f j := if h' : j = i then by rw [h', upd_same, h] else upd_ne _ _ h'
theorem upd_upd {α : Type} {f : Nat → α} {i : Nat} {v u : α} : upd (upd f i v) i u = upd f i u := by
  funext j
  simp only [upd]
  split <;> rfl
theorem kill_ne {n : Nat} {ob : Nat → Obj} {id j : Nat} (h : j ≠ id) : kill n ob id j = ob j := by
  unfold kill
  split
  · rfl
  · exact upd_ne _ _ h
theorem slOf_pos {id n : Nat} (h : n ≠ 0) : slOf id n = .own id 0 n 1 := if_neg h
theorem appO {ob : Nat → Obj} {nid id n k : Nat} {f : Nat → Int} {v : Int} (h : n ≠ 0 → ob id = .cs (arr n f) 0) (hk : ob k = .cs [.sc (.int .i64 v)] 0) (hn : n ≤ 1000000000) :
    aAppend T ob nid 36 (.av (slOf id n)) (.av (.own k 0 1 1)) = some (.av (.own nid 0 (n + 1) 1), upd (kill n ob id) nid (.cs (arr (n + 1) (upd f n v)) 0)) := by
  unfold aAppend
  simp only [T36, Option.bind_some, y36, T3, aSrc, hk]
  rw [if_pos (by simp [y3])]
  simp only [Option.bind_some]
  rw [if_neg (by simp [y3])]
  by_cases h0 : n = 0
  · subst h0
    have : slOf id 0 = .sc .nilsl := rfl
    rw [this]
    simp [y3, kill, arr]
  · rw [slOf_pos h0]
    simp only [h h0, arr_len]
    rw [if_pos ⟨by simp [y3], by simp, by simp, by omega⟩, if_neg (by simp)]
    simp only [kill, if_neg h0, List.drop_zero, Nat.zero_sub, Nat.mul_one]
    rw [List.take_of_length_le (by rw [arr_len]; exact Nat.le_refl _)]
    congr 4
    rw [← arr_push]
    rfl
/-- One object is turned. -/
theorem Kp.start {s : Me} {iu : Nat} {o : Obj} (h : s.ob iu = o) {n : Nat} (hn : s.nx ≤ n) : Kp ⟨upd s.ob iu o, s.nx, s.ls⟩ ⟨s.ob, n, s.ls⟩ :=
  ⟨hn, fun j _ => if h' : j = iu then by subst h'; dsimp only; rw [upd_same]; exact h else (upd_ne _ _ h').symm, rfl⟩
theorem Kp.set {s s1 : Me} {iu : Nat} {o o' : Obj} (h : Kp ⟨upd s.ob iu o, s.nx, s.ls⟩ s1) {n : Nat} (hn : s1.nx ≤ n) : Kp ⟨upd s.ob iu o', s.nx, s.ls⟩ ⟨upd s1.ob iu o', n, s1.ls⟩ :=
  ⟨Nat.le_trans h.1 hn, fun j hj => if h' : j = iu then by subst h'; dsimp only; rw [upd_same, upd_same] else by
    have := h.2.1 j hj
    dsimp only at this ⊢
    rw [upd_ne _ _ h', this, upd_ne _ _ h', upd_ne _ _ h'], h.2.2⟩
end Seat
end Go.Am
/-
  Am, part X: scopes; functions that turn the store in some way; the classes' object.
-/
namespace Go.Am
section
variable {F : Fence} {n : Nat} {P : Program} {b : Frame} {a : Act} {k : List Item} {cs : List Frame} {w : World} {Q : Exit → Act → World → Prop}
theorem stepR_scope {c : Code} : step P (lone (b.atR a (.code (.scope c) :: k)) cs w) = .next (lone (b.atR a (.code c :: .inScope c :: k)) cs w) :=
  step_lone_go (by simp [stepG, stepG.exec, Frame.atR])
theorem stepR_inScope {c : Code} : step P (lone (b.atR a (.inScope c :: k)) cs w) = .next (lone (b.atR a k) cs w) :=
  step_lone_go (by simp [stepG, stepG.exec, Frame.atR])
theorem wpIn_scope {c : Code} (hg : ∀ l a w, Q (.goto l) a w → False) (h : c.wpIn F n P Q a w) : (Code.scope c).wpIn F n P Q a w := by
  intro b k cs hro hb hr
  have h0 : (lone (b.atR a (.code (.scope c) :: k)) cs w).fenced P F := fenced_calm hb hr rfl
  obtain ⟨e, a₁, w₁, hq, harr⟩ := h b (.inScope c :: k) cs hro hb hr
  cases e with
  | normal => exact ⟨.normal, a₁, w₁, hq, .head h0 stepR_scope (StepsIn.trans harr (.one (fenced_calm hb hr rfl) stepR_inScope))⟩
  | exit id' =>
    have hx : exitTo id' (.inScope c :: k) = exitTo id' k := by simp [exitTo]
    exact ⟨.exit id', a₁, w₁, hq, fun k' hk => .head h0 stepR_scope (harr.1 k' (by rw [hx]; exact hk)),
      fun hr' hk => let ⟨k₁, h1, h2⟩ := harr.2 hr' (by rw [hx]; exact hk); ⟨k₁, h1, .head h0 stepR_scope h2⟩⟩
  | goto l => exact (hg _ _ _ hq).elim
  | ret => exact ⟨_, a₁, w₁, hq, .of_steps (.one h0 stepR_scope) harr⟩
  | panic ch => exact ⟨_, a₁, w₁, hq, .of_steps (.one h0 stepR_scope) harr⟩
  | outgrown => exact ⟨_, a₁, w₁, hq, .of_steps (.one h0 stepR_scope) harr⟩
end
theorem aw_scope {P : Program} {X : Fr} {Q : Exit → Slots → Me → Prop} {sl : Slots} {s : Me} {c : Code} (hg : ∀ l sl s, Q (.goto l) sl s → False) (h : AW P X c Q sl s) : AW P X (.scope c) Q sl s := fun m G a w hs =>
  wpIn_scope (fun l a' w' ⟨sl', s', _, _, hq, _⟩ => hg l sl' s' hq) (h m G a w hs)
/-- A function that turns the store, and leaves nothing else behind. -/
theorem FnL.pureE {P : Program} {L : Loops} {f : FuncId} {args : List Va} {s : Me} {R : Va → (Nat → Obj) → Prop}
    (h : FnL P L f args s fun r s' => r.plain = true ∧ s'.ls = s.ls ∧ ∃ ob', (∀ i, i < s.nx → s'.ob i = ob' i) ∧ (∀ i, i < s.nx → ob' i = s.ob i ∨ (ob' i).plain = true) ∧ R r ob') :
    FnL P L f args s fun r s'' => ∃ ob', R r ob' ∧ s'' = ⟨ob', s.nx, s.ls⟩ := by
  have h1 := FnL.forget (R := fun r s' => s'.ls = s.ls ∧ ∃ ob', (∀ i, i < s.nx → s'.ob i = ob' i) ∧ R r ob') (h.mono fun r s' ⟨h1, h2, ob', h3, h4, h5⟩ => ⟨h1, fun i hi => by rw [h3 i hi]; exact h4 i hi, h2, ob', h3, h5⟩)
  intro m G w vs hv hw
  refine CallsIn.mono (h1 m G w vs hv hw) fun e w' he => ?_
  obtain ⟨v, r, s'', m', G', rfl, ⟨s', ⟨h2, ob', h3, h4⟩, rfl⟩, h5, h6, h7, h8, h9⟩ := he
  exact ⟨v, r, ⟨ob', s.nx, s.ls⟩, m', G', rfl, ⟨ob', h4, rfl⟩, h5, h6.agree (fun i hi => (h3 i (h6.lt hi)).symm) (Nat.le_refl _) h2.symm, h7, Nat.le_refl _, h9⟩
section
variable {P : Program} {C : Cfg P} {X : Fr} {pb : Bool} {ops : Array Oper} {f : Nat} {E : List Nat} {st : Nat → Me} {base : Nat} {gd : Nat → Option Tmp} {K : Slots → Prop} {o : Oper} {l : List Oper} {i : Nat} {sl : Slots} {t : Tmp}
/-- A call that changes the store in a way that is known, but for what is above it. -/
theorem dra_callS {v : Va} {q : Nat} (ht : turn gd sl o.guard = .yes) (hc : isCall o.op = true) (hd : o.dst = some t) (hE : whichE E i 0 = some q) (ha : CallT P X.L o.op (evA sl) (st q) fun v' s' => v' = v ∧ Same s' (st (q + 1)))
    (h : DraOps C X pb ops f E st gd base K l (i + 1) ((t, v) :: sl)) : DraOps C X pb ops f E st gd base K (o :: l) i sl := by
  simp only [DraOps, ht, hE]
  refine ⟨v, ?_, ?_⟩
  · unfold OpAt
    rw [hc]
    exact ha
  · rw [hd]
    exact h
end
theorem aw_drag {P : Program} {X : Fr} (C : Cfg P) {pb : Bool} {id : Nat} {ops : Array Oper} {Q : Exit → Slots → Me → Prop} {sl : Slots} {ob : Nat → Obj} {nx : Nat} {ls : Nat → LSt} (f : Nat) (E : List Nat) (os : List (Nat → Obj)) (g : Nat → Nat)
    (hd : dstOk X.nt ops.toList = true) (hok : regOk ops f = true) (hE : effOk ops f E = true) (hsz : ops.size = f) (h0 : ∀ i, i < nx → osL os 0 i = ob i)
    (h : DraOps C X pb ops f E (fun k => ⟨osL os k, nx + f + g k, ls⟩) (nthO (ops.toList.map (·.dst))) nx (fun sl' => Q .normal sl' ⟨osL os E.length, nx + f + g E.length, ls⟩) ops.toList 0 sl) : AW P X (.region id ops true) Q sl ⟨ob, nx, ls⟩ := by
  rw [nthO_of] at h
  obtain ⟨vals, hv⟩ := dra_of ops.toList 0 sl h
  obtain ⟨h1, h2⟩ := hv vals fun _ _ => rfl
  exact aw_any C f E vals (fun k => ⟨osL os k, nx + f + g k, ls⟩) hd hok hE (fun _ => by simp only [hsz]; omega) ⟨h0, rfl⟩ h1 h2
theorem aw_drag_seq {P : Program} {X : Fr} (C : Cfg P) {pb : Bool} {id : Nat} {ops : Array Oper} {y : Code} {Q : Exit → Slots → Me → Prop} {sl : Slots} {ob : Nat → Obj} {nx : Nat} {ls : Nat → LSt} (f : Nat) (E : List Nat) (os : List (Nat → Obj)) (g : Nat → Nat)
    (hd : dstOk X.nt ops.toList = true) (hok : regOk ops f = true) (hE : effOk ops f E = true) (hsz : ops.size = f) (h0 : ∀ i, i < nx → osL os 0 i = ob i)
    (h : ∀ K : Slots → Prop, (∀ sl', AW P X y Q sl' ⟨osL os E.length, nx + f + g E.length, ls⟩ → K sl') → DraOps C X pb ops f E (fun k => ⟨osL os k, nx + f + g k, ls⟩) (nthO (ops.toList.map (·.dst))) nx K ops.toList 0 sl) : AW P X ((Code.region id ops true).seq y) Q sl ⟨ob, nx, ls⟩ :=
  aw_seq (aw_drag C f E os g hd hok hE hsz h0 (h _ fun _ h => h))
theorem aw_state {P : Program} {X : Fr} {Q : Exit → Slots → Me → Prop} {sl : Slots} {s : Me} {c : Code} {J : Me → Prop} (hJ : J s) (h : ∀ s3, J s3 → AW P X c Q sl s3) : AW P X c Q sl s := h s hJ
theorem upd_back {α : Type} {f : Nat → α} {i : Nat} {v : α} : upd (upd f i v) i (f i) = f := by
  funext j
  simp only [upd]
  split
  · rename_i h; rw [h]
  · rfl
theorem upd_noyl {ob : Nat → Obj} {k i : Nat} {o : Obj} (ho : o.noyl = true) (h : (ob i).noyl = true) : (upd ob k o i).noyl = true := by
  unfold upd
  split
  · exact ho
  · exact h
namespace Seat
theorem kill_noyl {ob : Nat → Obj} {k i n : Nat} (h : (ob i).noyl = true) : (kill n ob k i).noyl = true := by
  unfold kill
  split
  · exact h
  · exact upd_noyl rfl h
theorem arr_noyl {n fz : Nat} {f : Nat → Int} : (Obj.cs (arr n f) fz).noyl = true := by simp [Obj.noyl, arr, Av.noyl]
theorem slOf_noyl {id n : Nat} : (slOf id n).noyl = true := by
  unfold slOf
  split <;> rfl
/-- The classes' object and its three rows. -/
structure CL (ob : Nat → Obj) (nx : Nat) (x : Sc) (cid iu id iN n : Nat) (p : Nat → Nat) (D N : Nat → Int) : Prop where
  c : ob cid = .cs [.sc x, .own iu 0 n 1, .own id 0 n 1, .own iN 0 n 1] 0
  u : ob iu = .cs (arrN n p) 0
  d : ob id = .cs (arr n D) 0
  n : ob iN = .cs (arr n N) 0
  dist : cid ≠ iu ∧ cid ≠ id ∧ cid ≠ iN ∧ iu ≠ id ∧ iu ≠ iN ∧ id ≠ iN
  hi : cid < nx ∧ iu < nx ∧ id < nx ∧ iN < nx
section
variable {ob ob' : Nat → Obj} {nx nx' : Nat} {x : Sc} {cid iu id iN n : Nat} {p : Nat → Nat} {D N : Nat → Int}
theorem CL.frame (h : CL ob nx x cid iu id iN n p D N) (hn : nx ≤ nx') (ho : ∀ j, j < nx → ob' j = ob j) : CL ob' nx' x cid iu id iN n p D N :=
  ⟨(ho _ h.hi.1).trans h.c, (ho _ h.hi.2.1).trans h.u, (ho _ h.hi.2.2.1).trans h.d, (ho _ h.hi.2.2.2).trans h.n, h.dist, by have := h.hi; omega⟩
theorem CL.setU (h : CL ob nx x cid iu id iN n p D N) (p' : Nat → Nat) : CL (upd ob iu (.cs (arrN n p') 0)) nx x cid iu id iN n p' D N := by
  have := h.dist
  exact ⟨(upd_ne _ _ (by omega)).trans h.c, upd_same _ _ _, (upd_ne _ _ (by omega)).trans h.d, (upd_ne _ _ (by omega)).trans h.n, h.dist, h.hi⟩
theorem CL.setD (h : CL ob nx x cid iu id iN n p D N) (D' : Nat → Int) : CL (upd ob id (.cs (arr n D') 0)) nx x cid iu id iN n p D' N := by
  have := h.dist
  exact ⟨(upd_ne _ _ (by omega)).trans h.c, (upd_ne _ _ (by omega)).trans h.u, upd_same _ _ _, (upd_ne _ _ (by omega)).trans h.n, h.dist, h.hi⟩
theorem CL.setN (h : CL ob nx x cid iu id iN n p D N) (N' : Nat → Int) : CL (upd ob iN (.cs (arr n N') 0)) nx x cid iu id iN n p D N' := by
  have := h.dist
  exact ⟨(upd_ne _ _ (by omega)).trans h.c, (upd_ne _ _ (by omega)).trans h.u, (upd_ne _ _ (by omega)).trans h.d, upd_same _ _ _, h.dist, h.hi⟩
theorem CL.congr (h : CL ob nx x cid iu id iN n p D N) (ho : ∀ j, j = cid ∨ j = iu ∨ j = id ∨ j = iN → ob' j = ob j) (hn : nx ≤ nx') : CL ob' nx' x cid iu id iN n p D N :=
  ⟨(ho _ (by simp)).trans h.c, (ho _ (by simp)).trans h.u, (ho _ (by simp)).trans h.d, (ho _ (by simp)).trans h.n, h.dist, by have := h.hi; omega⟩
end
end Seat
end Go.Am
/-
  Am, part Y: results made plain; maps' entries by their key.
-/
namespace Go.Am
theorem FnL.purR {P : Program} {L : Loops} {f : FuncId} {args : List Va} {s : Me} {R : Va → Me → Prop}
    (h : FnL P L f args s fun r s' => ∃ x ob', purV s'.ob r = some (x, ob') ∧ R x ⟨ob', s'.nx, s'.ls⟩) : FnL P L f args s R := by
  intro m G w vs hv hw
  refine CallsIn.mono (h m G w vs hv hw) fun e w' he => ?_
  obtain ⟨v, r, s', m', G', rfl, ⟨x, ob', hp, hR⟩, h5, h6, h7, h8, h9⟩ := he
  obtain ⟨G'', ⟨h1, h2, h3⟩, h4⟩ := purV_of hp h6.rel h5
  exact ⟨v, x, ⟨ob', s'.nx, s'.ls⟩, m', G'', rfl, hR, h4, h6.evo (s' := ⟨ob', s'.nx, s'.ls⟩) h1 h2 rfl, h7.trans h2.ev, h8, h9⟩
section
variable {P : Program} {L : Loops} {m : Nat → Option Ent} {G : Nat → Nat → Prop} {w : World} {s : Me}
theorem leaves_res {fn : Func} {tmps : Array Value} {R : Ending → World → Prop} {D0 : Nat} : ∀ (ds : List Deferred) {w : World}, DR D0 L m w ds → WR L m G w s →
    (∀ w', WR L m G w' s → On m L.lb G w m L.lb G w' → w'.os = w.os → w'.tape = w.tape → w'.output = w.output → w'.heap.size = w.heap.size → (∀ b : Nat, b < D0 → w'.heap[b]? = w.heap[b]?) → ∃ v, (results fn tmps).run P w' = .ok v w' ∧ R (.returned v) w') → LeavesInM (Fw none) 0 P fn tmps R ds .returning w
  | [], w, _, hw, h => h w hw On.refl rfl rfl rfl rfl fun _ _ => rfl
  | d :: ds, w, ⟨⟨D, h1, h2, h3, h4, h5, h6⟩, h7⟩, hw, h => by
    have hlt : D < w.heap.size := (Array.getElem?_eq_some_iff.1 h3).1
    have hon : On m L.lb G w m L.lb G (w.putObj D (.deferred none)) := on_putObj h3 (fun k => cell_deferred h3) (fun k => cell_deferred (World.putObj_heap_same hlt))
    refine ⟨by simp, .inl ⟨D, _, h1, run_takeDeferred h3, leaves_res ds ?_ ⟨rel_putObj hw.rel h4 hon, fun l b hl => ?_, fun l b hl t => VR.on hon (hw.tm l b hl t)⟩ fun w' hw' hon' e1 e2 e3 e4 e5 => h w' hw' (hon.trans hon') e1 e2 e3 (by simpa using e4) fun b hb => (e5 b hb).trans (World.putObj_heap_other (by omega))⟩⟩
    · clear h
      induction ds with
      | nil => trivial
      | cons d' ds ih =>
        obtain ⟨⟨D', k1, k2, k3, k4, k5, k6⟩, k7⟩ := h7
        have hne : D' ≠ D := fun e => h6 d' (by simp) (by rw [k1, e])
        exact ⟨⟨D', k1, k2, (World.putObj_heap_other hne).trans k3, k4, k5, k6⟩, ih (fun x hx => h6 x (by simp [hx])) k7⟩
    · have hne : b ≠ D := fun e => h5 l (by rw [hl, e])
      exact (World.putObj_heap_other hne).trans (hw.loops l b hl)
theorem run_resCell {T : TypeId → Option Ty} (hT : TOk P T) {lb : Nat → Option Nat} {ob : Nat → Obj} {nx : Nat} (h : Rel m lb G w ob nx) {t : TypeId} {id o : Nat} {r : Va} {fn : Func} {a : Tmp} {tmps : Array Value} (hr0 : fn.results = #[.cell a t]) (hr : aLoad T ob t (.av (.ptr id o)) = some r) (hv : VR m lb G w (.av (.ptr id o)) (tmps.getD a undef)) :
    ∃ u, (results fn tmps).run P w = .ok u w ∧ VR m lb G w r u := by
  obtain ⟨u, h1, h2⟩ := run_aLoad hT h hr hv
  refine ⟨u, ?_, h2⟩
  simp only [VR, AR] at hv
  obtain ⟨e, hm, hv⟩ := hv
  rw [hv] at h1
  simp only [Instr.loadAt, Instr.sureAddr] at h1
  simp only [results, hr0]
  have hv' := hv
  simp only [Array.getD_eq_getD_getElem?] at hv'
  simp [hv', asAddr]
  simpa using h1
/-- What a function's body must come to that hands back a place's content. -/
def FnQc (T : TypeId → Option Ty) (a : Tmp) (t : TypeId) (R : Va → Me → Prop) : Exit → Slots → Me → Prop
  | .normal, sl, s => ∃ id o r, get sl a = .av (.ptr id o) ∧ aLoad T s.ob t (.av (.ptr id o)) = some r ∧ R r s
  | .ret, sl, s => ∃ id o r, get sl a = .av (.ptr id o) ∧ aLoad T s.ob t (.av (.ptr id o)) = some r ∧ R r s
  | _, _, _ => False
theorem fn_of_bodyC {T : TypeId → Option Ty} (hT : TOk P T) {f : FuncId} {fn : Func} {c : Code} {args : List Va} {a : Tmp} {t : TypeId} {R : Va → Me → Prop} (hf : P.funcs[f]? = some fn) (hb : fn.body = some c) (hr : fn.results = #[.cell a t]) (hlen : args.length ≤ fn.ntmps)
    (h : ∀ D0, AW P ⟨none, fn.ntmps, D0, s.nx, L⟩ c (fun e sl s' => FnQc T a t (fun r s' => s.nx ≤ s'.nx → R r s') e sl s') (initSl 0 args) s) : FnL P L f args s R := by
  intro m G w vs hvs hw
  refine callsIn_of_wp_marks hf hb trivial ?_
  have hvl := hvs.length
  refine wpIn_mono (h w.heap.size m G { tmps := vs.toArray ++ Array.replicate (fn.ntmps - vs.toArray.size) undef, defers := [] } w ⟨?_, ?_, hw, trivial, Nat.le_refl _, Nat.le_refl _⟩) fun e a' w' hp => ?_
  · simp; omega
  · intro t
    have := initSl_of 0 (fn.ntmps - vs.length) hvs t
    simp only [Nat.zero_add] at this
    rw [Array.getD_eq_getD_getElem?, ← Array.getElem?_toList]
    simpa [List.getD_eq_getElem?_getD] using this
  · obtain ⟨sl', s', m', G', h1, h2, h3, h4⟩ := hp
    have fin : (∃ id o r, get sl' a = .av (.ptr id o) ∧ aLoad T s'.ob t (.av (.ptr id o)) = some r ∧ R r s') → LeavesInM (Fw none) 0 P fn a'.tmps (fun e w' => ∃ v r s' m' G', e = .returned v ∧ R r s' ∧ VR m' L.lb G' w' r v ∧ WR L m' G' w' s' ∧ Ev L m G w m' G' w' ∧ s.nx ≤ s'.nx ∧ ∀ i, i < s.nx → m i = none → m' i = none) a'.defers .returning w' := fun ⟨id, o, r, hg, hld, hR⟩ => by
      refine leaves_res a'.defers h2.dr h2.wr fun w'' k1 k2 k3 k4 k5 k6 k7 => ?_
      have hsl := h2.slots a
      rw [hg] at hsl
      obtain ⟨u, hu1, hu2⟩ := run_resCell hT k1.rel hr hld (VR.on k2 hsl)
      exact ⟨u, hu1, u, r, s', m', G', rfl, hR, hu2, k1, ⟨h3.on.trans k2, k3.trans h3.os, k4.trans h3.tape, k5.trans h3.output, by rw [k6]; exact h3.size, fun b hb hm hl => (k7 b hb).trans (h3.old b hb hm hl), h3.new⟩, h2.n0, h4⟩
    cases e with
    | normal => obtain ⟨id, o, r, h5, h6, h7⟩ := h1; exact fin ⟨id, o, r, h5, h6, h7 h2.n0⟩
    | ret => obtain ⟨id, o, r, h5, h6, h7⟩ := h1; exact fin ⟨id, o, r, h5, h6, h7 h2.n0⟩
    | _ => exact h1.elim
end
namespace Seat
/-- A map's entry for a key, and what is laid there. -/
theorem entA {t kt e : TypeId} {y yk z : Ty} (hT : T t = some y) (hd : y.d = .map kt e) (hk : T kt = some yk) (hkd : yk.d = .int .i64) (he : T e = some z) (hz : z.size = 1) (hza : isAggD z.d = false) {ob : Nat → Obj} {id : Nat} {l : List (Int × Av)} (h : ob id = .mp (mapA l)) (n : Int) (a : Av) :
    ∃ (j : Nat) (a0 : Av) (l1 : List (Sc × Av)), aMapEntry T ob t (.av (.map id)) (vI n) = some (.tup [.av a0, .av (.sc (.int .i64 j))], upd ob id (.mp l1)) ∧ ∀ ob', ob' id = .mp l1 → aEntryStore ob' (.av (.map id)) (.av (.sc (.int .i64 j))) (.av a) = some (upd ob' id (.mp (mapA (setA l n a)))) := by
  have hkk : kindOk yk.d (.int .i64 n) = true := by rw [hkd]; rfl
  unfold aMapEntry
  simp only [vI, hT, Option.bind_some, hd, hk, he, h]
  rcases find_mapA (n := n) (l := l) (i := 0) with ⟨h1, h2, h3⟩ | ⟨j, b, h1, h2, h3⟩
  · rw [h1, if_pos ⟨hz, hza, hkk⟩]
    refine ⟨_, _, _, rfl, fun ob' ho => ?_⟩
    unfold aEntryStore
    simp only [ho]
    rw [if_pos (by omega), Int.toNat_natCast, List.getElem?_append_right (Nat.le_refl _), Nat.sub_self]
    simp only [List.getElem?_cons_zero, Option.map_some]
    rw [List.set_append_right _ _ (Nat.le_refl _), Nat.sub_self, h3]
    simp [mapA]
  · rw [h1, if_pos ⟨hz, hza, hkk⟩]
    refine ⟨_, _, _, rfl, fun ob' ho => ?_⟩
    have hlt : j < (mapA l).length := by
      rcases Nat.lt_or_ge j (mapA l).length with h | h
      · exact h
      · exfalso
        have hg : ∀ {l : List (Sc × Av)} {k : Sc} {i q : Nat} {x : Av}, findA k l i = some (some (q, x)) → i ≤ q ∧ q < i + l.length := by
          intro l
          induction l with
          | nil => intro k i q x h; simp [findA] at h
          | cons p l ih =>
            intro k i q x h
            simp only [findA] at h
            obtain ⟨c, hc, h⟩ := Option.bind_eq_some_iff.1 h
            split at h
            · simp only [Option.some.injEq, Prod.mk.injEq] at h
              simp only [List.length_cons]; omega
            · have := ih h
              simp only [List.length_cons]; omega
        have := hg h1
        omega
    unfold aEntryStore
    simp only [ho]
    rw [if_pos (by omega), Nat.zero_add, Int.toNat_natCast, List.getElem?_set_self hlt]
    simp only [Option.map_some, List.set_set, h3]
theorem lookA0 {t kt e : TypeId} {y yk z : Ty} (hT : T t = some y) (hd : y.d = .map kt e) (hk : T kt = some yk) (hkd : yk.d = .int .i64) (he : T e = some z) (hz : z.size = 1) (hza : isAggD z.d = false) {ob : Nat → Obj} {id : Nat} {l : List (Int × Av)} (h : ob id = .mp (mapA l)) (n : Int) :
    aLookup T ob t (.av (.map id)) (vI n) false = some (.av ((lkA l n).getD (.sc (z.zero.headD .nili)))) := by
  unfold aLookup
  simp only [vI, hT, Option.bind_some, hd, hk, he, h]
  rcases find_mapA (n := n) (l := l) (i := 0) with ⟨h1, h2, _⟩ | ⟨j, a, h1, h2, _⟩
  · rw [h1]
    simp [hz, hza, hkd, kindOk, h2]
  · rw [h1]
    simp [hz, hza, hkd, kindOk, h2]
end Seat
end Go.Am
/-
  Am, part Z: from a function's contract to the statement's row: arguments opened, memory below untouched.
-/
namespace Go.Am
open Go.ChangeShapes Go.WideShapes Go.Deep Go.RowKit
def noM : Nat → Option Ent := fun _ => none
def noL : Loops := ⟨fun _ => none, fun _ => default, fun _ => [], fun _ _ h => by cases h⟩
def inW (w : World) : Nat → Nat → Prop := fun b _ => b < w.heap.size
/-- The statement, out of the contract: what was there is as it was. -/
theorem calls_of {P : Program} {f : FuncId} {args : List Va} {vs : List Value} {W : World} {r : Va} {s : Me} (hs : s = ⟨fun _ => .dead, 0, fun _ => .ready⟩) (h : FnL P noL f args s fun r' s' => r' = r ∧ s' = s) (hv : VRs noM (fun _ => none) (inW W) W args vs) :
    Calls P f vs.toArray W fun e W' => (∃ v m G, e = .returned v ∧ VR m (fun _ => none) G W' r v) ∧ Below W.heap.size W W' := by
  have hw : WR noL noM (inW W) W s := by
    subst hs
    exact ⟨⟨fun id e h => (by cases h), fun i j e f h => (by cases h), fun b o h => h, fun id e h => (by cases h), fun _ _ => rfl, fun l b h => (by cases h)⟩, fun l b h => (by cases h), fun l b h => (by cases h)⟩
  refine (callsIn_wide (n := 0)).1 (CallsIn.mono (h noM (inW W) W vs hv hw) fun e W' he => ?_)
  obtain ⟨v, r', s', m', G', h1, ⟨h2, h3⟩, h4, h5, h6, _, _⟩ := he
  exact ⟨⟨v, m', G', h1, h2 ▸ h4⟩, ⟨h6.os, h6.tape, h6.output, h6.size, fun k hk => h6.old k hk (fun id e h => by cases h) (fun l h => by cases h)⟩⟩
end Go.Am
/-
  The join: arguments that are slices of cells, opened.
-/
namespace Go.Am.Seat
open Go.Proofs Go.Am Go.ChangeShapes Go.WideShapes Go.Deep
theorem mem_cons {G : Nat → Nat → Prop} {w : World} {b o : Nat} {v : Value} {vs : List Value} (h0 : G b o ∧ w.cell? ⟨b, o, none⟩ = some v) (h : Mem G w b (o + 1) vs) : Mem G w b o (v :: vs) := by
  intro j u hj
  cases j with
  | zero => simp only [List.getElem?_cons_zero, Option.some.injEq] at hj; subst hj; exact h0
  | succ j =>
    have := h j u (by simpa using hj)
    rwa [show o + 1 + j = o + (j + 1) by omega] at this
def valC (c : Cell) : List Value := [.int .i64 c.kind, .string c.name, .int .i64 c.n]
theorem srs_cells (G : Nat → Nat → Prop) (w : World) : ∀ l : List Cell, SRs G w (l.flatMap encC) (l.flatMap valC)
  | [] => by simp [SRs]
  | c :: l => by
    simp only [List.flatMap_cons, encC, valC, List.cons_append, List.nil_append, SRs, SR]
    exact ⟨_, _, rfl, rfl, _, _, rfl, rfl, _, _, rfl, rfl, srs_cells G w l⟩
theorem mem_cells {w : World} {b : Nat} (hb : b < w.heap.size) : ∀ (l : List Cell) (o : Nat), (∀ i (h : i < l.length), w.cell? ⟨b, o + i * 3, none⟩ = some (.int .i64 l[i].kind) ∧ w.cell? ⟨b, o + (i * 3 + 1), none⟩ = some (.string l[i].name) ∧ w.cell? ⟨b, o + (i * 3 + 2), none⟩ = some (.int .i64 l[i].n)) → Mem (inW w) w b o (l.flatMap valC)
  | [], o, h => fun j v hj => by simp at hj
  | c :: l, o, h => by
    have h0 := h 0 (by simp)
    simp only [List.getElem_cons_zero, Nat.zero_mul, Nat.add_zero, Nat.zero_add] at h0
    rw [List.flatMap_cons]
    refine mem_cons ⟨hb, h0.1⟩ (mem_cons ⟨hb, h0.2.1⟩ (mem_cons ⟨hb, h0.2.2⟩ (mem_cells hb l (o + 1 + 1 + 1) fun i hi => ?_)))
    have := h (i + 1) (by simpa using hi)
    simp only [List.getElem_cons_succ] at this
    rwa [show o + (i + 1) * 3 = o + 1 + 1 + 1 + i * 3 by omega, show o + ((i + 1) * 3 + 1) = o + 1 + 1 + 1 + (i * 3 + 1) by omega, show o + ((i + 1) * 3 + 2) = o + 1 + 1 + 1 + (i * 3 + 2) by omega] at this
theorem listed {α : Type} {Q : Nat → α → Prop} : ∀ n : Nat, (∀ i, i < n → ∃ c, Q i c) → ∃ l : List α, l.length = n ∧ ∀ i (h : i < l.length), Q i l[i]
  | 0, _ => ⟨[], rfl, fun i h => by simp at h⟩
  | n + 1, h => by
    obtain ⟨l, h1, h2⟩ := listed n fun i hi => h i (by omega)
    obtain ⟨c, hc⟩ := h n (by omega)
    refine ⟨l ++ [c], by simp [h1], fun i hi => ?_⟩
    by_cases hin : i < l.length
    · rw [List.getElem_append_left hin]; exact h2 i hin
    · simp only [List.length_append, List.length_cons, List.length_nil] at hi
      have : i = l.length := by omega
      subst this
      rw [List.getElem_append_right (Nat.le_refl _)]
      simp only [Nat.sub_self, List.getElem_cons_zero]
      rw [h1]; exact hc
theorem cell_spot {w : World} {a : Addr} {v : Value} (h : w.cell? a = some v) : a.spot = none ∧ a.block < w.heap.size := by
  unfold World.cell? at h
  split at h
  · rename_i c _ _ hb
    refine ⟨?_, (Array.getElem?_eq_some_iff.1 hb).1⟩
    split at h
    · cases h
    · rename_i hs
      cases hx : a.spot with
      | none => rfl
      | some x => rw [hx] at hs; simp at hs
  · cases h
section
variable {H : Type} {enc : TypeId × Value → H} {w : World} {base : Nat} {spare : Nat → Bool} {held : Bool}
/-- What a slice of cells reads as. -/
def ReadsC (w : World) (v : Value) (l : List Cell) : Prop := (∃ sc, SR (inW w) w sc v ∧ GSl encC sc l) ∧ l.length ≤ 281474976710656 ∧ ∀ c ∈ l, c.name.size ≤ 1152921504606846976
theorem weightsAll_mem {P : Program} {e : TypeId} {d : DataW H} : ∀ {l : List (DataW H)}, d ∈ l → ∀ n ∈ d.weights P e, n ∈ DataW.weightsAll P e l
  | [], h, _, _ => by simp at h
  | x :: l, h, n, hn => by
    simp only [DataW.weightsAll, List.mem_append]
    rcases List.mem_cons.1 h with rfl | h
    · exact .inl hn
    · exact .inr (weightsAll_mem h n hn)
theorem bytes42 : Try.prog.bytesOf 42 = 32 := by kernel_rfl
theorem three {α : Type} : ∀ {l : List α}, l.length = 3 → ∃ a b c, l = [a, b, c]
  | [a, b, c], _ => ⟨a, b, c, rfl⟩
theorem cells42 : Try.prog.cellsOf 42 = 3 := by kernel_rfl
theorem cells3 : Try.prog.cellsOf 3 = 1 := by kernel_rfl
theorem cells9 : Try.prog.cellsOf 9 = 1 := by kernel_rfl
theorem cell_fields {n : Nat} {a : Addr} {cs : List Value} {d : DataW H} {pl : List MemPlace} (hc : w.cells? base a 3 = some cs) (ht : DataW.trod enc Try.prog w base spare held n 42 cs = some (d, pl)) :
    ∃ (c : Cell) (d0 d2 : DataW H), w.cell? (a.add 0) = some (.int .i64 c.kind) ∧ w.cell? (a.add 1) = some (.string c.name) ∧ w.cell? (a.add 2) = some (.int .i64 c.n) ∧ d = .agg [d0, .lit (.string c.name.data.toList), d2] := by
  obtain ⟨_, hlen, hat⟩ := World.cells?_some hc
  obtain ⟨u0, u1, u2, rfl⟩ := three hlen
  obtain ⟨xs, n', _, hx, _, hxl, hf⟩ := DataW.trod_struct Try.underlying42 ht
  obtain ⟨x0, x1, x2, rfl⟩ := three (show xs.length = 3 from hxl)
  have t0 : DataW.trod enc Try.prog w base spare held n' 3 [u0] = some x0 := by
    have : DataW.trod enc Try.prog w base spare held n' 3 (([u0, u1, u2].drop 0).take (Try.prog.cellsOf 3)) = some x0 := hf 0 _ rfl
    rw [cells3] at this
    exact this
  have t1 : DataW.trod enc Try.prog w base spare held n' 9 [u1] = some x1 := by
    have : DataW.trod enc Try.prog w base spare held n' 9 (([u0, u1, u2].drop 1).take (Try.prog.cellsOf 9)) = some x1 := hf 1 _ rfl
    rw [cells9] at this
    exact this
  have t2 : DataW.trod enc Try.prog w base spare held n' 3 [u2] = some x2 := by
    have : DataW.trod enc Try.prog w base spare held n' 3 (([u0, u1, u2].drop 2).take (Try.prog.cellsOf 3)) = some x2 := hf 2 _ rfl
    rw [cells3] at this
    exact this
  obtain ⟨k0, e0, _⟩ := DataW.trod_int Try.underlying3 t0
  obtain ⟨k1, e1, ey, _⟩ := DataW.trod_string Try.underlying9 t1
  obtain ⟨k2, e2, _⟩ := DataW.trod_int Try.underlying3 t2
  simp only [List.cons.injEq, and_true] at e0 e1 e2
  subst e0 e1 e2
  simp only [Prod.mk.injEq] at hx
  exact ⟨⟨k0, k1, k2⟩, x0.1, x2.1, hat 0 (by omega), hat 1 (by omega), hat 2 (by omega), by rw [hx.1]; simp [ey]⟩
theorem open_cells {fuel : Nat} {cs : List Value} {x : DataW H × List MemPlace} (h : DataW.trod enc Try.prog w base spare held fuel 22 cs = some x) (hw : ∀ n ∈ x.1.weights Try.prog 22, n ≤ reachBytes) : ∃ v l, cs = [v] ∧ ReadsC w v l := by
  rcases open_slice Try.underlying22 h with ⟨rfl, _⟩ | ⟨a, len, cap, m, n, D, Pl, rfl, hb, hl, hm, hmm, hx, hi⟩
  · exact ⟨_, [], rfl, ⟨.nilsl, by simp only [SR], .inl ⟨rfl, rfl⟩⟩, by simp, by simp⟩
  have hml : len ≤ m := by rw [hmm]; split <;> omega
  subst hx
  simp only [DataW.weights, Try.underlying22, List.mem_cons, List.mem_append, bytes42, List.length_map, List.length_range] at hw
  have hrb := reachBytes_lt
  have hlen : len ≤ reachBytes := by
    have := hw _ (.inl rfl)
    omega
  have hc : ∀ i, i < len → ∃ c : Cell, (w.cell? (a.add (i * 3)) = some (.int .i64 c.kind) ∧ w.cell? (a.add (i * 3 + 1)) = some (.string c.name) ∧ w.cell? (a.add (i * 3 + 2)) = some (.int .i64 c.n)) ∧ c.name.size ≤ reachBytes := by
    intro i hil
    obtain ⟨cs', hc1, ht1⟩ := hi i (by omega)
    rw [cells42] at hc1
    obtain ⟨c, d0, d2, c0, c1, c2, hD⟩ := cell_fields hc1 ht1
    rw [Go.Deep.add_add] at c0 c1 c2
    refine ⟨c, ⟨c0, c1, c2⟩, ?_⟩
    have hmem : D i ∈ (List.range len).map D := List.mem_map.2 ⟨i, List.mem_range.2 hil, rfl⟩
    have h1 := hw c.name.data.toList.length (.inr (.inl (weightsAll_mem hmem _ (by
      rw [hD]
      simp only [DataW.weights, Try.underlying42]
      exact DataW.weights_mem_each (j := 1) (t := 9) (d := .lit (.string c.name.data.toList)) rfl rfl _ (by simp [DataW.weights])))))
    simpa using h1
  obtain ⟨l, hll, hq⟩ := listed len hc
  refine ⟨_, l, rfl, ⟨.sl l.length (l.flatMap encC), ?_, .inr rfl⟩, ?_, fun c hc => ?_⟩
  · simp only [SR]
    refine ⟨some a, cap, by rw [hll], by omega, ?_⟩
    cases hle : l with
    | nil => left; rfl
    | cons c0 l0 =>
      right
      have hpos : 0 < l.length := by rw [hle]; simp
      have h0 := cell_spot (hq 0 hpos).1.1
      have ha : a.spot = none := h0.1
      have hblk : a.block < w.heap.size := h0.2
      have hadd : ∀ k, a.add k = ⟨a.block, a.off + k, none⟩ := fun k => by
        unfold Addr.add
        cases a
        simp only at ha
        subst ha
        split <;> simp_all
      refine ⟨a.block, a.off, (c0 :: l0).flatMap valC, by rw [← ha], srs_cells _ _ _, ?_⟩
      rw [← hle]
      refine mem_cells hblk l a.off fun i hi => ?_
      have := (hq i hi).1
      simpa only [hadd] using this
  · omega
  · obtain ⟨i, hi, rfl⟩ := List.getElem_of_mem hc
    have h1 := (hq i hi).2
    omega
end
theorem u8_range {a : Int} (h : (Lit.int .u8 a).wf = true) : 0 ≤ a ∧ a ≤ 255 := by
  have h' : IntKind.u8.min ≤ a ∧ a ≤ IntKind.u8.max := by simpa [Lit.wf] using h
  exact h'
end Go.Am.Seat
/-
  Am: the walk's steps, in short words.
-/
namespace Go.Am
open Go.Proofs
section
variable {P : Program} {C : Cfg P} {X : Fr} {pb : Bool} {gd : Nat → Option Tmp} {Q : Slots → Me → Prop} {o : Oper} {rest : List Oper} {sl : Slots} {ob : Nat → Obj} {nx : Nat} {ls : Nat → LSt} {s : Me}
theorem wy1 {v : Va} {ob' : Nat → Obj} {t : Tmp} (ht : turn gd sl o.guard = .yes := by rfl) (hc : isCall o.op = false := by rfl) (hd : o.dst = some t := by rfl) (a : aop C pb (evA sl) ob nx o.op = some (v, ob')) (h : AwOps C X pb gd Q rest ((t, v) :: sl) ⟨ob', nx + 1, ls⟩) : AwOps C X pb gd Q (o :: rest) sl ⟨ob, nx, ls⟩ := awOps_yes ht hc hd a h
theorem wy0 {v : Va} {ob' : Nat → Obj} {t : Tmp} (ht : turn gd sl o.guard = .yes := by rfl) (hc : isCall o.op = false := by rfl) (hd : o.dst = some t := by rfl)
    (a : aop C pb (evA sl) ob nx o.op = some (v, ob') := by simp only [go_sem, ↓reduceIte, Nat.reduceEqDiff, reduceCtorEq, Nat.reduceAdd, Nat.reduceMul, Nat.reduceLeDiff, aLoad, aStore]; exact rfl) (h : AwOps C X pb gd Q rest ((t, v) :: sl) ⟨ob', nx + 1, ls⟩) : AwOps C X pb gd Q (o :: rest) sl ⟨ob, nx, ls⟩ := awOps_yes ht hc hd a h
theorem wz1 {v : Va} {ob' : Nat → Obj} (ht : turn gd sl o.guard = .yes := by rfl) (hc : isCall o.op = false := by rfl) (hd : o.dst = none := by rfl) (a : aop C pb (evA sl) ob nx o.op = some (v, ob')) (h : AwOps C X pb gd Q rest sl ⟨ob', nx + 1, ls⟩) : AwOps C X pb gd Q (o :: rest) sl ⟨ob, nx, ls⟩ := awOps_yes0 ht hc hd a h
theorem wz0 {v : Va} {ob' : Nat → Obj} (ht : turn gd sl o.guard = .yes := by rfl) (hc : isCall o.op = false := by rfl) (hd : o.dst = none := by rfl)
    (a : aop C pb (evA sl) ob nx o.op = some (v, ob') := by simp only [go_sem, ↓reduceIte, Nat.reduceEqDiff, reduceCtorEq, Nat.reduceAdd, Nat.reduceMul, Nat.reduceLeDiff, aLoad, aStore]; exact rfl) (h : AwOps C X pb gd Q rest sl ⟨ob', nx + 1, ls⟩) : AwOps C X pb gd Q (o :: rest) sl ⟨ob, nx, ls⟩ := awOps_yes0 ht hc hd a h
theorem wn {t : Tmp} (ht : turn gd sl o.guard = .no := by rfl) (hd : o.dst = some t := by rfl) (h : AwOps C X pb gd Q rest ((t, .tup []) :: sl) s) : AwOps C X pb gd Q (o :: rest) sl s := awOps_no ht hd h
theorem wc1 {K : Va → Me → Prop} {t : Tmp} (ht : turn gd sl o.guard = .yes := by rfl) (hc : isCall o.op = true := by rfl) (hd : o.dst = some t := by rfl) (a : CallT P X.L o.op (evA sl) ⟨ob, nx + 1, ls⟩ K) (h : ∀ v s', K v s' → AwOps C X pb gd Q rest ((t, v) :: sl) s') : AwOps C X pb gd Q (o :: rest) sl ⟨ob, nx, ls⟩ := awOps_call ht hc hd a h
theorem wc {K : Va → Me → Prop} {t : Tmp} (a : CallT P X.L o.op (evA sl) ⟨ob, nx + 1, ls⟩ K) (h : ∀ v s', K v s' → AwOps C X pb gd Q rest ((t, v) :: sl) s') (ht : turn gd sl o.guard = .yes := by rfl) (hc : isCall o.op = true := by rfl) (hd : o.dst = some t := by rfl) : AwOps C X pb gd Q (o :: rest) sl ⟨ob, nx, ls⟩ := awOps_call ht hc hd a h
theorem wy2 {v : Va} {ob' : Nat → Obj} {t : Tmp} (a : aop C pb (evA sl) ob nx o.op = some (v, ob')) (h : AwOps C X pb gd Q rest ((t, v) :: sl) ⟨ob', nx + 1, ls⟩) (ht : turn gd sl o.guard = .yes := by rfl) (hc : isCall o.op = false := by rfl) (hd : o.dst = some t := by rfl) : AwOps C X pb gd Q (o :: rest) sl ⟨ob, nx, ls⟩ := awOps_yes ht hc hd a h
end
section
variable {P : Program} {C : Cfg P} {X : Fr} {pb : Bool} {base : Nat} {gd : Nat → Option Tmp} {sp : Me} {K : Slots → Prop} {o : Oper} {l : List Oper} {i : Nat} {sl : Slots} {t : Tmp}
theorem ws1 {v : Va} {ob' : Nat → Obj} (ht : turn gd sl o.guard = .yes := by rfl) (hc : isCall o.op = false := by rfl) (hd : o.dst = some t := by rfl) (a : aop C pb (evA sl) sp.ob (base + i) o.op = some (v, ob')) (hob : ∀ j, ob' j = sp.ob j := by exact fun _ => rfl) (h : SilOps C X pb gd base sp K l (i + 1) ((t, v) :: sl)) : SilOps C X pb gd base sp K (o :: l) i sl := sil_yes ht hc hd a hob h
theorem ws0 {v : Va} {ob' : Nat → Obj} (ht : turn gd sl o.guard = .yes := by rfl) (hc : isCall o.op = false := by rfl) (hd : o.dst = some t := by rfl)
    (a : aop C pb (evA sl) sp.ob (base + i) o.op = some (v, ob') := by simp only [go_sem, ↓reduceIte, Nat.reduceEqDiff, reduceCtorEq, Nat.reduceAdd, Nat.reduceMul, Nat.reduceLeDiff, aLoad, aStore]; exact rfl) (hob : ∀ j, ob' j = sp.ob j := by exact fun _ => rfl) (h : SilOps C X pb gd base sp K l (i + 1) ((t, v) :: sl)) : SilOps C X pb gd base sp K (o :: l) i sl := sil_yes ht hc hd a hob h
theorem wsn (ht : turn gd sl o.guard = .no := by rfl) (hd : o.dst = some t := by rfl) (h : SilOps C X pb gd base sp K l (i + 1) ((t, .tup []) :: sl)) : SilOps C X pb gd base sp K (o :: l) i sl := sil_no ht hd h
theorem wsc1 {v : Va} (ht : turn gd sl o.guard = .yes := by rfl) (hc : isCall o.op = true := by rfl) (hd : o.dst = some t := by rfl) (a : CallT P X.L o.op (evA sl) sp fun v' s' => v' = v ∧ s' = sp) (h : SilOps C X pb gd base sp K l (i + 1) ((t, v) :: sl)) : SilOps C X pb gd base sp K (o :: l) i sl := sil_call ht hc hd a h
theorem wsc {v : Va} (a : CallT P X.L o.op (evA sl) sp fun v' s' => v' = v ∧ s' = sp) (h : SilOps C X pb gd base sp K l (i + 1) ((t, v) :: sl)) (ht : turn gd sl o.guard = .yes := by rfl) (hc : isCall o.op = true := by rfl) (hd : o.dst = some t := by rfl) : SilOps C X pb gd base sp K (o :: l) i sl := sil_call ht hc hd a h
end
end Go.Am
/-
  Am: that a drawn region's operations are ordered, shown by a row of masks (one number for each operation: what must be done ahead of it).
-/
namespace Go.Am
open Go.Proofs
def edgeMask (masks : List Nat) : List Edge → Nat
  | [] => 0
  | e :: l => if Region.binds .any e = true then ((1 <<< e.on) ||| masks.getD e.on 0) ||| edgeMask masks l else edgeMask masks l
def certGo (masks : List Nat) : List Oper → Nat → Bool
  | [], _ => true
  | o :: l, j => Nat.beq (masks.getD j 0) (edgeMask masks o.after.toList) && (o.after.toList.all fun e => !Region.binds .any e || Nat.ble (e.on + 1) j) && certGo masks l (j + 1)
def bitAt (masks : List Nat) (j i : Nat) : Bool := (masks.getD j 0).testBit i
def looksM (ops : Array Oper) (masks : List Nat) (j : Nat) : List Tmp → List (Option Tmp) → Nat → Option Tmp → Bool
  | _, [], _, _ => true
  | lk, none :: l, i, dj => looksM ops masks j lk l (i + 1) dj
  | lk, some d :: l, i, dj => (Nat.beq i j || ((!(lk.contains d) || (bif Nat.ble (i + 1) j then bitAt masks j i else bitAt masks i j)) && ((bif (dj == some d) then (bif Nat.ble (i + 1) j then bitAt masks j i else bitAt masks i j) else true)))) && looksM ops masks j lk l (i + 1) dj
def regGo (ops : Array Oper) (masks : List Nat) (ds : List (Option Tmp)) : List Oper → Nat → Bool
  | [], _ => true
  | o :: l, j => looksM ops masks j (o.looksAt ops) ds 0 o.dst && regGo ops masks ds l (j + 1)
def regM (ops : Array Oper) (masks : List Nat) : Bool := certGo masks ops.toList 0 && regGo ops masks (ops.toList.map (·.dst)) ops.toList 0
theorem edgeMask_bit {masks : List Nat} {i : Nat} : ∀ {l : List Edge}, (edgeMask masks l).testBit i = true → ∃ e ∈ l, Region.binds .any e = true ∧ (e.on = i ∨ (masks.getD e.on 0).testBit i = true)
  | [], h => by simp [edgeMask] at h
  | e :: l, h => by
    rw [edgeMask] at h
    split at h
    · rename_i hb
      rw [Nat.testBit_or, Nat.testBit_or, Bool.or_eq_true, Bool.or_eq_true] at h
      rcases h with (h | h) | h
      · rw [Nat.one_shiftLeft, Nat.testBit_two_pow, decide_eq_true_eq] at h
        exact ⟨e, by simp, hb, .inl h⟩
      · exact ⟨e, by simp, hb, .inr h⟩
      · obtain ⟨e', h1, h2⟩ := edgeMask_bit h
        exact ⟨e', by simp [h1], h2⟩
    · obtain ⟨e', h1, h2⟩ := edgeMask_bit h
      exact ⟨e', by simp [h1], h2⟩
theorem certGo_at {masks : List Nat} : ∀ {l : List Oper} {j k : Nat} {o : Oper}, certGo masks l j = true → l[k]? = some o → masks.getD (j + k) 0 = edgeMask masks o.after.toList ∧ ∀ e ∈ o.after.toList, Region.binds .any e = true → e.on < j + k
  | [], j, k, o, _, h => by simp at h
  | p :: l, j, 0, o, h, h1 => by
    simp only [List.getElem?_cons_zero, Option.some.injEq] at h1
    subst h1
    simp only [certGo, Bool.and_eq_true] at h
    refine ⟨Nat.eq_of_beq_eq_true h.1.1, fun e he hb => ?_⟩
    have := List.all_eq_true.1 h.1.2 e he
    rw [hb, Bool.not_true, Bool.false_or] at this
    have := Nat.le_of_ble_eq_true this
    omega
  | p :: l, j, k + 1, o, h, h1 => by
    simp only [List.getElem?_cons_succ] at h1
    simp only [certGo, Bool.and_eq_true] at h
    have := certGo_at h.2 h1
    rw [show j + 1 + k = j + (k + 1) by omega] at this
    exact this
theorem pre_bit {ops : Array Oper} {masks : List Nat} (h : certGo masks ops.toList 0 = true) : ∀ (f j i : Nat), j < f → j < ops.size → bitAt masks j i = true → pre ops f j i = true
  | 0, j, i, hj, _, _ => by omega
  | f + 1, j, i, hj, hs, hb => by
    have ho : ops.toList[j]? = some ops[j] := by rw [Array.getElem?_toList]; exact Array.getElem?_eq_getElem hs
    obtain ⟨h1, h2⟩ := certGo_at h ho
    rw [Nat.zero_add] at h1 h2
    rw [bitAt, h1] at hb
    obtain ⟨e, he, hbd, hc⟩ := edgeMask_bit hb
    have hlt := h2 e he hbd
    rw [pre, Array.getElem?_eq_getElem hs]
    dsimp only
    rw [Array.any_eq_true']
    refine ⟨e, by simpa using he, ?_⟩
    rw [hbd, Bool.true_and, Bool.or_eq_true, beq_iff_eq]
    rcases hc with hc | hc
    · exact .inl hc
    · exact .inr (pre_bit h f e.on i (by omega) (by omega) hc)
theorem looksM_at {ops : Array Oper} {masks : List Nat} {j : Nat} {lk : List Tmp} {dj : Option Tmp} : ∀ {l : List (Option Tmp)} {i k : Nat} {d : Tmp}, looksM ops masks j lk l i dj = true → l[k]? = some (some d) → (Nat.beq (i + k) j || ((!(lk.contains d) || (bif Nat.ble (i + k + 1) j then bitAt masks j (i + k) else bitAt masks (i + k) j)) && ((bif (dj == some d) then (bif Nat.ble (i + k + 1) j then bitAt masks j (i + k) else bitAt masks (i + k) j) else true)))) = true
  | [], i, k, d, _, h => by simp at h
  | none :: l, i, 0, d, _, h => by simp at h
  | some d' :: l, i, 0, d, h, h1 => by
    simp only [List.getElem?_cons_zero, Option.some.injEq] at h1
    subst h1
    rw [looksM, Bool.and_eq_true] at h
    exact h.1
  | none :: l, i, k + 1, d, h, h1 => by
    rw [looksM] at h
    have := looksM_at h (by simpa using h1)
    rwa [show i + 1 + k = i + (k + 1) by omega] at this
  | some d' :: l, i, k + 1, d, h, h1 => by
    rw [looksM, Bool.and_eq_true] at h
    have := looksM_at h.2 (by simpa using h1)
    rwa [show i + 1 + k = i + (k + 1) by omega] at this
theorem regGo_at {ops : Array Oper} {masks : List Nat} {ds : List (Option Tmp)} : ∀ {l : List Oper} {j k : Nat} {o : Oper}, regGo ops masks ds l j = true → l[k]? = some o → looksM ops masks (j + k) (o.looksAt ops) ds 0 o.dst = true
  | [], j, k, o, _, h => by simp at h
  | p :: l, j, 0, o, h, h1 => by
    simp only [List.getElem?_cons_zero, Option.some.injEq] at h1
    subst h1
    rw [regGo, Bool.and_eq_true] at h
    exact h.1
  | p :: l, j, k + 1, o, h, h1 => by
    rw [regGo, Bool.and_eq_true] at h
    have := regGo_at h.2 (by simpa using h1)
    rwa [show j + 1 + k = j + (k + 1) by omega] at this
theorem regOk_of {ops : Array Oper} {f : Nat} (masks : List Nat) (h : regM ops masks = true) (hf : ops.size = f) : regOk ops f = true := by
  rw [regM, Bool.and_eq_true] at h
  obtain ⟨hc, hr⟩ := h
  rw [regOk, List.all_eq_true]
  intro j hj
  have hj := List.mem_range.1 hj
  have ho : ops.toList[j]? = some ops[j] := by rw [Array.getElem?_toList]; exact Array.getElem?_eq_getElem hj
  have ho2 : ops[j]? = some ops[j] := Array.getElem?_eq_getElem hj
  have hlk := regGo_at hr ho
  rw [Nat.zero_add] at hlk
  rw [Bool.and_eq_true]
  constructor
  · rw [ho2]
    dsimp only
    rw [Array.all_eq_true']
    intro e he
    cases hb : Region.binds .any e
    · rfl
    · have := (certGo_at hc ho).2 e (by simpa using he) hb
      simp only [Bool.not_true, Bool.false_or, decide_eq_true_eq]
      omega
  · rw [List.all_eq_true]
    intro i hi
    have hi := List.mem_range.1 hi
    cases hd : dstOf ops i with
    | none => rfl
    | some d =>
      dsimp only
      have hdi : (ops.toList.map (·.dst))[i]? = some (some d) := by
        rw [List.getElem?_map, Array.getElem?_toList, Array.getElem?_eq_getElem hi]
        rw [dstOf, Array.getElem?_eq_getElem hi] at hd
        exact congrArg some hd
      have := looksM_at hlk hdi
      rw [Nat.zero_add] at this
      by_cases hij : i = j
      · simp [hij]
      · have hne : Nat.beq i j = false := by
          cases h : Nat.beq i j
          · rfl
          · exact absurd (Nat.eq_of_beq_eq_true h) hij
        have hne2 : (i == j) = false := by simpa using hij
        rw [hne, Bool.false_or, Bool.and_eq_true] at this
        rw [hne2, Bool.false_or, Bool.and_eq_true]
        have hl : looksOf ops j = ops[j].looksAt ops := by rw [looksOf, ho2]; rfl
        have hdj : dstOf ops j = ops[j].dst := by rw [dstOf, ho2]; rfl
        have key : (bif Nat.ble (i + 1) j then bitAt masks j i else bitAt masks i j) = true → (if i < j then pre ops f j i else pre ops f i j) = true := by
          intro h
          by_cases hlt : i < j
          · rw [if_pos hlt]
            rw [show Nat.ble (i + 1) j = true from Nat.ble_eq_true_of_le (by omega)] at h
            exact pre_bit hc f j i (by omega) hj h
          · rw [if_neg hlt]
            have : Nat.ble (i + 1) j = false := by
              cases h' : Nat.ble (i + 1) j
              · rfl
              · exact absurd (Nat.le_of_ble_eq_true h') (by omega)
            rw [this] at h
            exact pre_bit hc f i j (by omega) hi h
        rw [hl, hdj]
        constructor
        · rw [Bool.or_eq_true] at this ⊢
          exact this.1.imp id key
        · by_cases hdd : ops[j].dst = some d
          · rw [show (ops[j].dst == some d) = true from by rw [hdd]; exact beq_self_eq_true _] at this
            rw [Bool.or_eq_true]
            exact .inr (key this.2)
          · rw [Bool.or_eq_true]
            exact .inl (decide_eq_true hdd)
end Go.Am
/-
  MADE BY PROGRAM (am.py): the walks of functions 38.
-/
namespace Go.Am.Seat
open Go.Proofs

/-- The way to a class's own place, halved on the way: the place, and the ways then. -/
def own1 : Nat → (Nat → Nat) → Nat → Option (Nat × (Nat → Nat))
  | 0, _, _ => none
  | f + 1, p, a => if p a = a then some (a, p) else own1 f (upd p a (p (p a))) (p (p a))

theorem bod38 : Try.f38.body = some (Try.f38.body.getD .skip) := rfl
theorem fn38 (L : Loops) (F nn at_ r0 : Nat) (p0 p1 : Nat → Nat) (cid iu : Nat) (x d n : Av) (s : Me) (hcn : cid < s.nx) (hun : iu < s.nx) (hne : cid ≠ iu) (hc : s.ob cid = .cs [x, .own iu 0 nn 1, d, n] 0) (hu : s.ob iu = .cs (arrN nn p0) 0) (hat : at_ < nn) (hp : ∀ i, i < nn → p0 i < nn) (ho : own1 F p0 at_ = some (r0, p1)) : FnL Try.prog L 38 [.av (.ptr cid 0), vI at_] s fun r s' => r = vI (r0 : Nat) ∧ s' = ⟨upd s.ob iu (.cs (arrN nn p1) 0), s.nx, s.ls⟩ := by
  refine FnL.pureM (R := fun r => r = vI (r0 : Nat)) (upd s.ob iu (.cs (arrN nn p1) 0)) (fun i _ => upd_plain arrN_plain i) ?_
  refine fn_of_body (ts := [4]) Try.func38 bod38 rfl (by simp) (by simp [Try.ntmps38]) fun D0 => ?_
  unfold Try.f38
  simp only [Option.getD_some, initSl]
  refine aw_region_seq C (pb := false) rfl fun K hK => ?_
  repeat' (first | refine wy1 (a := by simp only [go_sem, ↓reduceIte, Nat.reduceEqDiff, reduceCtorEq, Nat.reduceAdd, Nat.reduceMul, Nat.reduceLeDiff]; exact rfl) (h := ?_) | fail)
  refine awOps_nil (hK _ _ ?_)
  clear hK K
  refine aw_seq ?_
  refine aw_block ?_
  refine AW.less (sl' := [(0, .av (.ptr cid 0)), (1, vI (at_))]) (AllIn.less ⟨rfl, rfl, trivial⟩) (aw_loop (fun k sl1 s1 => ∃ (kf : Nat) (a : Nat) (p : Nat → Nat), k = kf ∧ sl1 = [(0, .av (.ptr cid 0)), (1, vI (a))] ∧ (Kp (⟨upd s.ob iu (.cs (arrN nn p) 0), s.nx, s.ls⟩ : Me) s1) ∧ (a < nn ∧ (∀ i, i < nn → p i < nn)) ∧ (own1 kf p a = some (r0, p1))) (k := (F)) ⟨F, at_, p0, rfl, rfl, Kp.start hu (by omega), ⟨hat, hp⟩, ho⟩ ?_)
  rintro k1 _ s1 ⟨kf, a, p, hk1, rfl, hs1, hb, h3⟩
  have hcc : s1.ob cid = .cs [x, .own iu 0 nn 1, d, n] 0 := (hs1.2.1 cid hcn).trans ((upd_ne _ _ hne).trans hc)
  have huu : s1.ob iu = .cs (arrN nn p) 0 := (hs1.2.1 iu hun).trans (upd_same _ _ _)
  obtain ⟨hb1, hb2⟩ := hb
  have hb3 := hb2 a hb1
  have hb4 := hb2 _ hb3
  obtain ⟨kf, rfl⟩ : ∃ k', kf = k' + 1 := by
    cases kf with
    | zero => simp [own1] at h3
    | succ kf => exact ⟨kf, rfl⟩
  rw [own1] at h3
  refine aw_seq ?_
  refine aw_region_seq C (pb := false) rfl fun K hK => ?_
  repeat' (first | refine wy1 (a := by simp only [go_sem, ↓reduceIte, Nat.reduceEqDiff, reduceCtorEq, Nat.reduceAdd, Nat.reduceMul, Nat.reduceLeDiff, ldA hcc, ixO hb1, ldN huu hb1]; exact rfl) (h := ?_) | fail)
  refine awOps_nil (hK _ _ ?_)
  clear hK K
  refine aw_cond (by rfl) ?_ ?_
  · intro hc0
    try simp only [bne_iff_ne, ne_eq, bne_eq_false_iff_eq, Int.natCast_inj] at hc0
    refine aw_skip ?_
    simp only [thenA_normal, thenA_ret, thenA_exit, blockA_normal, blockA_ret, blockA_exit, ↓reduceIte, Nat.reduceEqDiff]
    refine aw_block ?_
    refine aw_dra_seq C (pb := false) 20 [19] [s1.ob, upd s1.ob iu (.cs (arrN nn (upd p a (p (p a)))) 0)] rfl (by kernel_rfl) (by kernel_rfl) rfl (fun _ _ => rfl) fun K hK => ?_
    iterate 19 (first | refine dra_yes [0] (by rfl) (by rfl) (by rfl) (by rfl) (by kernel_rfl) ⟨⟨_, by simp  only [go_sem, ↓reduceIte, Nat.reduceEqDiff, reduceCtorEq, Nat.reduceAdd, Nat.reduceMul, Nat.reduceLeDiff, osL_0, osL_1, osL_2, osL_3, osL_4, osL_5, osL_6, ldA hcc, ixO hb1, ldN huu hb1, ixO hb3, ldN huu hb3, stN huu hb1 (Nat.zero_le _)]; (try exact rfl), fun _ => rfl⟩, trivial⟩ ?_ | refine dra_no (by rfl) (by rfl) (by rfl) ?_)
    refine dra_eff0 (by rfl) (by rfl) (by rfl) (by rfl) (by simp  only [go_sem, ↓reduceIte, Nat.reduceEqDiff, reduceCtorEq, Nat.reduceAdd, Nat.reduceMul, Nat.reduceLeDiff, osL_0, osL_1, osL_2, osL_3, osL_4, osL_5, osL_6, ldA hcc, ixO hb1, ldN huu hb1, ixO hb3, ldN huu hb3, stN huu hb1 (Nat.zero_le _)]; exact rfl) (fun _ => rfl) ⟨Nat.le_refl _, rfl⟩ ?_
    refine dra_nil (hK _ ?_)
    simp only [osL_0, osL_1, osL_2, osL_3, osL_4, osL_5, osL_6, List.length_cons, List.length_nil, Nat.reduceAdd]
    clear hK K
    refine aw_region C (pb := false) rfl ?_
    repeat' (first | refine wy1 (a := by simp only [go_sem, ↓reduceIte, Nat.reduceEqDiff, reduceCtorEq, Nat.reduceAdd, Nat.reduceMul, Nat.reduceLeDiff, ldA (show upd s1.ob iu (.cs (arrN nn (upd p a (p (p a)))) 0) cid = _ from (upd_ne _ _ hne).trans hcc), ixO hb1, ldN (upd_same s1.ob iu (.cs (arrN nn (upd p a (p (p a)))) 0)) hb1]; exact rfl) (h := ?_) | fail)
    refine awOps_nil ?_
    try simp only [thenA_normal, thenA_ret, thenA_exit, blockA_normal, blockA_ret, blockA_exit]
    -- end of round 0 at 0t
    refine ⟨(kf), [(0, .av (.ptr cid 0)), (1, vI (p (p a)))], by omega, AllIn.less ⟨rfl, by simp only [get, if_pos, upd_same], trivial⟩, kf, p (p a), upd p a (p (p a)), rfl, rfl, ?_, ?_, ?_⟩
    · exact hs1.set (by omega)
    · refine ⟨hb4, fun i hi => ?_⟩
      by_cases h : i = a
      · subst h; rw [upd_same]; exact hb4
      · rw [upd_ne _ _ h]; exact hb2 i hi
    · rw [if_neg hc0] at h3
      exact h3
  · intro hc0
    try simp only [bne_iff_ne, ne_eq, bne_eq_false_iff_eq, Int.natCast_inj] at hc0
    refine aw_exit ?_
    simp only [thenA_normal, thenA_ret, thenA_exit, blockA_normal, blockA_ret, blockA_exit, ↓reduceIte, Nat.reduceEqDiff]
    refine aw_region_seq C (pb := false) rfl fun K hK => ?_
    repeat' (first | refine wy1 (a := by simp only [go_sem, ↓reduceIte, Nat.reduceEqDiff, reduceCtorEq, Nat.reduceAdd, Nat.reduceMul, Nat.reduceLeDiff]; exact rfl) (h := ?_) | fail)
    refine awOps_nil (hK _ _ ?_)
    clear hK K
    refine aw_ret ?_
    simp only [go_sem, ↓reduceIte, Nat.reduceEqDiff, reduceCtorEq, Nat.reduceAdd, Nat.reduceMul, Nat.reduceLeDiff, FnQ, resA]
    -- 0f.x0.ret
    rw [if_pos hc0] at h3
    cases h3
    exact fun _ => ⟨by first | rfl | trivial, hs1.2.1, hs1.2.2, rfl⟩
end Go.Am.Seat
/-
  MADE BY PROGRAM (am.py): the walks of functions 64.
-/
namespace Go.Am.Seat
open Go.Proofs
theorem bod64 : Try.f64.body = some (Try.f64.body.getD .skip) := rfl
theorem fn64x (L : Loops) (at_ : Int) (cid : Nat) (s : Me)  : FnL Try.prog L 64 [.av (.ptr cid 0), vI at_] s fun r s' => r = .av (.fn 80 [] [.ptr s.nx 0, .ptr (s.nx + 1) 0]) ∧ s' = ⟨upd (upd s.ob s.nx (.cs [.ptr cid 0] 0)) (s.nx + 1) (.cs [.sc (.int .i64 at_)] 0), s.nx + 5, s.ls⟩ := by
  refine fn_of_body (ts := [4]) Try.func64 bod64 rfl (by simp) (by simp [Try.ntmps64]) fun D0 => ?_
  unfold Try.f64
  simp only [Option.getD_some, initSl]
  refine aw_region_seq C (pb := false) rfl fun K hK => ?_
  repeat' (first | refine wy0 (h := ?_) | fail)
  refine awOps_nil (hK _ _ ?_)
  clear hK K
  refine aw_region_seq C (pb := false) rfl fun K hK => ?_
  repeat' (first | refine wy1 (a := by simp only [go_sem, ↓reduceIte, Nat.reduceEqDiff, reduceCtorEq, Nat.reduceAdd, Nat.reduceMul, Nat.reduceLeDiff, aLoad, aStore, avs]; exact rfl) (h := ?_) | fail)
  refine awOps_nil (hK _ _ ?_)
  clear hK K
  refine aw_ret ?_
  simp only [go_sem, ↓reduceIte, Nat.reduceEqDiff, reduceCtorEq, Nat.reduceAdd, Nat.reduceMul, Nat.reduceLeDiff, aLoad, aStore, FnQ, resA]
  -- .ret
  exact fun _ => ⟨by first | rfl | trivial, by first | rfl | trivial⟩
theorem fn64 (L : Loops) (at_ : Int) (cid : Nat) (s : Me)  : FnL Try.prog L 64 [.av (.ptr cid 0), vI at_] s fun r s' => ∃ bc ba m, r = .av (.fn 80 [] [.ptr bc 0, .ptr ba 0]) ∧ s.nx ≤ bc ∧ bc < ba ∧ ba < m ∧ s' = ⟨upd (upd s.ob bc (.cs [.ptr cid 0] 0)) ba (.cs [.sc (.int .i64 at_)] 0), m, s.ls⟩ :=
  FnL.mono (fn64x L at_ cid s) fun r s' ⟨h1, h2⟩ => ⟨s.nx, s.nx + 1, s.nx + 5, h1, Nat.le_refl _, by omega, by omega, h2⟩
end Go.Am.Seat
/-
  MADE BY PROGRAM (am.py): the walks of functions 54.
-/
namespace Go.Am.Seat
open Go.Proofs

def arC (c : Cell) : Nat := if c.kind = 3 then c.n.toNat else 0
/-- How many cells o terms at the front take up. -/
def takes : List Cell → Nat → Option Nat
  | _, 0 => some 0
  | [], _ + 1 => none
  | c :: l, o + 1 => (takes l (o + arC c)).map (· + 1)
theorem takes_cons {c : Cell} {l : List Cell} {o q : Nat} (ho : 0 < o) (h : takes (c :: l) o = some q) : ∃ p, q = p + 1 ∧ takes l (o - 1 + arC c) = some p := by
  obtain ⟨o, rfl⟩ : ∃ p, o = p + 1 := ⟨o - 1, by omega⟩
  simp only [takes] at h
  obtain ⟨p, h1, h2⟩ := Option.map_eq_some_iff.1 h
  exact ⟨p, h2.symm, by simpa using h1⟩
theorem takes_nil {o q : Nat} (ho : 0 < o) (h : takes [] o = some q) : False := by
  obtain ⟨o, rfl⟩ : ∃ p, o = p + 1 := ⟨o - 1, by omega⟩
  simp [takes] at h
theorem takes_zero {l : List Cell} {q : Nat} (h : takes l 0 = some q) : q = 0 := by
  cases l <;> simp [takes] at h <;> omega

theorem bod54 : Try.f54.body = some (Try.f54.body.getD .skip) := rfl
theorem fn54 (L : Loops) (t : List Cell) (at_ kk : Nat) (s : Me) (x : Sc) (hx : GSl encC x t) (hl : t.length ≤ 1000000000) (hn : ∀ c ∈ t, c.kind = 3 → 0 ≤ c.n ∧ c.n ≤ 1000) (hk : takes (t.drop at_) 1 = some kk) (hat : at_ ≤ 1000000000) : FnL Try.prog L 54 [.av (.sc x), vI at_] s fun r s' => (r = vI ((at_ + kk : Nat) : Int)) ∧ s' = s := by
  refine FnL.pure (R := fun r => r = vI ((at_ + kk : Nat) : Int)) ?_
  refine fn_of_body (ts := [4]) Try.func54 bod54 rfl (by simp) (by simp [Try.ntmps54]) fun D0 => ?_
  unfold Try.f54
  simp only [Option.getD_some, initSl]
  refine aw_region_seq C (pb := false) rfl fun K hK => ?_
  repeat' (first | refine wy0 (h := ?_) | fail)
  refine awOps_nil (hK _ _ ?_)
  clear hK K
  refine aw_region_seq C (pb := false) rfl fun K hK => ?_
  repeat' (first | refine wy0 (h := ?_) | fail)
  refine awOps_nil (hK _ _ ?_)
  clear hK K
  refine aw_seq ?_
  refine aw_block ?_
  refine AW.less (sl' := [(0, .av (.sc x)), (1, vI (at_)), (5, vI (1))]) (AllIn.less ⟨rfl, rfl, rfl, trivial⟩) (aw_loop (fun k sl1 s1 => ∃ (i : Nat) (o : Int) (q : Nat), k = q ∧ sl1 = [(0, .av (.sc x)), (1, vI (i)), (5, vI (o))] ∧ (Kp s s1) ∧ (i + q = at_ + kk ∧ at_ ≤ i ∧ 0 ≤ o ∧ o ≤ 1 + 1000 * ((i : Int) - at_) ∧ (at_ < i → i ≤ t.length)) ∧ (takes (t.drop i) o.toNat = some q)) (k := (kk)) ⟨at_, 1, kk, rfl, rfl, (Kp.refl s).up (by omega), by omega, hk⟩ ?_)
  rintro k1 _ s1 ⟨i, o, q, hk1, rfl, hs1, hb, h3⟩
  refine aw_seq ?_
  refine aw_region_seq C (pb := false) rfl fun K hK => ?_
  repeat' (first | refine wy0 (h := ?_) | fail)
  refine awOps_nil (hK _ _ ?_)
  clear hK K
  refine aw_cond (by rfl) ?_ ?_
  · intro hc0
    try simp only [decide_eq_true_eq, decide_eq_false_iff_not] at hc0
    have hi2 : i < t.length := by
      rcases Nat.lt_or_ge i t.length with h | h
      · exact h
      · rw [List.drop_of_length_le h] at h3; exact (takes_nil (by omega) h3).elim
    rw [List.drop_eq_getElem_cons hi2] at h3
    obtain ⟨p, rfl, h4⟩ := takes_cons (by omega) h3
    have hni := hn t[i] (List.getElem_mem hi2)
    refine aw_skip ?_
    simp only [thenA_normal, thenA_ret, thenA_exit, blockA_normal, blockA_ret, blockA_exit, ↓reduceIte, Nat.reduceEqDiff]
    refine aw_block ?_
    refine aw_region_seq C (pb := false) rfl fun K hK => ?_
    repeat' (first | refine wy1 (a := by simp only [go_sem, ↓reduceIte, Nat.reduceEqDiff, reduceCtorEq, Nat.reduceAdd, Nat.reduceMul, Nat.reduceLeDiff, aLoad, aStore, wrap_small (o - 1) (by omega) (by omega)]; exact rfl) (h := ?_) | fail)
    refine awOps_nil (hK _ _ ?_)
    clear hK K
    refine aw_seq ?_
    refine aw_region_seq C (pb := false) rfl fun K hK => ?_
    repeat' (first | refine wy1 (a := by simp only [go_sem, ↓reduceIte, Nat.reduceEqDiff, reduceCtorEq, Nat.reduceAdd, Nat.reduceMul, Nat.reduceLeDiff, aLoad, aStore, idxC hx hi2]; exact rfl) (h := ?_) | fail)
    refine awOps_nil (hK _ _ ?_)
    clear hK K
    refine aw_cond (by rfl) ?_ ?_
    · intro hc1
      try simp only [beq_iff_eq, beq_eq_false_iff_ne, ne_eq] at hc1
      have hn3 := hni hc1
      refine aw_region C (pb := false) rfl ?_
      repeat' (first | refine wy1 (a := by simp only [go_sem, ↓reduceIte, Nat.reduceEqDiff, reduceCtorEq, Nat.reduceAdd, Nat.reduceMul, Nat.reduceLeDiff, aLoad, aStore, idxC hx hi2, wrap_small (o - 1 + t[i].n) (by omega) (by omega)]; exact rfl) (h := ?_) | fail)
      refine awOps_nil ?_
      try simp only [thenA_normal, thenA_ret, thenA_exit, blockA_normal, blockA_ret, blockA_exit]
      refine aw_region C (pb := false) rfl ?_
      repeat' (first | refine wy1 (a := by simp only [go_sem, ↓reduceIte, Nat.reduceEqDiff, reduceCtorEq, Nat.reduceAdd, Nat.reduceMul, Nat.reduceLeDiff, aLoad, aStore, wrap_small ((i : Int) + 1) (by omega) (by omega)]; exact rfl) (h := ?_) | fail)
      refine awOps_nil ?_
      try simp only [thenA_normal, thenA_ret, thenA_exit, blockA_normal, blockA_ret, blockA_exit]
      -- end of round 0 at 0t1t
      refine ⟨(p), [(0, .av (.sc x)), (1, vI (i + 1)), (5, vI (o - 1 + t[i].n))], by omega, AllIn.less ⟨rfl, rfl, rfl, trivial⟩, i + 1, o - 1 + t[i].n, p, rfl, rfl, ?_, ?_, ?_⟩
      · exact hs1.up (by omega)
      · omega
      · rw [show (o - 1 + t[i].n).toNat = o.toNat - 1 + arC t[i] by rw [arC, if_pos hc1]; omega]
        exact h4
    · intro hc1
      try simp only [beq_iff_eq, beq_eq_false_iff_ne, ne_eq] at hc1
      refine aw_skip ?_
      simp only [thenA_normal, thenA_ret, thenA_exit, blockA_normal, blockA_ret, blockA_exit, ↓reduceIte, Nat.reduceEqDiff]
      refine aw_region C (pb := false) rfl ?_
      repeat' (first | refine wy1 (a := by simp only [go_sem, ↓reduceIte, Nat.reduceEqDiff, reduceCtorEq, Nat.reduceAdd, Nat.reduceMul, Nat.reduceLeDiff, aLoad, aStore, wrap_small ((i : Int) + 1) (by omega) (by omega)]; exact rfl) (h := ?_) | fail)
      refine awOps_nil ?_
      try simp only [thenA_normal, thenA_ret, thenA_exit, blockA_normal, blockA_ret, blockA_exit]
      -- end of round 0 at 0t1f
      refine ⟨(p), [(0, .av (.sc x)), (1, vI (i + 1)), (5, vI (o - 1))], by omega, AllIn.less ⟨rfl, rfl, rfl, trivial⟩, i + 1, o - 1, p, rfl, rfl, ?_, ?_, ?_⟩
      · exact hs1.up (by omega)
      · omega
      · rw [show (o - 1).toNat = o.toNat - 1 + arC t[i] by rw [arC, if_neg hc1]; omega]
        exact h4
  · intro hc0
    try simp only [decide_eq_true_eq, decide_eq_false_iff_not] at hc0
    refine aw_exit ?_
    simp only [thenA_normal, thenA_ret, thenA_exit, blockA_normal, blockA_ret, blockA_exit, ↓reduceIte, Nat.reduceEqDiff]
    refine aw_region_seq C (pb := false) rfl fun K hK => ?_
    repeat' (first | refine wy0 (h := ?_) | fail)
    refine awOps_nil (hK _ _ ?_)
    clear hK K
    refine aw_ret ?_
    simp only [go_sem, ↓reduceIte, Nat.reduceEqDiff, reduceCtorEq, Nat.reduceAdd, Nat.reduceMul, Nat.reduceLeDiff, aLoad, aStore, FnQ, resA]
    -- 0f.x0.ret
    have ho : o = 0 := by omega
    subst ho
    have hq := takes_zero h3
    exact fun _ => ⟨by first | rfl | trivial, hs1.2.1, hs1.2.2, by rw [show at_ + kk = i by omega]⟩
end Go.Am.Seat
/-
  MADE BY PROGRAM (am.py): the walks of functions 47.
-/
namespace Go.Am.Seat
open Go.Proofs
theorem bod47 : Try.f47.body = some (Try.f47.body.getD .skip) := rfl
theorem fn47 (L : Loops) (t : List Cell) (at_ kk : Nat) (cid fz : Nat) (u d n : Av) (s : Me) (x : Sc) (hx : GSl encC x t) (hc : s.ob cid = .cs [.sc x, u, d, n] fz) (hcn : cid < s.nx) (hl : t.length ≤ 1000000000) (hn : ∀ c ∈ t, c.kind = 3 → 0 ≤ c.n ∧ c.n ≤ 1000) (hk : takes (t.drop at_) 1 = some kk) (hat : at_ ≤ 1000000000) : FnL Try.prog L 47 [.av (.ptr cid 0), vI at_] s fun r s' => (r = vI ((at_ + kk : Nat) : Int)) ∧ s' = s := by
  refine FnL.pure (R := fun r => r = vI ((at_ + kk : Nat) : Int)) ?_
  refine fn_of_body (ts := [4]) Try.func47 bod47 rfl (by simp) (by simp [Try.ntmps47]) fun D0 => ?_
  unfold Try.f47
  simp only [Option.getD_some, initSl]
  refine aw_region_seq C (pb := false) rfl fun K hK => ?_
  repeat' (first | refine wy0 (h := ?_) | fail)
  refine awOps_nil (hK _ _ ?_)
  clear hK K
  refine aw_seq ?_
  refine aw_region_seq C (pb := false) rfl fun K hK => ?_
  repeat' (first | refine wy0 (h := ?_) | fail)
  refine awOps_nil (hK _ _ ?_)
  clear hK K
  refine aw_block ?_
  refine AW.less (sl' := [(0, .av (.ptr cid 0)), (1, vI (at_)), (5, vI (1))]) (AllIn.less ⟨rfl, rfl, rfl, trivial⟩) (aw_loop (fun k sl1 s1 => ∃ (i : Nat) (o : Int) (q : Nat), k = q ∧ sl1 = [(0, .av (.ptr cid 0)), (1, vI (i)), (5, vI (o))] ∧ (Kp s s1) ∧ (i + q = at_ + kk ∧ at_ ≤ i ∧ 0 ≤ o ∧ o ≤ 1 + 1000 * ((i : Int) - at_) ∧ (at_ < i → i ≤ t.length)) ∧ (takes (t.drop i) o.toNat = some q)) (k := (kk)) ⟨at_, 1, kk, rfl, rfl, (Kp.refl s).up (by omega), by omega, hk⟩ ?_)
  rintro k1 _ s1 ⟨i, o, q, hk1, rfl, hs1, hb, h3⟩
  have hc1 : s1.ob cid = .cs [.sc x, u, d, n] fz := (hs1.2.1 cid hcn).trans hc
  refine aw_seq ?_
  refine aw_region_seq C (pb := false) rfl fun K hK => ?_
  repeat' (first | refine wy0 (h := ?_) | fail)
  refine awOps_nil (hK _ _ ?_)
  clear hK K
  refine aw_cond (by rfl) ?_ ?_
  · intro hc0
    try simp only [decide_eq_true_eq, decide_eq_false_iff_not] at hc0
    have hi2 : i < t.length := by
      rcases Nat.lt_or_ge i t.length with h | h
      · exact h
      · rw [List.drop_of_length_le h] at h3; exact (takes_nil (by omega) h3).elim
    rw [List.drop_eq_getElem_cons hi2] at h3
    obtain ⟨p, rfl, h4⟩ := takes_cons (by omega) h3
    have hni := hn t[i] (List.getElem_mem hi2)
    have hcc := hc1
    refine aw_skip ?_
    simp only [thenA_normal, thenA_ret, thenA_exit, blockA_normal, blockA_ret, blockA_exit, ↓reduceIte, Nat.reduceEqDiff]
    refine aw_seq ?_
    refine aw_block ?_
    refine aw_region_seq C (pb := false) rfl fun K hK => ?_
    repeat' (first | refine wy1 (a := by simp only [go_sem, ↓reduceIte, Nat.reduceEqDiff, reduceCtorEq, Nat.reduceAdd, Nat.reduceMul, Nat.reduceLeDiff, aLoad, aStore, wrap_small (o - 1) (by omega) (by omega)]; exact rfl) (h := ?_) | fail)
    refine awOps_nil (hK _ _ ?_)
    clear hK K
    refine aw_region_seq C (pb := false) rfl fun K hK => ?_
    repeat' (first | refine wy1 (a := by simp only [go_sem, ↓reduceIte, Nat.reduceEqDiff, reduceCtorEq, Nat.reduceAdd, Nat.reduceMul, Nat.reduceLeDiff, aLoad, aStore, hcc, idxC hx hi2]; exact rfl) (h := ?_) | fail)
    refine awOps_nil (hK _ _ ?_)
    clear hK K
    refine aw_cond (by rfl) ?_ ?_
    · intro hc1
      try simp only [beq_iff_eq, beq_eq_false_iff_ne, ne_eq] at hc1
      have hn3 := hni hc1
      refine aw_region C (pb := false) rfl ?_
      repeat' (first | refine wy1 (a := by simp only [go_sem, ↓reduceIte, Nat.reduceEqDiff, reduceCtorEq, Nat.reduceAdd, Nat.reduceMul, Nat.reduceLeDiff, aLoad, aStore, hcc, idxC hx hi2, wrap_small (o - 1 + t[i].n) (by omega) (by omega)]; exact rfl) (h := ?_) | fail)
      refine awOps_nil ?_
      try simp only [thenA_normal, thenA_ret, thenA_exit, blockA_normal, blockA_ret, blockA_exit]
      refine aw_region C (pb := false) rfl ?_
      repeat' (first | refine wy1 (a := by simp only [go_sem, ↓reduceIte, Nat.reduceEqDiff, reduceCtorEq, Nat.reduceAdd, Nat.reduceMul, Nat.reduceLeDiff, aLoad, aStore, wrap_small ((i : Int) + 1) (by omega) (by omega)]; exact rfl) (h := ?_) | fail)
      refine awOps_nil ?_
      try simp only [thenA_normal, thenA_ret, thenA_exit, blockA_normal, blockA_ret, blockA_exit]
      -- end of round 0 at 0t1t
      refine ⟨(p), [(0, .av (.ptr cid 0)), (1, vI (i + 1)), (5, vI (o - 1 + t[i].n))], by omega, AllIn.less ⟨rfl, rfl, rfl, trivial⟩, i + 1, o - 1 + t[i].n, p, rfl, rfl, ?_, ?_, ?_⟩
      · exact hs1.up (by omega)
      · omega
      · rw [show (o - 1 + t[i].n).toNat = o.toNat - 1 + arC t[i] by rw [arC, if_pos hc1]; omega]
        exact h4
    · intro hc1
      try simp only [beq_iff_eq, beq_eq_false_iff_ne, ne_eq] at hc1
      refine aw_skip ?_
      simp only [thenA_normal, thenA_ret, thenA_exit, blockA_normal, blockA_ret, blockA_exit, ↓reduceIte, Nat.reduceEqDiff]
      refine aw_region C (pb := false) rfl ?_
      repeat' (first | refine wy1 (a := by simp only [go_sem, ↓reduceIte, Nat.reduceEqDiff, reduceCtorEq, Nat.reduceAdd, Nat.reduceMul, Nat.reduceLeDiff, aLoad, aStore, wrap_small ((i : Int) + 1) (by omega) (by omega)]; exact rfl) (h := ?_) | fail)
      refine awOps_nil ?_
      try simp only [thenA_normal, thenA_ret, thenA_exit, blockA_normal, blockA_ret, blockA_exit]
      -- end of round 0 at 0t1f
      refine ⟨(p), [(0, .av (.ptr cid 0)), (1, vI (i + 1)), (5, vI (o - 1))], by omega, AllIn.less ⟨rfl, rfl, rfl, trivial⟩, i + 1, o - 1, p, rfl, rfl, ?_, ?_, ?_⟩
      · exact hs1.up (by omega)
      · omega
      · rw [show (o - 1).toNat = o.toNat - 1 + arC t[i] by rw [arC, if_neg hc1]; omega]
        exact h4
  · intro hc0
    try simp only [decide_eq_true_eq, decide_eq_false_iff_not] at hc0
    refine aw_exit ?_
    simp only [thenA_normal, thenA_ret, thenA_exit, blockA_normal, blockA_ret, blockA_exit, ↓reduceIte, Nat.reduceEqDiff]
    refine aw_region_seq C (pb := false) rfl fun K hK => ?_
    repeat' (first | refine wy0 (h := ?_) | fail)
    refine awOps_nil (hK _ _ ?_)
    clear hK K
    refine aw_ret ?_
    simp only [go_sem, ↓reduceIte, Nat.reduceEqDiff, reduceCtorEq, Nat.reduceAdd, Nat.reduceMul, Nat.reduceLeDiff, aLoad, aStore, FnQ, resA]
    -- 0f.x0.ret
    have ho : o = 0 := by omega
    subst ho
    have hq := takes_zero h3
    exact fun _ => ⟨by first | rfl | trivial, hs1.2.1, hs1.2.2, by rw [show at_ + kk = i by omega]⟩
end Go.Am.Seat
/-
  MADE BY PROGRAM (am.py): the walks of functions 68.
-/
namespace Go.Am.Seat
open Go.Proofs

def nextG (t : List Cell) (to : Nat) : Nat := to + (takes (t.drop to) 1).getD 0
/-- The places of m terms, one behind the other. -/
def posG (t : List Cell) : Nat → Nat → List Int
  | _, 0 => []
  | to, m + 1 => (to : Int) :: posG t (nextG t to) m
def partsG (t : List Cell) (i : Nat) : List Int := match t[i]? with
  | some c => if c.kind = 3 then posG t (i + 1) c.n.toNat else []
  | none => []
theorem takes_len : ∀ {l : List Cell} {o q : Nat}, takes l o = some q → q ≤ l.length
  | _, 0, q, h => by rw [takes_zero h]; exact Nat.zero_le _
  | [], o + 1, q, h => (takes_nil (by omega) h).elim
  | c :: l, o + 1, q, h => by
    obtain ⟨p, rfl, h1⟩ := takes_cons (by omega) h
    have := takes_len h1
    simp
    omega
theorem takes_add {l : List Cell} : ∀ {q a b : Nat}, takes l (a + b) = some q → ∃ p, takes l a = some p ∧ p ≤ q ∧ takes (l.drop p) b = some (q - p) := by
  induction l with
  | nil =>
    intro q a b h
    cases a with
    | zero => exact ⟨0, by simp [takes], Nat.zero_le _, by simpa using h⟩
    | succ a => rw [show a + 1 + b = (a + b) + 1 by omega] at h; simp [takes] at h
  | cons c l ih =>
    intro q a b h
    cases a with
    | zero => exact ⟨0, by simp [takes], Nat.zero_le _, by simpa using h⟩
    | succ a =>
      rw [show a + 1 + b = (a + b) + 1 by omega] at h
      simp only [takes] at h ⊢
      obtain ⟨p, h1, h2⟩ := Option.map_eq_some_iff.1 h
      rw [show a + b + arC c = a + arC c + b by omega] at h1
      obtain ⟨r, h3, h4, h5⟩ := ih h1
      refine ⟨r + 1, by rw [h3]; rfl, by omega, ?_⟩
      rw [List.drop_succ_cons, h5]
      congr 1
      omega

theorem bod68 : Try.f68.body = some (Try.f68.body.getD .skip) := rfl
theorem fn68 (L : Loops) (t : List Cell) (at_ kk : Nat) (s : Me) (x : Sc) (hx : GSl encC x t) (hl : t.length ≤ 1000000) (hn : ∀ c ∈ t, c.kind = 3 → 0 ≤ c.n ∧ c.n ≤ 1000) (hk : takes (t.drop at_) 1 = some kk) (hat : at_ < t.length) : FnL Try.prog L 68 [.av (.sc x), vI at_] s fun r s' => (∃ y, r = .av (.sc y) ∧ GSl encI y (partsG t at_)) ∧ s' = s := by
  refine FnL.pure (R := fun r => ∃ y, r = .av (.sc y) ∧ GSl encI y (partsG t at_)) ?_
  refine fn_of_body (ts := [4]) Try.func68 bod68 rfl (by simp) (by simp [Try.ntmps68]) fun D0 => ?_
  unfold Try.f68
  simp only [Option.getD_some, initSl]
  refine aw_region_seq C (pb := false) rfl fun K hK => ?_
  repeat' (first | refine wy0 (h := ?_) | fail)
  refine awOps_nil (hK _ _ ?_)
  clear hK K
  refine aw_region_seq C (pb := false) rfl fun K hK => ?_
  repeat' (first | refine wy0 (h := ?_) | fail)
  refine awOps_nil (hK _ _ ?_)
  clear hK K
  refine aw_seq ?_
  refine aw_region_seq C (pb := false) rfl fun K hK => ?_
  repeat' (first | refine wy1 (a := by simp only [go_sem, ↓reduceIte, Nat.reduceEqDiff, reduceCtorEq, Nat.reduceAdd, Nat.reduceMul, Nat.reduceLeDiff, aLoad, aStore, idxC hx hat]; exact rfl) (h := ?_) | fail)
  refine awOps_nil (hK _ _ ?_)
  clear hK K
  refine aw_cond (by rfl) ?_ ?_
  · intro hc0
    try simp only [bne_iff_ne, ne_eq, bne_eq_false_iff_eq] at hc0
    have hacc0 : Acc s.nx (s.nx + 100) (upd s.ob (s.nx + 1) (.cs (zerosA [Sc.int .i64 0] 0) 0)) (.av (.own (s.nx + 1) 0 ([] : List Int).length 1)) ([] : List Int).length 1 ((([] : List Int).flatMap encI).map .sc) := .inr ⟨s.nx + 1, 0, rfl, by omega, by omega, by rw [upd_same]; rfl, by simp, by simp⟩
    obtain ⟨ty, ob7, hpv7, hty, hacc7, hlow7, _⟩ := Acc.pure (α := Int) (enc := encI) (k := 1) (l := []) (fun _ => rfl) hacc0
    refine aw_pur 5 hpv7 ?_
    refine aw_region_seq C (pb := false) rfl fun K hK => ?_
    repeat' (first | refine wy0 (h := ?_) | fail)
    refine awOps_nil (hK _ _ ?_)
    clear hK K
    refine aw_ret ?_
    try simp only [thenA_normal, thenA_ret, thenA_exit, blockA_normal, blockA_ret, blockA_exit]
    simp only [go_sem, ↓reduceIte, Nat.reduceEqDiff, reduceCtorEq, Nat.reduceAdd, Nat.reduceMul, Nat.reduceLeDiff, aLoad, aStore, FnQ, resA]
    -- 0t.ret
    exact fun _ => ⟨rfl, fun j hj => (hlow7 j hj).trans (upd_ne _ _ (by omega)), by first | rfl | trivial, ty, rfl, by rw [partsG, List.getElem?_eq_getElem hat]; simp only [if_neg hc0]; exact hty⟩
  · intro hc0
    try simp only [bne_iff_ne, ne_eq, bne_eq_false_iff_eq] at hc0
    refine aw_skip ?_
    simp only [thenA_normal, thenA_ret, thenA_exit, blockA_normal, blockA_ret, blockA_exit, ↓reduceIte, Nat.reduceEqDiff]
    refine aw_region_seq C (pb := false) rfl fun K hK => ?_
    repeat' (first | refine wy1 (a := by simp only [go_sem, ↓reduceIte, Nat.reduceEqDiff, reduceCtorEq, Nat.reduceAdd, Nat.reduceMul, Nat.reduceLeDiff, aLoad, aStore, wrap_small ((at_ : Int) + 1) (by omega) (by omega)]; exact rfl) (h := ?_) | fail)
    refine awOps_nil (hK _ _ ?_)
    clear hK K
    refine aw_seq ?_
    refine aw_region_seq C (pb := false) rfl fun K hK => ?_
    repeat' (first | refine wy0 (h := ?_) | fail)
    refine awOps_nil (hK _ _ ?_)
    clear hK K
    refine aw_block ?_
    have hk1 := hk
    rw [List.drop_eq_getElem_cons hat] at hk1
    obtain ⟨p0, _, hp0⟩ := takes_cons (by omega) hk1
    have hn0 := hn t[at_] (List.getElem_mem hat) hc0
    rw [show 1 - 1 + arC t[at_] = t[at_].n.toNat by rw [arC, if_pos hc0]; omega] at hp0
    have hpg : partsG t at_ = posG t (at_ + 1) t[at_].n.toNat := by
      rw [partsG, List.getElem?_eq_getElem hat]
      simp only [if_pos hc0]
    refine AW.less (sl' := [(0, .av (.sc x)), (1, vI at_), (5, (_)), (6, vI (at_ + 1)), (7, vI (0))]) (AllIn.less ⟨rfl, rfl, rfl, rfl, rfl, trivial⟩) (aw_loop (fun k sl1 s1 => ∃ (i : Nat) (to : Nat) (q : Nat) (m : Nat) (xo : Va) (out : List Int), k = m ∧ sl1 = [(0, .av (.sc x)), (1, vI at_), (5, (xo)), (6, vI (to)), (7, vI (i))] ∧ (Kp s s1) ∧ ((i : Int) + m = t[at_].n ∧ to ≤ t.length ∧ out.length = i) ∧ (takes (t.drop to) m = some q) ∧ (Acc s.nx s1.nx s1.ob xo out.length 1 ((out.flatMap encI).map .sc)) ∧ (out ++ posG t to m = partsG t at_)) (k := (t[at_].n.toNat)) ⟨0, at_ + 1, p0, t[at_].n.toNat, _, [], rfl, rfl, ⟨by first | omega | (dsimp only; omega), fun j hj => upd_ne _ _ (by omega), rfl⟩, by simp; omega, hp0, .inr ⟨_, 0, rfl, by first | omega | (dsimp only; omega), by first | omega | (dsimp only; omega), upd_same _ _ _, by simp, by simp⟩, by rw [hpg]; rfl⟩ ?_)
    rintro k1 _ s1 ⟨i, to, q, m, xo, out, hk1, rfl, hs1, hb, hq, hacc, h3⟩
    refine aw_seq ?_
    refine aw_region_seq C (pb := false) rfl fun K hK => ?_
    repeat' (first | refine wy1 (a := by simp only [go_sem, ↓reduceIte, Nat.reduceEqDiff, reduceCtorEq, Nat.reduceAdd, Nat.reduceMul, Nat.reduceLeDiff, aLoad, aStore, idxC hx hat]; exact rfl) (h := ?_) | fail)
    refine awOps_nil (hK _ _ ?_)
    clear hK K
    refine aw_cond (by rfl) ?_ ?_
    · intro hc1
      try simp only [decide_eq_true_eq, decide_eq_false_iff_not] at hc1
      have hm : 0 < m := by omega
      obtain ⟨p, hp, hpq0, hpq1⟩ := takes_add (a := 1) (b := m - 1) (by rw [show 1 + (m - 1) = m by omega]; exact hq)
      have hpq : takes (t.drop (to + p)) (m - 1) = some (q - p) := by rw [← List.drop_drop]; exact hpq1
      refine aw_skip ?_
      simp only [thenA_normal, thenA_ret, thenA_exit, blockA_normal, blockA_ret, blockA_exit, ↓reduceIte, Nat.reduceEqDiff]
      refine aw_seq ?_
      refine aw_block ?_
      refine aw_region_seq C (pb := false) rfl fun K hK => ?_
      repeat' (first | refine wy0 (h := ?_) | fail)
      refine awOps_append (by rfl) (by rfl) (by rfl) (by rfl) (hacc.up (hi' := s1.nx) (Nat.le_refl _) fun j h1 h2 => upd_ne _ _ (by omega)) T36 rfl T3 rfl (by simp) (by simp [y3]) (k := 1) (new := [.sc (.int .i64 to)]) (by simp [aSrc, evA, get, upd, zerosA]) (by simp) (by omega) (by omega) (by have := hs1.1; omega) fun x6 ob6 hacc6 hlow6 _ => ?_
      repeat' (first | refine wy0 (h := ?_) | fail)
      refine awOps_nil (hK _ _ ?_)
      clear hK K
      refine aw_region C (pb := false) rfl ?_
      repeat' (first | refine wy0 (h := ?_) | fail)
      (refine wc (And.intro Try.call54 (fn54 L t to p _ x hx (by omega) hn hp (by omega))) ?_; rintro _ _ ⟨rfl, rfl⟩)
      repeat' (first | refine wy0 (h := ?_) | fail)
      refine awOps_nil ?_
      try simp only [thenA_normal, thenA_ret, thenA_exit, blockA_normal, blockA_ret, blockA_exit]
      refine aw_region C (pb := false) rfl ?_
      repeat' (first | refine wy1 (a := by simp only [go_sem, ↓reduceIte, Nat.reduceEqDiff, reduceCtorEq, Nat.reduceAdd, Nat.reduceMul, Nat.reduceLeDiff, aLoad, aStore, wrap_small ((i : Int) + 1) (by have := hn t[at_] (List.getElem_mem hat); omega) (by omega)]; exact rfl) (h := ?_) | fail)
      refine awOps_nil ?_
      try simp only [thenA_normal, thenA_ret, thenA_exit, blockA_normal, blockA_ret, blockA_exit]
      -- end of round 0 at 0f1t
      refine ⟨(m - 1), [(0, .av (.sc x)), (1, vI at_), (5, (x6)), (6, vI (to + p)), (7, vI (i + 1))], by omega, AllIn.less ⟨rfl, rfl, rfl, rfl, rfl, trivial⟩, i + 1, to + p, q - p, m - 1, x6, out ++ [(to : Int)], rfl, rfl, ?_, ?_, ?_, ?_, ?_⟩
      · exact ⟨by have := hs1.1; first | omega | (dsimp only; omega), fun j hj => (hlow6 j hj).trans ((upd_ne _ _ (by have := hs1.1; omega)).trans (hs1.2.1 j hj)), hs1.2.2⟩
      · simp only [List.length_append, List.length_cons, List.length_nil]
        have := takes_len hp
        rw [List.length_drop] at this
        omega
      · exact hpq
      · simp only [List.length_append, List.length_cons, List.length_nil, List.flatMap_append, List.map_append, List.flatMap_cons, List.flatMap_nil, List.append_nil]
        exact hacc6.up (by first | omega | (dsimp only; omega)) fun _ _ _ => rfl
      · rw [← h3, List.append_assoc]
        congr 1
        obtain ⟨m, rfl⟩ : ∃ m', m = m' + 1 := ⟨m - 1, by omega⟩
        rw [posG, nextG, hp]
        rfl
    · intro hc1
      try simp only [decide_eq_true_eq, decide_eq_false_iff_not] at hc1
      refine aw_exit ?_
      simp only [thenA_normal, thenA_ret, thenA_exit, blockA_normal, blockA_ret, blockA_exit, ↓reduceIte, Nat.reduceEqDiff]
      obtain ⟨ty, ob7, hpv7, hty, hacc7, hlow7, _⟩ := Acc.pure (enc := encI) (k := 1) (fun _ => rfl) hacc
      refine aw_pur 5 hpv7 ?_
      refine aw_region_seq C (pb := false) rfl fun K hK => ?_
      repeat' (first | refine wy0 (h := ?_) | fail)
      refine awOps_nil (hK _ _ ?_)
      clear hK K
      refine aw_ret ?_
      simp only [go_sem, ↓reduceIte, Nat.reduceEqDiff, reduceCtorEq, Nat.reduceAdd, Nat.reduceMul, Nat.reduceLeDiff, aLoad, aStore, FnQ, resA]
      -- 0f1f.x0.ret
      have hm : m = 0 := by omega
      subst hm
      exact fun _ => ⟨rfl, fun j hj => (hlow7 j hj).trans (hs1.2.1 j hj), hs1.2.2, ty, rfl, by rw [← h3, posG, List.append_nil]; exact hty⟩
theorem fn68o (L : Loops) (t : List Cell) (at_ kk : Nat) (s : Me) (x : Sc) (hx : GSl encC x t) (hl : t.length ≤ 1000000) (hn : ∀ c ∈ t, c.kind = 3 → 0 ≤ c.n ∧ c.n ≤ 1000) (hk : takes (t.drop at_) 1 = some kk) (hat : at_ < t.length) : FnL Try.prog L 68 [.av (.sc x), vI at_] s fun r s' => ∃ ob' m, s' = ⟨ob', m, s.ls⟩ ∧ Acc s.nx m ob' r (partsG t at_).length 1 (((partsG t at_).flatMap encI).map .sc) ∧ s.nx ≤ m ∧ ∀ i, i < s.nx → ob' i = s.ob i := by
  refine fn_of_body (ts := [4]) Try.func68 bod68 rfl (by simp) (by simp [Try.ntmps68]) fun D0 => ?_
  unfold Try.f68
  simp only [Option.getD_some, initSl]
  refine aw_region_seq C (pb := false) rfl fun K hK => ?_
  repeat' (first | refine wy0 (h := ?_) | fail)
  refine awOps_nil (hK _ _ ?_)
  clear hK K
  refine aw_region_seq C (pb := false) rfl fun K hK => ?_
  repeat' (first | refine wy0 (h := ?_) | fail)
  refine awOps_nil (hK _ _ ?_)
  clear hK K
  refine aw_seq ?_
  refine aw_region_seq C (pb := false) rfl fun K hK => ?_
  repeat' (first | refine wy1 (a := by simp only [go_sem, ↓reduceIte, Nat.reduceEqDiff, reduceCtorEq, Nat.reduceAdd, Nat.reduceMul, Nat.reduceLeDiff, aLoad, aStore, idxC hx hat]; exact rfl) (h := ?_) | fail)
  refine awOps_nil (hK _ _ ?_)
  clear hK K
  refine aw_cond (by rfl) ?_ ?_
  · intro hc0
    try simp only [bne_iff_ne, ne_eq, bne_eq_false_iff_eq] at hc0
    refine aw_region_seq C (pb := false) rfl fun K hK => ?_
    repeat' (first | refine wy0 (h := ?_) | fail)
    refine awOps_nil (hK _ _ ?_)
    clear hK K
    refine aw_ret ?_
    try simp only [thenA_normal, thenA_ret, thenA_exit, blockA_normal, blockA_ret, blockA_exit]
    simp only [go_sem, ↓reduceIte, Nat.reduceEqDiff, reduceCtorEq, Nat.reduceAdd, Nat.reduceMul, Nat.reduceLeDiff, aLoad, aStore, FnQ, resA]
    -- 0t.ret
    rw [show partsG t at_ = [] by rw [partsG, List.getElem?_eq_getElem hat]; simp only [if_neg hc0]]
    exact fun _ => ⟨_, _, rfl, .inr ⟨s.nx + 1, 0, rfl, by omega, (by first | omega | (dsimp only; omega) | (dsimp only at *; omega)), upd_same _ _ _, by simp, by simp⟩, (by first | omega | (dsimp only; omega) | (dsimp only at *; omega)), fun j hj => upd_ne _ _ (by omega)⟩
  · intro hc0
    try simp only [bne_iff_ne, ne_eq, bne_eq_false_iff_eq] at hc0
    refine aw_skip ?_
    simp only [thenA_normal, thenA_ret, thenA_exit, blockA_normal, blockA_ret, blockA_exit, ↓reduceIte, Nat.reduceEqDiff]
    refine aw_region_seq C (pb := false) rfl fun K hK => ?_
    repeat' (first | refine wy1 (a := by simp only [go_sem, ↓reduceIte, Nat.reduceEqDiff, reduceCtorEq, Nat.reduceAdd, Nat.reduceMul, Nat.reduceLeDiff, aLoad, aStore, wrap_small ((at_ : Int) + 1) (by omega) (by omega)]; exact rfl) (h := ?_) | fail)
    refine awOps_nil (hK _ _ ?_)
    clear hK K
    refine aw_seq ?_
    refine aw_region_seq C (pb := false) rfl fun K hK => ?_
    repeat' (first | refine wy0 (h := ?_) | fail)
    refine awOps_nil (hK _ _ ?_)
    clear hK K
    refine aw_block ?_
    have hk1 := hk
    rw [List.drop_eq_getElem_cons hat] at hk1
    obtain ⟨p0, _, hp0⟩ := takes_cons (by omega) hk1
    have hn0 := hn t[at_] (List.getElem_mem hat) hc0
    rw [show 1 - 1 + arC t[at_] = t[at_].n.toNat by rw [arC, if_pos hc0]; omega] at hp0
    have hpg : partsG t at_ = posG t (at_ + 1) t[at_].n.toNat := by
      rw [partsG, List.getElem?_eq_getElem hat]
      simp only [if_pos hc0]
    refine AW.less (sl' := [(0, .av (.sc x)), (1, vI at_), (5, (_)), (6, vI (at_ + 1)), (7, vI (0))]) (AllIn.less ⟨rfl, rfl, rfl, rfl, rfl, trivial⟩) (aw_loop (fun k sl1 s1 => ∃ (i : Nat) (to : Nat) (q : Nat) (m : Nat) (xo : Va) (out : List Int), k = m ∧ sl1 = [(0, .av (.sc x)), (1, vI at_), (5, (xo)), (6, vI (to)), (7, vI (i))] ∧ (Kp s s1) ∧ ((i : Int) + m = t[at_].n ∧ to ≤ t.length ∧ out.length = i) ∧ (takes (t.drop to) m = some q) ∧ (Acc s.nx s1.nx s1.ob xo out.length 1 ((out.flatMap encI).map .sc)) ∧ (out ++ posG t to m = partsG t at_)) (k := (t[at_].n.toNat)) ⟨0, at_ + 1, p0, t[at_].n.toNat, _, [], rfl, rfl, ⟨by first | omega | (dsimp only; omega), fun j hj => upd_ne _ _ (by omega), rfl⟩, by simp; omega, hp0, .inr ⟨_, 0, rfl, by first | omega | (dsimp only; omega), by first | omega | (dsimp only; omega), upd_same _ _ _, by simp, by simp⟩, by rw [hpg]; rfl⟩ ?_)
    rintro k1 _ s1 ⟨i, to, q, m, xo, out, hk1, rfl, hs1, hb, hq, hacc, h3⟩
    refine aw_seq ?_
    refine aw_region_seq C (pb := false) rfl fun K hK => ?_
    repeat' (first | refine wy1 (a := by simp only [go_sem, ↓reduceIte, Nat.reduceEqDiff, reduceCtorEq, Nat.reduceAdd, Nat.reduceMul, Nat.reduceLeDiff, aLoad, aStore, idxC hx hat]; exact rfl) (h := ?_) | fail)
    refine awOps_nil (hK _ _ ?_)
    clear hK K
    refine aw_cond (by rfl) ?_ ?_
    · intro hc1
      try simp only [decide_eq_true_eq, decide_eq_false_iff_not] at hc1
      have hm : 0 < m := by omega
      obtain ⟨p, hp, hpq0, hpq1⟩ := takes_add (a := 1) (b := m - 1) (by rw [show 1 + (m - 1) = m by omega]; exact hq)
      have hpq : takes (t.drop (to + p)) (m - 1) = some (q - p) := by rw [← List.drop_drop]; exact hpq1
      refine aw_skip ?_
      simp only [thenA_normal, thenA_ret, thenA_exit, blockA_normal, blockA_ret, blockA_exit, ↓reduceIte, Nat.reduceEqDiff]
      refine aw_seq ?_
      refine aw_block ?_
      refine aw_region_seq C (pb := false) rfl fun K hK => ?_
      repeat' (first | refine wy0 (h := ?_) | fail)
      refine awOps_append (by rfl) (by rfl) (by rfl) (by rfl) (hacc.up (hi' := s1.nx) (Nat.le_refl _) fun j h1 h2 => upd_ne _ _ (by omega)) T36 rfl T3 rfl (by simp) (by simp [y3]) (k := 1) (new := [.sc (.int .i64 to)]) (by simp [aSrc, evA, get, upd, zerosA]) (by simp) (by omega) (by omega) (by have := hs1.1; omega) fun x6 ob6 hacc6 hlow6 _ => ?_
      repeat' (first | refine wy0 (h := ?_) | fail)
      refine awOps_nil (hK _ _ ?_)
      clear hK K
      refine aw_region C (pb := false) rfl ?_
      repeat' (first | refine wy0 (h := ?_) | fail)
      (refine wc (And.intro Try.call54 (fn54 L t to p _ x hx (by omega) hn hp (by omega))) ?_; rintro _ _ ⟨rfl, rfl⟩)
      repeat' (first | refine wy0 (h := ?_) | fail)
      refine awOps_nil ?_
      try simp only [thenA_normal, thenA_ret, thenA_exit, blockA_normal, blockA_ret, blockA_exit]
      refine aw_region C (pb := false) rfl ?_
      repeat' (first | refine wy1 (a := by simp only [go_sem, ↓reduceIte, Nat.reduceEqDiff, reduceCtorEq, Nat.reduceAdd, Nat.reduceMul, Nat.reduceLeDiff, aLoad, aStore, wrap_small ((i : Int) + 1) (by have := hn t[at_] (List.getElem_mem hat); omega) (by omega)]; exact rfl) (h := ?_) | fail)
      refine awOps_nil ?_
      try simp only [thenA_normal, thenA_ret, thenA_exit, blockA_normal, blockA_ret, blockA_exit]
      -- end of round 0 at 0f1t
      refine ⟨(m - 1), [(0, .av (.sc x)), (1, vI at_), (5, (x6)), (6, vI (to + p)), (7, vI (i + 1))], by omega, AllIn.less ⟨rfl, rfl, rfl, rfl, rfl, trivial⟩, i + 1, to + p, q - p, m - 1, x6, out ++ [(to : Int)], rfl, rfl, ?_, ?_, ?_, ?_, ?_⟩
      · exact ⟨by have := hs1.1; first | omega | (dsimp only; omega), fun j hj => (hlow6 j hj).trans ((upd_ne _ _ (by have := hs1.1; omega)).trans (hs1.2.1 j hj)), hs1.2.2⟩
      · simp only [List.length_append, List.length_cons, List.length_nil]
        have := takes_len hp
        rw [List.length_drop] at this
        omega
      · exact hpq
      · simp only [List.length_append, List.length_cons, List.length_nil, List.flatMap_append, List.map_append, List.flatMap_cons, List.flatMap_nil, List.append_nil]
        exact hacc6.up (by first | omega | (dsimp only; omega)) fun _ _ _ => rfl
      · rw [← h3, List.append_assoc]
        congr 1
        obtain ⟨m, rfl⟩ : ∃ m', m = m' + 1 := ⟨m - 1, by omega⟩
        rw [posG, nextG, hp]
        rfl
    · intro hc1
      try simp only [decide_eq_true_eq, decide_eq_false_iff_not] at hc1
      refine aw_exit ?_
      simp only [thenA_normal, thenA_ret, thenA_exit, blockA_normal, blockA_ret, blockA_exit, ↓reduceIte, Nat.reduceEqDiff]
      refine aw_region_seq C (pb := false) rfl fun K hK => ?_
      repeat' (first | refine wy0 (h := ?_) | fail)
      refine awOps_nil (hK _ _ ?_)
      clear hK K
      refine aw_ret ?_
      simp only [go_sem, ↓reduceIte, Nat.reduceEqDiff, reduceCtorEq, Nat.reduceAdd, Nat.reduceMul, Nat.reduceLeDiff, aLoad, aStore, FnQ, resA]
      -- 0f1f.x0.ret
      have hm : m = 0 := by omega
      subst hm
      rw [posG, List.append_nil] at h3
      rw [← h3]
      exact fun _ => ⟨s1.ob, _, by rw [hs1.2.2], hacc.up (by first | omega | (dsimp only; omega) | (dsimp only at *; omega)) fun _ _ _ => rfl, by have := hs1.1; exact (by first | omega | (dsimp only; omega) | (dsimp only at *; omega)), hs1.2.1⟩
end Go.Am.Seat
