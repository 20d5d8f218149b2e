/-
  Part 1 of the proof: AmA, AmB, AmC, AmD, AmE, AmF, AmG, AmH, AmI, AmJ, AmK, AmL, AmM, AmN.
-/
import Derived.Carry
import Derived.Laws.Cover3
import Derived.Laws.IdiomStrings
import Derived.Laws.MakeOwn
import Derived.Lib.AppendZerosOnto
import Derived.LoopNIn
import Derived.OrdersIn
import Derived.RangeFuncFrom
import Derived.RangeFuncLeaves
import Derived.RangeFuncRecord
import Derived.TacticsIn
import Derived.WalkKit
set_option linter.unusedVariables false
set_option linter.unusedSimpArgs false
/-
  Am, part A: the values of the abstract machine, and how they stand to the model's values and memory: plain data (Sc) inline; objects (Obj) by names; what is kept when the memory goes on (Evo).
-/
namespace Go.Am

/-- One cell of plain data. -/
inductive Sc where
  | int (k : IntKind) (n : Int)
  | bool (b : Bool)
  | str (s : ByteArray)
  | nilsl
  | sl (n : Nat) (cs : List Sc)
  | nilptr
  | cptr (cs : List Sc)
  | nilfn
  | nili
  | nilmap
  | iface (t : TypeId) (s : Sc)
  deriving Inhabited

/-- One cell: plain data, or something that leads to an object. -/
inductive Av where
  | sc (s : Sc)
  | own (id o n es : Nat)
  | ptr (id o : Nat)
  | fn (f : FuncId) (first caps : List Av)
  | map (id : Nat)
  | yl (l : Nat)
  deriving Inhabited

/-- What a slot holds. -/
inductive Va where
  | av (a : Av)
  | agg (cs : List Av)
  | tup (vs : List Va)
  | und
  deriving Inhabited

inductive Obj where
  | dead
  | cs (l : List Av) (fz : Nat)
  | mp (l : List (Sc × Av))
  deriving Inhabited

/-- Where an object's cells lie: block, first cell, the block's type and size. -/
structure Ent where
  b : Nat
  s : Nat
  t : TypeId
  sz : Nat

/-- Values that lie from a place on, all of which stay. -/
def Mem (G : Nat → Nat → Prop) (w : World) (b o : Nat) (vs : List Value) : Prop :=
  ∀ (j : Nat) v, vs[j]? = some v → G b (o + j) ∧ w.cell? ⟨b, o + j, none⟩ = some v

mutual
def SR (G : Nat → Nat → Prop) (w : World) : Sc → Value → Prop
  | .int k n, v => v = .int k n
  | .bool b, v => v = .bool b
  | .str s, v => v = .string s
  | .nilsl, v => v = .slice none 0 0
  | .sl n cs, v => ∃ A c, v = .slice A n c ∧ n ≤ c ∧ (cs = [] ∨ ∃ b o vs, A = some ⟨b, o, none⟩ ∧ SRs G w cs vs ∧ Mem G w b o vs)
  | .nilptr, v => v = .pointer none
  | .cptr cs, v => ∃ b o vs, v = .pointer (some ⟨b, o, none⟩) ∧ SRs G w cs vs ∧ Mem G w b o vs
  | .nilfn, v => v = .nilFunc
  | .nili, v => v = .nilIface
  | .nilmap, v => v = .map none
  | .iface t s, v => ∃ u, v = .iface t u ∧ SR G w s u
def SRs (G : Nat → Nat → Prop) (w : World) : List Sc → List Value → Prop
  | [], vs => vs = []
  | c :: cs, vs => ∃ u us, vs = u :: us ∧ SR G w c u ∧ SRs G w cs us
end

theorem SRs.length {G : Nat → Nat → Prop} {w : World} : ∀ {cs : List Sc} {vs : List Value}, SRs G w cs vs → vs.length = cs.length
  | [], vs, h => by simp only [SRs] at h; simp [h]
  | c :: cs, vs, h => by
    simp only [SRs] at h
    obtain ⟨u, us, rfl, _, h⟩ := h
    simp [SRs.length h]
theorem SRs.get {G : Nat → Nat → Prop} {w : World} : ∀ {cs : List Sc} {vs : List Value}, SRs G w cs vs → ∀ (j : Nat) c, cs[j]? = some c → ∃ v, vs[j]? = some v ∧ SR G w c v
  | [], vs, h, j, c, hc => by simp at hc
  | d :: cs, vs, h, j, c, hc => by
    simp only [SRs] at h
    obtain ⟨u, us, rfl, h1, h2⟩ := h
    cases j with
    | zero => simp at hc; subst hc; exact ⟨u, by simp, h1⟩
    | succ j => simpa using SRs.get h2 j c (by simpa using hc)
theorem SRs.drop {G : Nat → Nat → Prop} {w : World} : ∀ {cs : List Sc} {vs : List Value} (k : Nat), SRs G w cs vs → SRs G w (cs.drop k) (vs.drop k)
  | [], vs, k, h => by simp only [SRs] at h; subst h; simp [SRs]
  | c :: cs, vs, 0, h => by simpa using h
  | c :: cs, vs, k + 1, h => by
    simp only [SRs] at h
    obtain ⟨u, us, rfl, _, h⟩ := h
    simpa using SRs.drop k h
theorem SRs.take {G : Nat → Nat → Prop} {w : World} : ∀ {cs : List Sc} {vs : List Value} (k : Nat), SRs G w cs vs → SRs G w (cs.take k) (vs.take k)
  | [], vs, k, h => by simp only [SRs] at h; subst h; simp [SRs]
  | c :: cs, vs, 0, h => by simp [SRs]
  | c :: cs, vs, k + 1, h => by
    simp only [SRs] at h
    obtain ⟨u, us, rfl, h1, h⟩ := h
    simp only [List.take_succ_cons, SRs]
    exact ⟨u, us.take k, rfl, h1, SRs.take k h⟩
theorem SRs.append {G : Nat → Nat → Prop} {w : World} : ∀ {cs ds : List Sc} {vs us : List Value}, SRs G w cs vs → SRs G w ds us → SRs G w (cs ++ ds) (vs ++ us)
  | [], ds, vs, us, h, k => by simp only [SRs] at h; subst h; simpa using k
  | c :: cs, ds, vs, us, h, k => by
    simp only [SRs] at h
    obtain ⟨u, xs, rfl, h1, h⟩ := h
    simp only [List.cons_append, SRs]
    exact ⟨u, xs ++ us, rfl, h1, SRs.append h k⟩

theorem Mem.drop {G : Nat → Nat → Prop} {w : World} {b o : Nat} {vs : List Value} (h : Mem G w b o vs) (k : Nat) : Mem G w b (o + k) (vs.drop k) := by
  intro j v hj
  rw [List.getElem?_drop] at hj
  have := h (k + j) v hj
  rwa [← Nat.add_assoc] at this
theorem Mem.take {G : Nat → Nat → Prop} {w : World} {b o : Nat} {vs : List Value} (h : Mem G w b o vs) (k : Nat) : Mem G w b o (vs.take k) := by
  intro j v hj
  rw [List.getElem?_take] at hj
  split at hj
  · exact h j v hj
  · cases hj

/-! ### Memory goes on -/
/-- What stays does stay. -/
structure Stays (G : Nat → Nat → Prop) (w : World) (G' : Nat → Nat → Prop) (w' : World) : Prop where
  g : ∀ b o, G b o → G' b o
  cell : ∀ b o, G b o → w'.cell? ⟨b, o, none⟩ = w.cell? ⟨b, o, none⟩
theorem Stays.refl (G : Nat → Nat → Prop) (w : World) : Stays G w G w := ⟨fun _ _ h => h, fun _ _ _ => rfl⟩
theorem Stays.trans {G G' G'' : Nat → Nat → Prop} {w w' w'' : World} (h : Stays G w G' w') (k : Stays G' w' G'' w'') : Stays G w G'' w'' :=
  ⟨fun b o x => k.g b o (h.g b o x), fun b o x => (k.cell b o (h.g b o x)).trans (h.cell b o x)⟩
theorem Mem.stays {G G' : Nat → Nat → Prop} {w w' : World} (hs : Stays G w G' w') {b o : Nat} {vs : List Value} (h : Mem G w b o vs) : Mem G' w' b o vs :=
  fun j v hj => let ⟨h1, h2⟩ := h j v hj; ⟨hs.g _ _ h1, (hs.cell _ _ h1).trans h2⟩
mutual
theorem SR.stays {G G' : Nat → Nat → Prop} {w w' : World} (hs : Stays G w G' w') : ∀ {c : Sc} {v : Value}, SR G w c v → SR G' w' c v
  | .int k n, v, h => by simpa only [SR] using h
  | .bool b, v, h => by simpa only [SR] using h
  | .str s, v, h => by simpa only [SR] using h
  | .nilsl, v, h => by simpa only [SR] using h
  | .sl n cs, v, h => by
    simp only [SR] at h ⊢
    obtain ⟨A, c, hv, hn, h⟩ := h
    refine ⟨A, c, hv, hn, ?_⟩
    rcases h with h | ⟨b, o, vs, hA, h1, h2⟩
    · exact .inl h
    · exact .inr ⟨b, o, vs, hA, SRs.stays hs h1, h2.stays hs⟩
  | .nilptr, v, h => by simpa only [SR] using h
  | .cptr cs, v, h => by
    simp only [SR] at h ⊢
    obtain ⟨b, o, vs, hA, h1, h2⟩ := h
    exact ⟨b, o, vs, hA, SRs.stays hs h1, h2.stays hs⟩
  | .nilfn, v, h => by simpa only [SR] using h
  | .nili, v, h => by simpa only [SR] using h
  | .nilmap, v, h => by simpa only [SR] using h
  | .iface t s, v, h => by
    simp only [SR] at h ⊢
    obtain ⟨u, hv, h⟩ := h
    exact ⟨u, hv, SR.stays hs h⟩
theorem SRs.stays {G G' : Nat → Nat → Prop} {w w' : World} (hs : Stays G w G' w') : ∀ {cs : List Sc} {vs : List Value}, SRs G w cs vs → SRs G' w' cs vs
  | [], vs, h => by simpa only [SRs] using h
  | c :: cs, vs, h => by
    simp only [SRs] at h ⊢
    obtain ⟨u, us, hv, h1, h2⟩ := h
    exact ⟨u, us, hv, SR.stays hs h1, SRs.stays hs h2⟩
end

/-! ### Cells that lead to objects -/
mutual
def AR (m : Nat → Option Ent) (lb : Nat → Option Nat) (G : Nat → Nat → Prop) (w : World) : Av → Value → Prop
  | .sc s, v => SR G w s v
  | .own id o n es, v => ∃ e, m id = some e ∧ ((∃ c, v = .slice (some ⟨e.b, e.s + o, none⟩) n c ∧ n ≤ c ∧ c ≤ maxLen ∧ e.s + o + c * es ≤ e.sz) ∨ (n = 0 ∧ ∃ A, v = .slice A 0 0))
  | .ptr id o, v => ∃ e, m id = some e ∧ v = .pointer (some ⟨e.b, e.s + o, none⟩)
  | .fn f first caps, v => ∃ us vs, v = .func (.func f) (List.toArray us) (List.toArray vs) ∧ ARs m lb G w first us ∧ ARs m lb G w caps vs
  | .map id, v => ∃ e, m id = some e ∧ v = .map (some e.b)
  | .yl l, v => ∃ b, lb l = some b ∧ v = .func (.yield b) #[] #[]
def ARs (m : Nat → Option Ent) (lb : Nat → Option Nat) (G : Nat → Nat → Prop) (w : World) : List Av → List Value → Prop
  | [], vs => vs = []
  | c :: cs, vs => ∃ u us, vs = u :: us ∧ AR m lb G w c u ∧ ARs m lb G w cs us
end
section
variable {m m' : Nat → Option Ent} {lb lb' : Nat → Option Nat} {G G' : Nat → Nat → Prop} {w w' : World}
theorem ARs.length : ∀ {cs : List Av} {vs : List Value}, ARs m lb G w cs vs → vs.length = cs.length
  | [], vs, h => by simp only [ARs] at h; simp [h]
  | c :: cs, vs, h => by
    simp only [ARs] at h
    obtain ⟨u, us, rfl, _, h⟩ := h
    simp [ARs.length h]
theorem ARs.get : ∀ {cs : List Av} {vs : List Value}, ARs m lb G w cs vs → ∀ (j : Nat) c, cs[j]? = some c → ∃ v, vs[j]? = some v ∧ AR m lb G w c v
  | [], vs, h, j, c, hc => by simp at hc
  | d :: cs, vs, h, j, c, hc => by
    simp only [ARs] at h
    obtain ⟨u, us, rfl, h1, h2⟩ := h
    cases j with
    | zero => simp at hc; subst hc; exact ⟨u, by simp, h1⟩
    | succ j => simpa using ARs.get h2 j c (by simpa using hc)
theorem ARs.drop : ∀ {cs : List Av} {vs : List Value} (k : Nat), ARs m lb G w cs vs → ARs m lb G w (cs.drop k) (vs.drop k)
  | [], vs, k, h => by simp only [ARs] at h; subst h; simp [ARs]
  | c :: cs, vs, 0, h => by simpa using h
  | c :: cs, vs, k + 1, h => by
    simp only [ARs] at h
    obtain ⟨u, us, rfl, _, h⟩ := h
    simpa using ARs.drop k h
theorem ARs.take : ∀ {cs : List Av} {vs : List Value} (k : Nat), ARs m lb G w cs vs → ARs m lb G w (cs.take k) (vs.take k)
  | [], vs, k, h => by simp only [ARs] at h; subst h; simp [ARs]
  | c :: cs, vs, 0, h => by simp [ARs]
  | c :: cs, vs, k + 1, h => by
    simp only [ARs] at h
    obtain ⟨u, us, rfl, h1, h⟩ := h
    simp only [List.take_succ_cons, ARs]
    exact ⟨u, us.take k, rfl, h1, ARs.take k h⟩
theorem ARs.append : ∀ {cs ds : List Av} {vs us : List Value}, ARs m lb G w cs vs → ARs m lb G w ds us → ARs m lb G w (cs ++ ds) (vs ++ us)
  | [], ds, vs, us, h, k => by simp only [ARs] at h; subst h; simpa using k
  | c :: cs, ds, vs, us, h, k => by
    simp only [ARs] at h
    obtain ⟨u, xs, rfl, h1, h⟩ := h
    simp only [List.cons_append, ARs]
    exact ⟨u, xs ++ us, rfl, h1, ARs.append h k⟩
theorem ARs.set : ∀ {cs : List Av} {vs : List Value} (j : Nat) {c : Av} {v : Value}, ARs m lb G w cs vs → AR m lb G w c v → ARs m lb G w (cs.set j c) (vs.set j v)
  | [], vs, j, c, v, h, k => by simp only [ARs] at h; subst h; simp [ARs]
  | d :: cs, vs, 0, c, v, h, k => by
    simp only [ARs] at h
    obtain ⟨u, us, rfl, h1, h⟩ := h
    simp only [List.set_cons_zero, ARs]
    exact ⟨v, us, rfl, k, h⟩
  | d :: cs, vs, j + 1, c, v, h, k => by
    simp only [ARs] at h
    obtain ⟨u, us, rfl, h1, h⟩ := h
    simp only [List.set_cons_succ, ARs]
    exact ⟨u, us.set j v, rfl, h1, ARs.set j h k⟩
theorem ARs.cons {c : Av} {cs : List Av} {v : Value} {vs : List Value} (h : AR m lb G w c v) (k : ARs m lb G w cs vs) : ARs m lb G w (c :: cs) (v :: vs) := by
  simp only [ARs]
  exact ⟨v, vs, rfl, h, k⟩
theorem ARs.nil : ARs m lb G w [] [] := by simp only [ARs]
theorem ARs.of_sc : ∀ {cs : List Sc} {vs : List Value}, SRs G w cs vs → ARs m lb G w (cs.map .sc) vs
  | [], vs, h => by simpa only [SRs, List.map_nil, ARs] using h
  | c :: cs, vs, h => by
    simp only [SRs] at h
    obtain ⟨u, us, rfl, h1, h⟩ := h
    simp only [List.map_cons, ARs, AR]
    exact ⟨u, us, rfl, h1, ARs.of_sc h⟩

/-- The memory goes on: what is known stays known. -/
structure On (m : Nat → Option Ent) (lb : Nat → Option Nat) (G : Nat → Nat → Prop) (w : World) (m' : Nat → Option Ent) (lb' : Nat → Option Nat) (G' : Nat → Nat → Prop) (w' : World) : Prop where
  s : Stays G w G' w'
  m : ∀ id e, m id = some e → m' id = some e
  l : ∀ l b, lb l = some b → lb' l = some b
mutual
theorem AR.on (hs : On m lb G w m' lb' G' w') : ∀ {c : Av} {v : Value}, AR m lb G w c v → AR m' lb' G' w' c v
  | .sc s, v, h => by simp only [AR] at h ⊢; exact SR.stays hs.s h
  | .own id o n es, v, h => by
    simp only [AR] at h ⊢
    obtain ⟨e, h1, h2⟩ := h
    exact ⟨e, hs.m _ _ h1, h2⟩
  | .ptr id o, v, h => by
    simp only [AR] at h ⊢
    obtain ⟨e, h1, h2⟩ := h
    exact ⟨e, hs.m _ _ h1, h2⟩
  | .fn f first caps, v, h => by
    simp only [AR] at h ⊢
    obtain ⟨us, vs, hv, h1, h2⟩ := h
    exact ⟨us, vs, hv, ARs.on hs h1, ARs.on hs h2⟩
  | .map id, v, h => by
    simp only [AR] at h ⊢
    obtain ⟨e, h1, h2⟩ := h
    exact ⟨e, hs.m _ _ h1, h2⟩
  | .yl l, v, h => by
    simp only [AR] at h ⊢
    obtain ⟨b, h1, h2⟩ := h
    exact ⟨b, hs.l _ _ h1, h2⟩
theorem ARs.on (hs : On m lb G w m' lb' G' w') : ∀ {cs : List Av} {vs : List Value}, ARs m lb G w cs vs → ARs m' lb' G' w' cs vs
  | [], vs, h => by simpa only [ARs] using h
  | c :: cs, vs, h => by
    simp only [ARs] at h ⊢
    obtain ⟨u, us, hv, h1, h2⟩ := h
    exact ⟨u, us, hv, AR.on hs h1, ARs.on hs h2⟩
end
end

/-! ### What a slot holds -/
mutual
def VR (m : Nat → Option Ent) (lb : Nat → Option Nat) (G : Nat → Nat → Prop) (w : World) : Va → Value → Prop
  | .av a, v => AR m lb G w a v
  | .agg cs, v => ∃ vs, v = .agg (List.toArray vs) ∧ ARs m lb G w cs vs
  | .tup xs, v => ∃ vs, v = .tuple (List.toArray vs) ∧ VRs m lb G w xs vs
  | .und, _ => True
def VRs (m : Nat → Option Ent) (lb : Nat → Option Nat) (G : Nat → Nat → Prop) (w : World) : List Va → List Value → Prop
  | [], vs => vs = []
  | c :: cs, vs => ∃ u us, vs = u :: us ∧ VR m lb G w c u ∧ VRs m lb G w cs us
end
section
variable {m m' : Nat → Option Ent} {lb lb' : Nat → Option Nat} {G G' : Nat → Nat → Prop} {w w' : World}
mutual
theorem VR.on (hs : On m lb G w m' lb' G' w') : ∀ {c : Va} {v : Value}, VR m lb G w c v → VR m' lb' G' w' c v
  | .av a, v, h => by simp only [VR] at h ⊢; exact AR.on hs h
  | .agg cs, v, h => by
    simp only [VR] at h ⊢
    obtain ⟨vs, hv, h⟩ := h
    exact ⟨vs, hv, ARs.on hs h⟩
  | .tup cs, v, h => by
    simp only [VR] at h ⊢
    obtain ⟨vs, hv, h⟩ := h
    exact ⟨vs, hv, VRs.on hs h⟩
  | .und, v, h => by simp only [VR]
theorem VRs.on (hs : On m lb G w m' lb' G' w') : ∀ {cs : List Va} {vs : List Value}, VRs m lb G w cs vs → VRs m' lb' G' w' cs vs
  | [], vs, h => by simpa only [VRs] using h
  | c :: cs, vs, h => by
    simp only [VRs] at h ⊢
    obtain ⟨u, us, hv, h1, h2⟩ := h
    exact ⟨u, us, hv, VR.on hs h1, VRs.on hs h2⟩
end
theorem VRs.length : ∀ {cs : List Va} {vs : List Value}, VRs m lb G w cs vs → vs.length = cs.length
  | [], vs, h => by simp only [VRs] at h; simp [h]
  | c :: cs, vs, h => by
    simp only [VRs] at h
    obtain ⟨u, us, rfl, _, h⟩ := h
    simp [VRs.length h]
theorem VRs.get : ∀ {cs : List Va} {vs : List Value}, VRs m lb G w cs vs → ∀ (j : Nat) c, cs[j]? = some c → ∃ v, vs[j]? = some v ∧ VR m lb G w c v
  | [], vs, h, j, c, hc => by simp at hc
  | d :: cs, vs, h, j, c, hc => by
    simp only [VRs] at h
    obtain ⟨u, us, rfl, h1, h2⟩ := h
    cases j with
    | zero => simp at hc; subst hc; exact ⟨u, by simp, h1⟩
    | succ j => simpa using VRs.get h2 j c (by simpa using hc)
theorem VRs.cons {c : Va} {cs : List Va} {v : Value} {vs : List Value} (h : VR m lb G w c v) (k : VRs m lb G w cs vs) : VRs m lb G w (c :: cs) (v :: vs) := by
  simp only [VRs]
  exact ⟨v, vs, rfl, h, k⟩
theorem VRs.nil : VRs m lb G w [] [] := by simp only [VRs]
end
end Go.Am
/-
  Am, part B: the store of objects and how it stands to the model's memory (Rel); what each change of it does.
-/
namespace Go.Am

def upd {α : Type} (f : Nat → α) (i : Nat) (v : α) : Nat → α := fun j => if j = i then v else f j
@[simp] theorem upd_same {α : Type} (f : Nat → α) (i : Nat) (v : α) : upd f i v i = v := by simp [upd]
theorem upd_ne {α : Type} (f : Nat → α) {i j : Nat} (v : α) (h : j ≠ i) : upd f i v j = f j := by simp [upd, h]

/-- A map's entries. -/
def MR (m : Nat → Option Ent) (lb : Nat → Option Nat) (G : Nat → Nat → Prop) (w : World) : List (Sc × Av) → List MapEntry → Prop
  | [], es => es = []
  | (k, a) :: l, es => ∃ x xs, es = x :: xs ∧ SR G w k x.key ∧ AR m lb G w a x.val ∧ MR m lb G w l xs

def OR (m : Nat → Option Ent) (lb : Nat → Option Nat) (G : Nat → Nat → Prop) (w : World) : Obj → Ent → Prop
  | .dead, _ => True
  | .cs l fz, e => ∃ A vs, w.heap[e.b]? = some (.cells A e.t (0, 0)) ∧ A.size = e.sz ∧ ARs m lb G w l vs ∧ e.s + l.length ≤ e.sz ∧
      (∀ (j : Nat) v, vs[j]? = some v → A[e.s + j]? = some v) ∧ (∀ j, fz ≤ j → ¬ G e.b (e.s + j))
  | .mp l, e => ∃ es clock, w.heap[e.b]? = some (.map es clock) ∧ MR m lb G w l es.toList ∧ clock = es.size ∧ ∀ (i : Nat) x, es[i]? = some x → x.born = i

structure Rel (m : Nat → Option Ent) (lb : Nat → Option Nat) (G : Nat → Nat → Prop) (w : World) (ob : Nat → Obj) (nx : Nat) : Prop where
  obj : ∀ id e, m id = some e → OR m lb G w (ob id) e
  inj : ∀ i j e f, m i = some e → m j = some f → ob i ≠ .dead → ob j ≠ .dead → e.b = f.b → i = j
  glt : ∀ b o, G b o → b < w.heap.size
  mlt : ∀ id e, m id = some e → e.b < w.heap.size
  fresh : ∀ id, nx ≤ id → m id = none
  ll : ∀ l b, lb l = some b → b < w.heap.size ∧ ∀ id e, m id = some e → e.b ≠ b

/-- The memory has gone on; what was not ours lies as it lay. -/
structure Evo (m : Nat → Option Ent) (lb : Nat → Option Nat) (G : Nat → Nat → Prop) (w : World) (m' : Nat → Option Ent) (G' : Nat → Nat → Prop) (w' : World) : Prop where
  on : On m lb G w m' lb G' w'
  os : w'.os = w.os
  tape : w'.tape = w.tape
  output : w'.output = w.output
  size : w.heap.size ≤ w'.heap.size
  old : ∀ b : Nat, b < w.heap.size → (∀ id e, m id = some e → e.b ≠ b) → w'.heap[b]? = w.heap[b]?
  new : ∀ id e, m' id = some e → (∃ i f, m i = some f ∧ f.b = e.b) ∨ w.heap.size ≤ e.b
section
variable {m m' m'' : Nat → Option Ent} {lb : Nat → Option Nat} {G G' G'' : Nat → Nat → Prop} {w w' w'' : World} {ob : Nat → Obj} {nx nx' : Nat}
theorem On.refl : On m lb G w m lb G w := ⟨Stays.refl _ _, fun _ _ h => h, fun _ _ h => h⟩
theorem On.trans (h : On m lb G w m' lb G' w') (k : On m' lb G' w' m'' lb G'' w'') : On m lb G w m'' lb G'' w'' :=
  ⟨h.s.trans k.s, fun i e x => k.m i e (h.m i e x), fun l b x => k.l l b (h.l l b x)⟩
theorem Evo.refl : Evo m lb G w m G w := ⟨On.refl, rfl, rfl, rfl, Nat.le_refl _, fun _ _ _ => rfl, fun id e h => .inl ⟨id, e, h, rfl⟩⟩
theorem Evo.trans (h : Evo m lb G w m' G' w') (k : Evo m' lb G' w' m'' G'' w'') : Evo m lb G w m'' G'' w'' := by
  refine ⟨h.on.trans k.on, k.os.trans h.os, k.tape.trans h.tape, k.output.trans h.output, Nat.le_trans h.size k.size, fun b hb hm => ?_, fun id e he => ?_⟩
  · refine (k.old b (Nat.lt_of_lt_of_le hb h.size) (fun id e he => ?_)).trans (h.old b hb hm)
    rcases h.new id e he with ⟨i, f, hf, hfb⟩ | hge
    · exact hfb ▸ hm i f hf
    · omega
  · rcases k.new id e he with ⟨i, f, hf, hfb⟩ | hge
    · rcases h.new i f hf with ⟨i2, f2, hf2, hfb2⟩ | hge
      · exact .inl ⟨i2, f2, hf2, hfb2.trans hfb⟩
      · exact .inr (by omega)
    · exact .inr (Nat.le_trans h.size hge)

theorem MR.on {lb' : Nat → Option Nat} (hs : On m lb G w m' lb' G' w') : ∀ {l : List (Sc × Av)} {es : List MapEntry}, MR m lb G w l es → MR m' lb' G' w' l es
  | [], es, h => by simpa only [MR] using h
  | (k, a) :: l, es, h => by
    simp only [MR] at h ⊢
    obtain ⟨x, xs, he, h1, h2, h3⟩ := h
    exact ⟨x, xs, he, SR.stays hs.s h1, AR.on hs h2, MR.on hs h3⟩

/-- An object whose block is as it was. -/
theorem OR.on {lb' : Nat → Option Nat} (hs : On m lb G w m' lb' G' w') {o : Obj} {e : Ent} (hb : w'.heap[e.b]? = w.heap[e.b]?) (hG : ∀ j, G' e.b j → G e.b j) (h : OR m lb G w o e) : OR m' lb' G' w' o e := by
  cases o with
  | dead => trivial
  | cs l fz =>
    simp only [OR] at h ⊢
    obtain ⟨A, vs, h1, h2, h3, h4, h5, h6⟩ := h
    exact ⟨A, vs, hb.trans h1, h2, ARs.on hs h3, h4, h5, fun j hj hg => h6 j hj (hG _ hg)⟩
  | mp l =>
    simp only [OR] at h ⊢
    obtain ⟨es, clock, h1, h2⟩ := h
    exact ⟨es, clock, hb.trans h1, MR.on hs h2.1, h2.2⟩

theorem cell_of_heap {a b : World} {k o : Nat} (h : a.heap[k]? = b.heap[k]?) : a.cell? ⟨k, o, none⟩ = b.cell? ⟨k, o, none⟩ := by simp [World.cell?, h]

/-- The heap is the same (draws). -/
theorem Rel.same (h : Rel m lb G w ob nx) (hh : w'.heap = w.heap) (h1 : w'.os = w.os) (h2 : w'.tape = w.tape) (h3 : w'.output = w.output) :
    Rel m lb G w' ob nx ∧ Evo m lb G w m G w' := by
  have hb : ∀ b : Nat, w'.heap[b]? = w.heap[b]? := fun b => by rw [hh]
  have on : On m lb G w m lb G w' := ⟨⟨fun _ _ h => h, fun b o _ => cell_of_heap (hb b)⟩, fun _ _ h => h, fun _ _ h => h⟩
  refine ⟨⟨fun id e he => (h.obj id e he).on on (hb _) (fun _ h => h), h.inj, fun b o hg => by rw [hh]; exact h.glt b o hg, fun id e he => by rw [hh]; exact h.mlt id e he, h.fresh, fun l b hl => by rw [hh]; exact h.ll l b hl⟩, on, h1, h2, h3, by rw [hh]; exact Nat.le_refl _, fun b _ _ => hb b, fun id e he => .inl ⟨id, e, he, rfl⟩⟩

/-- One live object's block is turned. -/
theorem Rel.turn (h : Rel m lb G w ob nx) {id : Nat} {e : Ent} (hm : m id = some e) (live : ob id ≠ .dead) (o' : Obj) (ho' : o' ≠ .dead)
    (hsz : w'.heap.size = w.heap.size) (hother : ∀ b : Nat, b ≠ e.b → w'.heap[b]? = w.heap[b]?) (hcell : ∀ o, G e.b o → w'.cell? ⟨e.b, o, none⟩ = w.cell? ⟨e.b, o, none⟩)
    (h1 : w'.os = w.os) (h2 : w'.tape = w.tape) (h3 : w'.output = w.output) (hob : On m lb G w m lb G w' → OR m lb G w' o' e) :
    Rel m lb G w' (upd ob id o') nx ∧ Evo m lb G w m G w' := by
  have on : On m lb G w m lb G w' := ⟨⟨fun _ _ h => h, fun b o hg => by
    by_cases hb : b = e.b
    · subst hb; exact hcell o hg
    · exact cell_of_heap (hother b hb)⟩, fun _ _ h => h, fun _ _ h => h⟩
  refine ⟨⟨fun i f hf => ?_, fun i j f g hf hg hi hj hfg => ?_, fun b o hg => by rw [hsz]; exact h.glt b o hg, fun i f hf => by rw [hsz]; exact h.mlt i f hf, h.fresh, fun l b hl => by rw [hsz]; exact h.ll l b hl⟩,
    on, h1, h2, h3, by rw [hsz]; exact Nat.le_refl _, fun b hb hnm => hother b (fun hbe => hnm id e hm hbe.symm), fun i f hf => .inl ⟨i, f, hf, rfl⟩⟩
  · by_cases hi : i = id
    · subst hi
      rw [hm] at hf
      cases hf
      rw [upd_same]
      exact hob on
    · rw [upd_ne _ _ hi]
      by_cases hd : ob i = .dead
      · rw [hd]; trivial
      · refine (h.obj i f hf).on on (hother _ fun hbe => hi (h.inj i id f e hf hm hd live hbe)) (fun _ h => h)
  · have hi' : ob i ≠ .dead := by
      by_cases hii : i = id
      · subst hii; exact live
      · rwa [upd_ne _ _ hii] at hi
    have hj' : ob j ≠ .dead := by
      by_cases hii : j = id
      · subst hii; exact live
      · rwa [upd_ne _ _ hii] at hj
    exact h.inj i j f g hf hg hi' hj' hfg

theorem Rel.store (h : Rel m lb G w ob nx) {id : Nat} {e : Ent} {l : List Av} {fz : Nat} (hm : m id = some e) (ho : ob id = .cs l fz) (j : Nat) (hj : j < l.length) (hfz : fz ≤ j)
    {a : Av} {v : Value} (ha : AR m lb G w a v) :
    Rel m lb G (w.setCell ⟨e.b, e.s + j, none⟩ v) (upd ob id (.cs (l.set j a) fz)) nx ∧ Evo m lb G w m G (w.setCell ⟨e.b, e.s + j, none⟩ v) ∧
      w.cell? ⟨e.b, e.s + j, none⟩ ≠ none ∧ w.frozen? ⟨e.b, e.s + j, none⟩ = false := by
  have hor := h.obj id e hm
  rw [ho] at hor
  obtain ⟨A, vs, hA, hsz, hvs, hlen, hat, hG⟩ := hor
  have hvl := hvs.length
  have hjA : e.s + j < A.size := by omega
  have hset := heap_setCell_same w e.b (e.s + j) A e.t v hA
  refine ⟨?_, ?_, ?_, ?_⟩
  rotate_left 2
  · simp [World.cell?, hA, hjA]
  · simp [World.frozen?, hA]
  all_goals
    have key := h.turn (w' := w.setCell ⟨e.b, e.s + j, none⟩ v) hm (by rw [ho]; simp) (.cs (l.set j a) fz) (by simp) (by simp) (fun b hb => heap_setCell_other w _ b v hb)
      (fun o hg => by
        have hne : o ≠ e.s + j := fun ho => hG j hfz (ho ▸ hg)
        refine World.cell?_setCell_other _ _ _ _ ?_
        intro hh
        injection hh with _ hh
        exact hne hh.symm) rfl rfl rfl (fun on => by
          refine ⟨A.setIfInBounds (e.s + j) v, vs.set j v, hset, by simpa using hsz, ARs.set j (ARs.on on hvs) (AR.on on ha), by simpa using hlen, fun i u hu => ?_, hG⟩
          rw [List.getElem?_set] at hu
          by_cases hij : j = i
          · subst hij
            rw [if_pos rfl] at hu
            split at hu
            · cases hu
              simp [hjA]
            · cases hu
          · rw [if_neg hij] at hu
            rw [Array.getElem?_setIfInBounds_ne (by omega)]
            exact hat i u hu)
  · exact key.1
  · exact key.2

/-- A new block of cells. -/
theorem Rel.new (h : Rel m lb G w ob nx) (nid : Nat) (hn : m nid = none) (hnx : nx ≤ nx') (hnid : nid < nx') (t : TypeId) (A : Array Value) (l : List Av) (vs : List Value)
    (hl : ARs m lb G w l vs) (hvs : ∀ (j : Nat) v, vs[j]? = some v → A[j]? = some v)
    (hheap : w'.heap = w.heap.push (.cells A t (0, 0))) (h1 : w'.os = w.os) (h2 : w'.tape = w.tape) (h3 : w'.output = w.output) :
    Rel (upd m nid (some ⟨w.heap.size, 0, t, A.size⟩)) lb G w' (upd ob nid (.cs l 0)) nx' ∧ Evo m lb G w (upd m nid (some ⟨w.heap.size, 0, t, A.size⟩)) G w' := by
  have hold : ∀ b : Nat, b < w.heap.size → w'.heap[b]? = w.heap[b]? := fun b hb => by rw [hheap, Array.getElem?_push, if_neg (by omega)]
  have hnew : w'.heap[w.heap.size]? = some (.cells A t (0, 0)) := by rw [hheap]; simp
  have hsz : w'.heap.size = w.heap.size + 1 := by rw [hheap]; simp
  have on : On m lb G w (upd m nid (some ⟨w.heap.size, 0, t, A.size⟩)) lb G w' :=
    ⟨⟨fun _ _ h => h, fun b o hg => cell_of_heap (hold b (h.glt b o hg))⟩, fun i e he => by
      by_cases hi : i = nid
      · subst hi; rw [hn] at he; cases he
      · rw [upd_ne _ _ hi]; exact he, fun _ _ h => h⟩
  have hlen : l.length ≤ A.size := by
    rw [← hl.length]
    rcases Nat.eq_zero_or_pos vs.length with h0 | h0
    · omega
    · have := hvs (vs.length - 1) (vs[vs.length - 1]'(by omega)) (by simp)
      have := (Array.getElem?_eq_some_iff.1 this).1
      omega
  refine ⟨⟨fun i f hf => ?_, fun i j f g hf hg hi hj hfg => ?_, fun b o hg => by have := h.glt b o hg; omega, fun i f hf => ?_, fun i hi => ?_, fun k b hl => ?_⟩,
    on, h1, h2, h3, by omega, fun b hb _ => hold b hb, fun i f hf => ?_⟩
  · by_cases hi : i = nid
    · subst hi
      rw [upd_same] at hf ⊢
      cases hf
      exact ⟨A, vs, hnew, rfl, ARs.on on hl, by simpa using hlen, fun j v hj => by simpa using hvs j v hj, fun j _ hg => by have := h.glt _ _ hg; simp at this⟩
    · rw [upd_ne _ _ hi] at hf ⊢
      exact (h.obj i f hf).on on (hold _ (h.mlt i f hf)) (fun _ h => h)
  · by_cases hi2 : i = nid
    · subst hi2
      by_cases hj2 : j = i
      · exact hj2.symm
      · rw [upd_same] at hf
        rw [upd_ne _ _ hj2] at hg
        cases hf
        have := h.mlt j g hg
        simp only at hfg
        omega
    · by_cases hj2 : j = nid
      · subst hj2
        rw [upd_same] at hg
        rw [upd_ne _ _ hi2] at hf
        cases hg
        have := h.mlt i f hf
        simp only at hfg
        omega
      · rw [upd_ne _ _ hi2] at hf hi
        rw [upd_ne _ _ hj2] at hg hj
        exact h.inj i j f g hf hg hi hj hfg
  · by_cases hi : i = nid
    · subst hi; rw [upd_same] at hf; cases hf; simp only; omega
    · rw [upd_ne _ _ hi] at hf; have := h.mlt i f hf; omega
  · rw [upd_ne _ _ (by omega)]; exact h.fresh i (by omega)
  · obtain ⟨h4, h5⟩ := h.ll k b hl
    refine ⟨by omega, fun i f hf => ?_⟩
    by_cases hi : i = nid
    · subst hi; rw [upd_same] at hf; cases hf; simp only; omega
    · rw [upd_ne _ _ hi] at hf; exact h5 i f hf
  · by_cases hi : i = nid
    · subst hi; rw [upd_same] at hf; cases hf; exact .inr (Nat.le_refl _)
    · rw [upd_ne _ _ hi] at hf; exact .inl ⟨i, f, hf, rfl⟩

/-- A new map. -/
theorem Rel.newMap (h : Rel m lb G w ob nx) (nid : Nat) (hn : m nid = none) (hnx : nx ≤ nx') (hnid : nid < nx')
    (hheap : w'.heap = w.heap.push (.map #[] 0)) (h1 : w'.os = w.os) (h2 : w'.tape = w.tape) (h3 : w'.output = w.output) :
    Rel (upd m nid (some ⟨w.heap.size, 0, 0, 0⟩)) lb G w' (upd ob nid (.mp [])) nx' ∧ Evo m lb G w (upd m nid (some ⟨w.heap.size, 0, 0, 0⟩)) G w' := by
  have hold : ∀ b : Nat, b < w.heap.size → w'.heap[b]? = w.heap[b]? := fun b hb => by rw [hheap, Array.getElem?_push, if_neg (by omega)]
  have hnew : w'.heap[w.heap.size]? = some (.map #[] 0) := by rw [hheap]; simp
  have hsz : w'.heap.size = w.heap.size + 1 := by rw [hheap]; simp
  have on : On m lb G w (upd m nid (some ⟨w.heap.size, 0, 0, 0⟩)) lb G w' :=
    ⟨⟨fun _ _ h => h, fun b o hg => cell_of_heap (hold b (h.glt b o hg))⟩, fun i e he => by
      by_cases hi : i = nid
      · subst hi; rw [hn] at he; cases he
      · rw [upd_ne _ _ hi]; exact he, fun _ _ h => h⟩
  refine ⟨⟨fun i f hf => ?_, fun i j f g hf hg hi hj hfg => ?_, fun b o hg => by have := h.glt b o hg; omega, fun i f hf => ?_, fun i hi => ?_, fun k b hl => ?_⟩,
    on, h1, h2, h3, by omega, fun b hb _ => hold b hb, fun i f hf => ?_⟩
  · by_cases hi : i = nid
    · subst hi
      rw [upd_same] at hf ⊢
      cases hf
      exact ⟨#[], 0, hnew, by simp [MR]⟩
    · rw [upd_ne _ _ hi] at hf ⊢
      exact (h.obj i f hf).on on (hold _ (h.mlt i f hf)) (fun _ h => h)
  · by_cases hi2 : i = nid
    · subst hi2
      by_cases hj2 : j = i
      · exact hj2.symm
      · rw [upd_same] at hf
        rw [upd_ne _ _ hj2] at hg
        cases hf
        have := h.mlt j g hg
        simp only at hfg
        omega
    · by_cases hj2 : j = nid
      · subst hj2
        rw [upd_same] at hg
        rw [upd_ne _ _ hi2] at hf
        cases hg
        have := h.mlt i f hf
        simp only at hfg
        omega
      · rw [upd_ne _ _ hi2] at hf hi
        rw [upd_ne _ _ hj2] at hg hj
        exact h.inj i j f g hf hg hi hj hfg
  · by_cases hi : i = nid
    · subst hi; rw [upd_same] at hf; cases hf; simp only; omega
    · rw [upd_ne _ _ hi] at hf; have := h.mlt i f hf; omega
  · rw [upd_ne _ _ (by omega)]; exact h.fresh i (by omega)
  · obtain ⟨h4, h5⟩ := h.ll k b hl
    refine ⟨by omega, fun i f hf => ?_⟩
    by_cases hi : i = nid
    · subst hi; rw [upd_same] at hf; cases hf; simp only; omega
    · rw [upd_ne _ _ hi] at hf; exact h5 i f hf
  · by_cases hi : i = nid
    · subst hi; rw [upd_same] at hf; cases hf; exact .inr (Nat.le_refl _)
    · rw [upd_ne _ _ hi] at hf; exact .inl ⟨i, f, hf, rfl⟩

/-- A new block that stays: its cells are plain data. -/
theorem Rel.newSc (h : Rel m lb G w ob nx) (t : TypeId) (A : Array Value) (fr : Nat × Nat)
    (hheap : w'.heap = w.heap.push (.cells A t fr)) (h1 : w'.os = w.os) (h2 : w'.tape = w.tape) (h3 : w'.output = w.output) :
    Rel m lb (fun b o => G b o ∨ b = w.heap.size) w' ob nx ∧ Evo m lb G w m (fun b o => G b o ∨ b = w.heap.size) w' := by
  have hold : ∀ b : Nat, b < w.heap.size → w'.heap[b]? = w.heap[b]? := fun b hb => by rw [hheap, Array.getElem?_push, if_neg (by omega)]
  have hsz : w'.heap.size = w.heap.size + 1 := by rw [hheap]; simp
  have on : On m lb G w m lb (fun b o => G b o ∨ b = w.heap.size) w' := ⟨⟨fun _ _ h => .inl h, fun b o hg => cell_of_heap (hold b (h.glt b o hg))⟩, fun _ _ h => h, fun _ _ h => h⟩
  refine ⟨⟨fun i f hf => (h.obj i f hf).on on (hold _ (h.mlt i f hf)) (fun j hg => hg.resolve_right (by have := h.mlt i f hf; omega)), h.inj, fun b o hg => ?_, fun i f hf => by have := h.mlt i f hf; omega, h.fresh, fun k b hl => ⟨by have := (h.ll k b hl).1; omega, (h.ll k b hl).2⟩⟩,
    on, h1, h2, h3, by omega, fun b hb _ => hold b hb, fun i f hf => .inl ⟨i, f, hf, rfl⟩⟩
  rcases hg with hg | hg
  · have := h.glt b o hg; omega
  · omega

/-- An object is dropped. -/
theorem Rel.drop (h : Rel m lb G w ob nx) (id : Nat) : Rel m lb G w (upd ob id .dead) nx := by
  refine ⟨fun i e he => ?_, fun i j e f he hf hi hj hef => ?_, h.glt, h.mlt, h.fresh, h.ll⟩
  · by_cases hi : i = id
    · subst hi; rw [upd_same]; trivial
    · rw [upd_ne _ _ hi]; exact h.obj i e he
  · by_cases hi2 : i = id
    · subst hi2; rw [upd_same] at hi; exact absurd rfl hi
    · by_cases hj2 : j = id
      · subst hj2; rw [upd_same] at hj; exact absurd rfl hj
      · rw [upd_ne _ _ hi2] at hi
        rw [upd_ne _ _ hj2] at hj
        exact h.inj i j e f he hf hi hj hef

/-- The cells of an object below fz' stay from now on. -/
theorem Rel.freeze (h : Rel m lb G w ob nx) {id : Nat} {e : Ent} {l : List Av} {fz : Nat} (hm : m id = some e) (ho : ob id = .cs l fz) (k : Nat) :
    Rel m lb (fun b o => G b o ∨ (b = e.b ∧ o < e.s + k)) w (upd ob id (.cs l (max fz k))) nx ∧ Evo m lb G w m (fun b o => G b o ∨ (b = e.b ∧ o < e.s + k)) w := by
  have on : On m lb G w m lb (fun b o => G b o ∨ (b = e.b ∧ o < e.s + k)) w := ⟨⟨fun _ _ h => .inl h, fun _ _ _ => rfl⟩, fun _ _ h => h, fun _ _ h => h⟩
  refine ⟨⟨fun i f hf => ?_, fun i j f g hf hg hi hj hfg => ?_, fun b o hg => ?_, h.mlt, h.fresh, h.ll⟩, on, rfl, rfl, rfl, Nat.le_refl _, fun _ _ _ => rfl, fun i f hf => .inl ⟨i, f, hf, rfl⟩⟩
  · by_cases hi : i = id
    · subst hi
      rw [hm] at hf
      cases hf
      rw [upd_same]
      have := h.obj i e hm
      rw [ho] at this
      obtain ⟨A, vs, h1, h2, h3, h4, h5, h6⟩ := this
      refine ⟨A, vs, h1, h2, ARs.on on h3, h4, h5, fun j hj hg => ?_⟩
      rcases hg with hg | hg
      · exact h6 j (by omega) hg
      · have := hg.2; omega
    · rw [upd_ne _ _ hi]
      by_cases hd : ob i = .dead
      · rw [hd]; trivial
      · refine (h.obj i f hf).on on rfl (fun j hg => hg.resolve_right fun hg => ?_)
        exact hi (h.inj i id f e hf hm hd (by rw [ho]; simp) hg.1)
  · have hi' : ob i ≠ .dead := by
      by_cases hii : i = id
      · subst hii; rw [ho]; simp
      · rwa [upd_ne _ _ hii] at hi
    have hj' : ob j ≠ .dead := by
      by_cases hii : j = id
      · subst hii; rw [ho]; simp
      · rwa [upd_ne _ _ hii] at hj
    exact h.inj i j f g hf hg hi' hj' hfg
  · rcases hg with hg | hg
    · exact h.glt b o hg
    · rw [hg.1]; exact h.mlt id e hm
end
end Go.Am
/-
  Am, part C: the operations that call nothing, on the abstract machine's values and store.
-/
namespace Go.Am

/-- What is known of a type: its form, how many cells and bytes, the cells of its zero value. -/
structure Ty where
  d : TypeDesc
  size : Nat
  bytes : Nat
  zero : List Sc

def isAggD : TypeDesc → Bool
  | .struct _ | .array _ _ => true
  | _ => false
def Sc.isConst : Sc → Bool
  | .int _ _ | .bool _ | .str _ | .nilsl | .nilptr | .nilfn | .nili | .nilmap => true
  | _ => false
def Sc.constV : Sc → Value
  | .int k n => .int k n
  | .bool b => .bool b
  | .str s => .string s
  | .nilsl => .slice none 0 0
  | .nilptr => .pointer none
  | .nilfn => .nilFunc
  | .nili => .nilIface
  | .nilmap => .map none
  | _ => undef
def Ty.zeroV (y : Ty) : Value := if isAggD y.d then .agg (y.zero.map Sc.constV).toArray else (y.zero.map Sc.constV).headD undef
def TOk (P : Program) (T : TypeId → Option Ty) : Prop :=
  ∀ t y, T t = some y → P.underlying t = some y.d ∧ y.zero.all Sc.isConst = true ∧ y.zero.length = y.size ∧
    ∃ i, P.info? t = some i ∧ i.size = y.size ∧ i.bytes = y.bytes ∧ i.zero = some y.zeroV

abbrev Slots := List (Nat × Va)
def get : Slots → Nat → Va
  | [], _ => .und
  | (k, v) :: r, t => if k = t then v else get r t
def constA : Value → Va
  | .bool b => .av (.sc (.bool b))
  | .int k n => .av (.sc (.int k n))
  | .string s => .av (.sc (.str s))
  | .pointer none => .av (.sc .nilptr)
  | .slice none 0 0 => .av (.sc .nilsl)
  | .nilFunc => .av (.sc .nilfn)
  | .nilIface => .av (.sc .nili)
  | .map none => .av (.sc .nilmap)
  | _ => .und
def evA (sl : Slots) : Operand → Va
  | .tmp t => get sl t
  | .const v => constA v
  | .global _ => .und
  | .func f => .av (.fn f [] [])
def cellsA : Va → Option (List Av)
  | .av a => some [a]
  | .agg cs => some cs
  | _ => none
def unflat (y : Ty) (l : List Av) : Option Va :=
  if isAggD y.d then some (.agg l) else match l with
    | [a] => some (.av a)
    | _ => none
/-- Values put down one behind the other. -/
def storeL : List Av → Nat → List Av → List Av
  | l, _, [] => l
  | l, o, a :: cs => storeL (l.set o a) (o + 1) cs
theorem storeL_length : ∀ (cs : List Av) (l : List Av) (o : Nat), (storeL l o cs).length = l.length
  | [], l, o => rfl
  | a :: cs, l, o => by simp [storeL, storeL_length cs]

def aLoad (T : TypeId → Option Ty) (ob : Nat → Obj) (t : TypeId) : Va → Option Va
  | .av (.ptr id o) => (T t).bind fun y => match ob id with
    | .cs l _ => if o + y.size ≤ l.length then unflat y ((l.drop o).take y.size) else none
    | _ => none
  | .av (.sc (.cptr cs)) => (T t).bind fun y => if y.size ≤ cs.length then unflat y ((cs.take y.size).map .sc) else none
  | _ => none
def aStore (T : TypeId → Option Ty) (ob : Nat → Obj) (t : TypeId) (a v : Va) : Option (Nat → Obj) :=
  match a, cellsA v with
  | .av (.ptr id o), some cs => (T t).bind fun y => match ob id with
    | .cs l fz => if cs.length = y.size ∧ fz ≤ o ∧ o + y.size ≤ l.length then some (upd ob id (.cs (storeL l o cs) fz)) else none
    | _ => none
  | _, _ => none
def fieldOf (T : TypeId → Option Ty) (s : TypeId) (f : Nat) : Option (Nat × Ty) :=
  (T s).bind fun y => match y.d with
    | .struct fs => (fs[f]?).bind fun fd => (T fd.type).bind fun z => if z.size = 0 then none else some (fd.offset, z)
    | _ => none
def aField (T : TypeId → Option Ty) (s : TypeId) (f : Nat) : Va → Option Va
  | .av (.ptr id o) => (fieldOf T s f).map fun x => .av (.ptr id (o + x.1))
  | .av (.sc (.cptr cs)) => (fieldOf T s f).map fun x => .av (.sc (.cptr (cs.drop x.1)))
  | _ => none
def aIndex (T : TypeId → Option Ty) (t : TypeId) : Va → Va → Option Va
  | .av (.own id o n es), .av (.sc (.int _ i)) => (T t).bind fun y => match y.d with
    | .slice e => (T e).bind fun z => if z.size = es ∧ 0 ≤ i ∧ i < n then some (.av (.ptr id (o + i.toNat * es))) else none
    | _ => none
  | .av (.sc (.sl n cs)), .av (.sc (.int _ i)) => (T t).bind fun y => match y.d with
    | .slice e => (T e).bind fun z => if 0 ≤ i ∧ i < n ∧ n * z.size = cs.length ∧ z.size ≠ 0 then some (.av (.sc (.cptr (cs.drop (i.toNat * z.size))))) else none
    | _ => none
  | .av (.ptr id o), .av (.sc (.int _ i)) => (T t).bind fun y => match y.d with
    | .array n e => (T e).bind fun z => if 0 ≤ i ∧ i < n then some (.av (.ptr id (o + i.toNat * z.size))) else none
    | _ => none
  | .av (.sc (.cptr cs)), .av (.sc (.int _ i)) => (T t).bind fun y => match y.d with
    | .array n e => (T e).bind fun z => if 0 ≤ i ∧ i < n then some (.av (.sc (.cptr (cs.drop (i.toNat * z.size))))) else none
    | _ => none
  | _, _ => none
def wOk (k : IntKind) (n : Int) : Bool := k.wrap n == n
def aArith (op : BinOp) (k : IntKind) (a b : Int) : Option Va :=
  let r (x : Int) : Option Va := if k.wrap x = x then some (.av (.sc (.int k x))) else none
  let c (x : Bool) : Option Va := some (.av (.sc (.bool x)))
  match op with
  | .add => r (a + b)
  | .sub => r (a - b)
  | .mul => r (a * b)
  | .and => some (.av (.sc (.int k (k.wrap (BitVec.ofInt k.bits a &&& BitVec.ofInt k.bits b).toNat))))
  | .eql => c (a == b)
  | .neq => c (a != b)
  | .lss => c (decide (a < b))
  | .leq => c (decide (a ≤ b))
  | .gtr => c (decide (a > b))
  | .geq => c (decide (a ≥ b))
  | _ => none
def eqFlat : List (Option Bool) → Option Bool
  | [] => some true
  | none :: _ => none
  | some false :: _ => some false
  | some true :: r => eqFlat r
/-- Are two cells of plain comparable data the same? -/
def eqSc : Sc → Sc → Option Bool
  | .int k a, .int k' b => if k = k' then some (a == b) else none
  | .bool a, .bool b => some (a == b)
  | .str a, .str b => some (a == b)
  | _, _ => none
/-- A struct all of whose fields are one plain cell each: its cells, by types. -/
def plainFields (T : TypeId → Option Ty) (t : TypeId) : Option (List TypeDesc) :=
  (T t).bind fun y => match y.d with
    | .struct fs => (fs.toList.zipIdx.mapM fun (f, i) => (T f.type).bind fun z => if f.name ≠ "_" ∧ f.offset = i ∧ z.size = 1 then (match z.d with | .int k => some (.int k) | .bool => some .bool | .string => some .string | _ => none) else none)
    | _ => none
end Go.Am
/-
  Am, part D: loads, stores, addresses: the model does what the abstract machine does.
-/
namespace Go.Am

theorem addr_add (b o n : Nat) : (⟨b, o, none⟩ : Addr).add n = ⟨b, o + n, none⟩ := by
  unfold Addr.add
  split
  · rename_i h; subst h; rfl
  · rfl

def zeroVs (y : Ty) : List Value := y.zero.map Sc.constV
theorem Sc.const_oneCell {c : Sc} (h : c.isConst = true) : c.constV.oneCell' = true := by cases c <;> simp_all [Sc.isConst, Sc.constV, Value.oneCell']
theorem Sc.const_SR {G : Nat → Nat → Prop} {w : World} {c : Sc} (h : c.isConst = true) : SR G w c c.constV := by cases c <;> simp_all [Sc.isConst, Sc.constV, SR]
theorem Sc.const_SRs {G : Nat → Nat → Prop} {w : World} : ∀ {l : List Sc}, l.all Sc.isConst = true → SRs G w l (l.map Sc.constV)
  | [], _ => by simp [SRs]
  | c :: l, h => by
    simp only [List.all_cons, Bool.and_eq_true] at h
    simp only [List.map_cons, SRs]
    exact ⟨_, _, rfl, Sc.const_SR h.1, Sc.const_SRs h.2⟩

section
variable {P : Program} {T : TypeId → Option Ty} {m : Nat → Option Ent} {lb : Nat → Option Nat} {G : Nat → Nat → Prop} {w : World} {ob : Nat → Obj} {nx : Nat}

theorem TOk.und (hT : TOk P T) {t : TypeId} {y : Ty} (h : T t = some y) : P.underlying t = some y.d := (hT t y h).1
theorem TOk.info (hT : TOk P T) {t : TypeId} {y : Ty} (h : T t = some y) : ∃ i, P.info? t = some i ∧ i.size = y.size ∧ i.bytes = y.bytes ∧ i.zero = some y.zeroV := (hT t y h).2.2.2
theorem TOk.const (hT : TOk P T) {t : TypeId} {y : Ty} (h : T t = some y) : y.zero.all Sc.isConst = true := (hT t y h).2.1
theorem TOk.zlen (hT : TOk P T) {t : TypeId} {y : Ty} (h : T t = some y) : y.zero.length = y.size := (hT t y h).2.2.1
theorem run_isAgg (hT : TOk P T) {t : TypeId} {y : Ty} (h : T t = some y) (w : World) : (isAgg t).run P w = .ok (isAggD y.d) w := by
  simp only [isAgg, Sem.run_bind, run_underlying (hT.und h), Result.andThen_ok]
  cases y.d <;> rfl
theorem run_sizeOf (hT : TOk P T) {t : TypeId} {y : Ty} (h : T t = some y) (w : World) : (sizeOf t).run P w = .ok y.size w := by
  obtain ⟨i, hi, hs, _⟩ := hT.info h
  simp [sizeOf, typeInfo, hi, hs]
theorem run_zeroValue (hT : TOk P T) {t : TypeId} {y : Ty} (h : T t = some y) (w : World) : (zeroValue t).run P w = .ok y.zeroV w := by
  obtain ⟨i, hi, _, _, hz⟩ := hT.info h
  simp [zeroValue, typeInfo, hi, hz]
/-- A value's cells, as they lie. -/
def flatV (y : Ty) (cells : List Value) : Value := if isAggD y.d then .agg cells.toArray else cells.headD undef
theorem run_loadVar_at (hT : TOk P T) {t : TypeId} {y : Ty} (h : T t = some y) (b o : Nat) (cells : List Value) (hl : cells.length = y.size) (h1 : isAggD y.d = false → cells.length = 1)
    (hc : ∀ (j : Nat) v, cells[j]? = some v → w.cell? ⟨b, o + j, none⟩ = some v) : (loadVar t ⟨b, o, none⟩).run P w = .ok (flatV y cells) w := by
  have hc' : ∀ (j : Nat) v, cells[j]? = some v → w.cell? ((⟨b, o, none⟩ : Addr).add j) = some v := fun j v hj => by rw [addr_add]; exact hc j v hj
  unfold loadVar flatV
  simp only [Sem.run_bind, run_isAgg hT h, Result.andThen_ok]
  cases ha : isAggD y.d with
  | true =>
    have := run_loadCells_list (P := P) w ⟨b, o, none⟩ cells hc'
    rw [hl] at this
    simp [run_sizeOf hT h, this]
  | false =>
    obtain ⟨v, rfl⟩ := List.length_eq_one_iff.1 (h1 ha)
    have := hc 0 v (by simp)
    simp only [Nat.add_zero] at this
    simp [this]
theorem unflat_len {y : Ty} {l : List Av} {r : Va} (h : unflat y l = some r) : isAggD y.d = false → l.length = 1 := by
  intro ha
  simp only [unflat, ha, Bool.false_eq_true, if_false] at h
  split at h
  · rfl
  · cases h
theorem unflat_VR {y : Ty} {l : List Av} {r : Va} (h : unflat y l = some r) {cells : List Value} (hc : ARs m lb G w l cells) : VR m lb G w r (flatV y cells) := by
  unfold unflat at h
  unfold flatV
  split at h
  · rename_i ha
    cases h
    simp only [ha, if_true, VR]
    exact ⟨cells, rfl, hc⟩
  · rename_i ha
    simp only [ha]
    split at h
    · cases h
      simp only [ARs] at hc
      obtain ⟨u, us, rfl, h1, rfl⟩ := hc
      simpa [VR] using h1
    · cases h
/-- A place in an object's cells. -/
theorem Rel.cells (h : Rel m lb G w ob nx) {id : Nat} {e : Ent} {l : List Av} {fz : Nat} (hm : m id = some e) (ho : ob id = .cs l fz) :
    ∃ vs, ARs m lb G w l vs ∧ ∀ (j : Nat) v, vs[j]? = some v → w.cell? ⟨e.b, e.s + j, none⟩ = some v := by
  have := h.obj id e hm
  rw [ho] at this
  obtain ⟨A, vs, h1, h2, h3, h4, h5, h6⟩ := this
  refine ⟨vs, h3, fun j v hj => ?_⟩
  simp only [World.cell?, h1]
  simpa using h5 j v hj
theorem run_aLoad (hT : TOk P T) (h : Rel m lb G w ob nx) {t : TypeId} {a r : Va} {v : Value} (hr : aLoad T ob t a = some r) (hv : VR m lb G w a v) :
    ∃ u, (Instr.loadAt t v).run P w = .ok u w ∧ VR m lb G w r u := by
  unfold aLoad at hr
  split at hr
  · rename_i id o
    simp only [VR, AR] at hv
    obtain ⟨e, hm, rfl⟩ := hv
    obtain ⟨y, hy, hr⟩ := Option.bind_eq_some_iff.1 hr
    split at hr
    · rename_i l fz hl
      split at hr
      · rename_i hle
        obtain ⟨vs, hvs, hat⟩ := h.cells hm hl
        have hl2 := hvs.length
        have hseg : ARs m lb G w ((l.drop o).take y.size) ((vs.drop o).take y.size) := (hvs.drop o).take y.size
        refine ⟨flatV y ((vs.drop o).take y.size), ?_, unflat_VR hr hseg⟩
        have := run_loadVar_at (w := w) hT hy e.b (e.s + o) ((vs.drop o).take y.size) (by simp; omega) (fun ha => by have := unflat_len hr ha; simp at this ⊢; omega) (fun j v hj => by
          rw [List.getElem?_take] at hj
          split at hj
          · rw [List.getElem?_drop] at hj
            rw [Nat.add_assoc]
            exact hat _ _ hj
          · cases hj)
        simp [Instr.loadAt, Instr.sureAddr, this]
      · cases hr
    · cases hr
  · rename_i cs
    simp only [VR, AR, SR] at hv
    obtain ⟨b, o, vs, rfl, hvs, hmem⟩ := hv
    obtain ⟨y, hy, hr⟩ := Option.bind_eq_some_iff.1 hr
    split at hr
    · rename_i hle
      have hl2 := hvs.length
      refine ⟨flatV y (vs.take y.size), ?_, unflat_VR hr (ARs.of_sc (hvs.take y.size))⟩
      have := run_loadVar_at (w := w) hT hy b o (vs.take y.size) (by simp; omega) (fun ha => by have := unflat_len hr ha; simp at this ⊢; omega) (fun j v hj => (hmem.take y.size j v hj).2)
      simp [Instr.loadAt, Instr.sureAddr, this]
    · cases hr
  · cases hr

theorem AR.oneCell {a : Av} {v : Value} (h : AR m lb G w a v) : v.oneCell' = true := by
  cases a with
  | sc s =>
    simp only [AR] at h
    cases s <;> simp only [SR] at h
    case sl n cs => obtain ⟨A, c, rfl, _⟩ := h; rfl
    case cptr cs => obtain ⟨b, o, vs, rfl, _⟩ := h; rfl
    case iface t s => obtain ⟨u, rfl, _⟩ := h; rfl
    all_goals (subst h; rfl)
  | own id o n es =>
    simp only [AR] at h
    obtain ⟨e, _, h⟩ := h
    rcases h with ⟨c, rfl, _⟩ | ⟨_, A, rfl⟩ <;> rfl
  | ptr id o => simp only [AR] at h; obtain ⟨e, _, rfl⟩ := h; rfl
  | fn f first caps => simp only [AR] at h; obtain ⟨us, vs, rfl, _⟩ := h; rfl
  | map id => simp only [AR] at h; obtain ⟨e, _, rfl⟩ := h; rfl
  | yl l => simp only [AR] at h; obtain ⟨b, _, rfl⟩ := h; rfl
theorem cellsA_VR {a : Va} {cs : List Av} {v : Value} (h : cellsA a = some cs) (hv : VR m lb G w a v) : ARs m lb G w cs v.cells.toList := by
  unfold cellsA at h
  split at h
  · cases h
    simp only [VR] at hv
    have h1 := AR.oneCell hv
    have hc : v.cells = #[v] := by cases v <;> simp_all [Value.cells, Value.oneCell']
    rw [hc]
    exact ARs.cons hv ARs.nil
  · cases h
    simp only [VR] at hv
    obtain ⟨vs, rfl, hv⟩ := hv
    simpa [Value.cells] using hv
  · cases h

/-- Cells put down one behind the other. -/
theorem run_storeCells {id : Nat} {e : Ent} {fz : Nat} (hm : m id = some e) : ∀ (cs : List Av) (l : List Av) (vs : List Value) (k : Nat) (j : Nat) (w : World) (ob : Nat → Obj), Rel m lb G w ob nx → ob id = .cs l fz →
    ARs m lb G w cs vs → fz ≤ j + k → j + k + cs.length ≤ l.length →
    ∃ w', (storeCells ⟨e.b, e.s + j, none⟩ vs k).run P w = .ok () w' ∧ Rel m lb G w' (upd ob id (.cs (storeL l (j + k) cs) fz)) nx ∧ Evo m lb G w m G w'
  | [], l, vs, k, j, w, ob, h, ho, hvs, hf, hj => by
    simp only [ARs] at hvs
    subst hvs
    have : upd ob id (.cs l fz) = ob := by funext i; unfold upd; split <;> simp_all
    exact ⟨w, rfl, by rw [storeL, this]; exact h, Evo.refl⟩
  | a :: cs, l, vs, k, j, w, ob, h, ho, hvs, hf, hj => by
    simp only [ARs] at hvs
    obtain ⟨u, us, rfl, hu, hus⟩ := hvs
    simp only [List.length_cons] at hj
    obtain ⟨h1, h2, hc, hfr⟩ := h.store hm ho (j + k) (by omega) hf hu
    have hon := h2.on
    obtain ⟨w', hr, h3, h4⟩ := run_storeCells hm cs (l.set (j + k) a) us (k + 1) j _ (upd ob id (.cs (l.set (j + k) a) fz)) h1 (upd_same _ _ _) (ARs.on hon hus) (by omega) (by simp; omega)
    refine ⟨w', ?_, ?_, h2.trans h4⟩
    · have e1 : (⟨e.b, e.s + j, none⟩ : Addr).add k = ⟨e.b, e.s + (j + k), none⟩ := by rw [addr_add, Nat.add_assoc]
      have e2 := run_store P w ⟨e.b, e.s + (j + k), none⟩ u .plain (AR.oneCell hu)
      obtain ⟨cv, hcv⟩ := Option.ne_none_iff_exists'.1 hc
      have e3 : (store ⟨e.b, e.s + (j + k), none⟩ u).run P w = .ok () (w.setCell ⟨e.b, e.s + (j + k), none⟩ u) := by
        rw [e2]; simp [hcv, hfr]
      simp only [storeCells, Sem.run_bind, e1, e3, Result.andThen_ok]
      exact hr
    · have e4 : upd (upd ob id (.cs (l.set (j + k) a) fz)) id (.cs (storeL (l.set (j + k) a) (j + (k + 1)) cs) fz) = upd ob id (.cs (storeL l (j + k) (a :: cs)) fz) := by
        funext i; unfold upd; split <;> simp [storeL, Nat.add_assoc]
      rw [← e4]; exact h3
end
end Go.Am
/-
  Am, part E: stores, fields, indexes, arithmetic, new variables, slices, append.
-/
namespace Go.Am
section
variable {P : Program} {T : TypeId → Option Ty} {m : Nat → Option Ent} {lb : Nat → Option Nat} {G : Nat → Nat → Prop} {w : World} {ob : Nat → Obj} {nx : Nat}

theorem run_aStore (hT : TOk P T) (h : Rel m lb G w ob nx) {t : TypeId} {a x : Va} {va vx : Value} {ob' : Nat → Obj} (hr : aStore T ob t a x = some ob') (hva : VR m lb G w a va) (hvx : VR m lb G w x vx) :
    ∃ w', (Instr.storeAt t va vx).run P w = .ok () w' ∧ Rel m lb G w' ob' nx ∧ Evo m lb G w m G w' ∧ ∀ i, m i = none → ob' i = ob i := by
  unfold aStore at hr
  split at hr
  · rename_i id o cs hcs
    simp only [VR, AR] at hva
    obtain ⟨e, hm, rfl⟩ := hva
    obtain ⟨y, hy, hr⟩ := Option.bind_eq_some_iff.1 hr
    split at hr
    · rename_i l fz hl
      split at hr
      · rename_i hc
        obtain ⟨hc1, hc2, hc3⟩ := hc
        cases hr
        have hcells := cellsA_VR hcs hvx
        obtain ⟨w', hrun, h1, h2⟩ := run_storeCells (P := P) hm cs l vx.cells.toList 0 o w ob h hl hcells (by omega) (by omega)
        refine ⟨w', ?_, by simpa using h1, h2, fun i hi => ?_⟩
        · have hsz : vx.cells.size = y.size := by rw [← Array.length_toList, hcells.length]; exact hc1
          simp [Instr.storeAt, Instr.sureAddr, storeVar, run_sizeOf hT hy, hsz, hrun]
        · rw [upd_ne]
          intro hh
          subst hh
          rw [hm] at hi
          cases hi
      · cases hr
    · cases hr
  · cases hr

theorem run_aField (hT : TOk P T) {t : TypeId} {f : Nat} {a r : Va} {v : Value} (hr : aField T t f a = some r) (hv : VR m lb G w a v) :
    ∃ u, (Instr.fieldAt t v f).run P w = .ok u w ∧ VR m lb G w r u := by
  have key : ∀ (x : Nat × Ty) b o, fieldOf T t f = some x → (Instr.fieldAt t (.pointer (some ⟨b, o, none⟩)) f).run P w = .ok (.pointer (some ⟨b, o + x.1, none⟩)) w := by
    intro x b o hx
    unfold fieldOf at hx
    obtain ⟨y, hy, hx⟩ := Option.bind_eq_some_iff.1 hx
    split at hx
    · rename_i fs hd
      obtain ⟨fd, hfd, hx⟩ := Option.bind_eq_some_iff.1 hx
      obtain ⟨z, hz, hx⟩ := Option.bind_eq_some_iff.1 hx
      split at hx
      · cases hx
      · rename_i hne
        cases hx
        have hu := hT.und hy
        rw [hd] at hu
        simp [Instr.fieldAt, run_underlying hu, hfd, Instr.sureAddr, fieldPlace, run_sizeOf hT hz, hne, addr_add]
    · cases hx
  unfold aField at hr
  split at hr
  · rename_i id o
    obtain ⟨x, hx, rfl⟩ := Option.map_eq_some_iff.1 hr
    simp only [VR, AR] at hv
    obtain ⟨e, hm, rfl⟩ := hv
    refine ⟨_, key x _ _ hx, ?_⟩
    simp only [VR, AR]
    exact ⟨e, hm, by rw [Nat.add_assoc]⟩
  · rename_i cs
    obtain ⟨x, hx, rfl⟩ := Option.map_eq_some_iff.1 hr
    simp only [VR, AR, SR] at hv
    obtain ⟨b, o, vs, rfl, hvs, hmem⟩ := hv
    refine ⟨_, key x _ _ hx, ?_⟩
    simp only [VR, AR, SR]
    exact ⟨b, o + x.1, vs.drop x.1, rfl, hvs.drop _, hmem.drop _⟩
  · cases hr

theorem run_aIndex (hT : TOk P T) {t : TypeId} {a x r : Va} {v u : Value} (hr : aIndex T t a x = some r) (hv : VR m lb G w a v) (hu : VR m lb G w x u) :
    ∃ u', (Instr.indexAt t v u).run P w = .ok u' w ∧ VR m lb G w r u' := by
  unfold aIndex at hr
  split at hr
  · rename_i id o n es k i
    simp only [VR, AR, SR] at hu hv
    subst hu
    obtain ⟨y, hy, hr⟩ := Option.bind_eq_some_iff.1 hr
    split at hr
    · rename_i e hd
      obtain ⟨z, hz, hr⟩ := Option.bind_eq_some_iff.1 hr
      split at hr
      · rename_i hc
        obtain ⟨hes, h0, h1⟩ := hc
        cases hr
        have hund := hT.und hy
        rw [hd] at hund
        obtain ⟨en, hm, hv⟩ := hv
        rcases hv with ⟨c, rfl, hc⟩ | ⟨hn, _⟩
        · refine ⟨.pointer (some ⟨en.b, en.s + o + i.toNat * es, none⟩), ?_, ?_⟩
          · simp [Instr.indexAt, asIntOf, run_underlying hund, h0, h1, run_sizeOf hT hz, hes, addr_add]
          · simp only [VR, AR]
            exact ⟨en, hm, by rw [Nat.add_assoc]⟩
        · omega
      · cases hr
    · cases hr
  · rename_i n cs k i
    simp only [VR, AR, SR] at hu hv
    subst hu
    obtain ⟨y, hy, hr⟩ := Option.bind_eq_some_iff.1 hr
    split at hr
    · rename_i e hd
      obtain ⟨z, hz, hr⟩ := Option.bind_eq_some_iff.1 hr
      split at hr
      · rename_i hc
        obtain ⟨h0, h1, h2, h3⟩ := hc
        cases hr
        have hund := hT.und hy
        rw [hd] at hund
        obtain ⟨A, c, rfl, hnc, hmem⟩ := hv
        rcases hmem with rfl | ⟨b, o, vs, rfl, hvs, hmem⟩
        · exfalso
          have h5 : n * z.size = 0 := h2
          rcases Nat.mul_eq_zero.1 h5 with h6 | h6
          · omega
          · exact h3 h6
        · refine ⟨.pointer (some ⟨b, o + i.toNat * z.size, none⟩), ?_, ?_⟩
          · simp [Instr.indexAt, asIntOf, run_underlying hund, h0, h1, run_sizeOf hT hz, addr_add]
          · simp only [VR, AR, SR]
            exact ⟨b, _, _, rfl, hvs.drop _, hmem.drop _⟩
      · cases hr
    · cases hr
  · rename_i id o k i
    simp only [VR, AR, SR] at hu hv
    subst hu
    obtain ⟨y, hy, hr⟩ := Option.bind_eq_some_iff.1 hr
    split at hr
    · rename_i n e hd
      obtain ⟨z, hz, hr⟩ := Option.bind_eq_some_iff.1 hr
      split at hr
      · rename_i hc
        obtain ⟨h0, h1⟩ := hc
        cases hr
        have hund := hT.und hy
        rw [hd] at hund
        obtain ⟨en, hm, rfl⟩ := hv
        refine ⟨.pointer (some ⟨en.b, en.s + o + i.toNat * z.size, none⟩), ?_, ?_⟩
        · simp [Instr.indexAt, asIntOf, run_underlying hund, Instr.sureAddr, h0, h1, run_sizeOf hT hz, addr_add]
        · simp only [VR, AR]
          exact ⟨en, hm, by rw [Nat.add_assoc]⟩
      · cases hr
    · cases hr
  · rename_i cs k i
    simp only [VR, AR, SR] at hu hv
    subst hu
    obtain ⟨y, hy, hr⟩ := Option.bind_eq_some_iff.1 hr
    split at hr
    · rename_i n e hd
      obtain ⟨z, hz, hr⟩ := Option.bind_eq_some_iff.1 hr
      split at hr
      · rename_i hc
        obtain ⟨h0, h1⟩ := hc
        cases hr
        have hund := hT.und hy
        rw [hd] at hund
        obtain ⟨b, o, vs, rfl, hvs, hmem⟩ := hv
        refine ⟨.pointer (some ⟨b, o + i.toNat * z.size, none⟩), ?_, ?_⟩
        · simp [Instr.indexAt, asIntOf, run_underlying hund, Instr.sureAddr, h0, h1, run_sizeOf hT hz, addr_add]
        · simp only [VR, AR, SR]
          exact ⟨b, _, _, rfl, hvs.drop _, hmem.drop _⟩
      · cases hr
    · cases hr
  · cases hr

/-! ### Arithmetic, comparisons -/
def aBin (op : BinOp) : Va → Va → Option Va
  | .av (.sc (.int k a)), .av (.sc (.int k' b)) => if k = k' then aArith op k a b else none
  | .av (.sc (.str a)), .av (.sc (.str b)) => match op with
    | .eql => some (.av (.sc (.bool (a.toList == b.toList))))
    | .neq => some (.av (.sc (.bool (!(a.toList == b.toList)))))
    | .lss => some (.av (.sc (.bool (Op.bytesLess a.toList b.toList))))
    | .gtr => some (.av (.sc (.bool (!(Op.bytesLess a.toList b.toList || a.toList == b.toList)))))
    | _ => none
  | _, _ => none
theorem run_aBin {op : BinOp} {x y r : Va} {u v : Value} (hr : aBin op x y = some r) (t : TypeId) (hu : VR m lb G w x u) (hv : VR m lb G w y v) :
    ∃ u', (binOp op t u v).run P w = .ok u' w ∧ VR m lb G w r u' := by
  unfold aBin at hr
  split at hr
  · rename_i k a k' b
    simp only [VR, AR, SR] at hu hv
    subst hu hv
    split at hr
    · rename_i hk
      subst hk
      unfold aArith at hr
      cases op <;> simp only at hr
      case add => split at hr
                  · rename_i h; cases hr; exact ⟨_, by simp [binOp, Op.intArith]; rfl, by simp [VR, AR, SR, h]⟩
                  · cases hr
      case sub => split at hr
                  · rename_i h; cases hr; exact ⟨_, by simp [binOp, Op.intArith]; rfl, by simp [VR, AR, SR, h]⟩
                  · cases hr
      case mul => split at hr
                  · rename_i h; cases hr; exact ⟨_, by simp [binOp, Op.intArith]; rfl, by simp [VR, AR, SR, h]⟩
                  · cases hr
      all_goals first
        | (cases hr; exact ⟨_, by simp [binOp, Op.intCmp]; rfl, by simp [VR, AR, SR]⟩)
        | (cases hr; exact ⟨_, by simp only [binOp, Op.intBits, ne_eq, not_true_eq_false, if_false]; rfl, by simp [VR, AR, SR]⟩)
        | cases hr
    · cases hr
  · rename_i a b
    simp only [VR, AR, SR] at hu hv
    subst hu hv
    cases op <;> simp only at hr <;> first
      | (cases hr; exact ⟨_, by simp [binOp, Op.stringOp]; rfl, by simp [VR, AR, SR]⟩)
      | cases hr
  · cases hr

def aUn (op : UnOp) : Va → Option Va
  | .av (.sc (.bool b)) => match op with | .not => some (.av (.sc (.bool (!b)))) | _ => none
  | .av (.sc (.int k n)) => match op with | .neg => (if k.wrap (0 - n) = 0 - n then some (.av (.sc (.int k (0 - n)))) else none) | _ => none
  | _ => none
theorem run_aUn {op : UnOp} {x r : Va} {u : Value} (hr : aUn op x = some r) (hu : VR m lb G w x u) : ∃ u', (Op.unary op u).run P w = .ok u' w ∧ VR m lb G w r u' := by
  unfold aUn at hr
  split at hr
  · simp only [VR, AR, SR] at hu
    subst hu
    cases op <;> simp only at hr <;> first
      | (cases hr; exact ⟨_, by simp [Op.unary]; rfl, by simp [VR, AR, SR]⟩)
      | cases hr
  · simp only [VR, AR, SR] at hu
    subst hu
    cases op <;> simp only at hr <;> first
      | (split at hr
         · rename_i h; cases hr; exact ⟨_, by simp [Op.unary, Op.intArith]; rfl, by have h2 := h; simp at h2; simp [VR, AR, SR, h2]⟩
         · cases hr)
      | cases hr
  · cases hr

/-- A whole number from one kind to another one. -/
def aConv (T : TypeId → Option Ty) (src dst : TypeId) : Va → Option Va
  | .av (.sc (.int k n)) => (T src).bind fun _ => (T dst).bind fun y => match y.d with
    | .int k' => some (.av (.sc (.int k' (k'.wrap n))))
    | _ => none
  | .av (.sc (.str s)) => (T src).bind fun z => (T dst).bind fun y => match z.d, y.d with
    | .string, .string => some (.av (.sc (.str s)))
    | _, _ => none
  | _ => none
theorem run_aConv (hT : TOk P T) {src dst : TypeId} {x r : Va} {u : Value} (hr : aConv T src dst x = some r) (hu : VR m lb G w x u) : ∃ u', (convert src dst u).run P w = .ok u' w ∧ VR m lb G w r u' := by
  unfold aConv at hr
  split at hr
  · rename_i k n
    obtain ⟨z, hz, hr⟩ := Option.bind_eq_some_iff.1 hr
    obtain ⟨y, hy, hr⟩ := Option.bind_eq_some_iff.1 hr
    split at hr
    · rename_i k' hd
      cases hr
      simp only [VR, AR, SR] at hu
      subst hu
      have hund := hT.und hy
      rw [hd] at hund
      refine ⟨.int k' (k'.wrap n), ?_, by simp [VR, AR, SR]⟩
      have ha := hT.und hz
      simp [convert, run_underlying ha, run_underlying hund, Conv.intToInt]
    · cases hr
  · rename_i s
    obtain ⟨z, hz, hr⟩ := Option.bind_eq_some_iff.1 hr
    obtain ⟨y, hy, hr⟩ := Option.bind_eq_some_iff.1 hr
    split at hr
    · rename_i h1 h2
      cases hr
      simp only [VR, AR, SR] at hu
      subst hu
      have ha := hT.und hz
      have hb := hT.und hy
      rw [h1] at ha
      rw [h2] at hb
      exact ⟨.string s, by simp [convert, run_underlying ha, run_underlying hb], by simp [VR, AR, SR]⟩
    · cases hr
  · cases hr
end
end Go.Am
/-
  Am, part F: new variables, composite values, make, append.
-/
namespace Go.Am

def zeroA (y : Ty) : List Av := y.zero.map .sc
def aAlloc (T : TypeId → Option Ty) (ob : Nat → Obj) (nid : Nat) (t : TypeId) : Option (Va × (Nat → Obj)) :=
  (T t).map fun y => (.av (.ptr nid 0), upd ob nid (.cs (zeroA y) 0))
def aBox (ob : Nat → Obj) (nid : Nat) (x : Va) : Option (Va × (Nat → Obj)) :=
  (cellsA x).map fun cs => (.av (.ptr nid 0), upd ob nid (.cs cs 0))
def aFill (place : Nat → Option (Nat × Nat)) : List Av → List (Nat × Va) → Option (List Av)
  | cells, [] => some cells
  | cells, (i, x) :: rest => (place i).bind fun p => (cellsA x).bind fun cs =>
      if cs.length = p.2 ∧ p.1 + p.2 ≤ cells.length then aFill place (storeL cells p.1 cs) rest else none
def placesOf (T : TypeId → Option Ty) : List Field → Option (List (Nat × Nat))
  | [] => some []
  | f :: fs => (T f.type).bind fun z => (placesOf T fs).map fun r => (f.offset, z.size) :: r
def aBuild (T : TypeId → Option Ty) (t : TypeId) (parts : List (Nat × Va)) : Option Va :=
  (T t).bind fun y => match y.d with
    | .struct fs => (placesOf T fs.toList).bind fun ps => (aFill (fun i => ps[i]?) (zeroA y) parts).map .agg
    | .array _ e => (T e).bind fun z => (aFill (fun i => some (i * z.size, z.size)) (zeroA y) parts).map .agg
    | _ => none
/-- n zero cells, one row of z behind the other. -/
def zerosA (z : List Sc) (n : Nat) : List Av := (List.range n).map fun j => .sc (z.getD (j % z.length) .nili)
def aBuildSlice (T : TypeId → Option Ty) (ob : Nat → Obj) (nid : Nat) (t : TypeId) (len : Nat) (parts : List (Nat × Va)) : Option (Va × (Nat → Obj)) :=
  (T t).bind fun y => match y.d with
    | .slice e => (T e).bind fun z => if len * z.size ≤ 16777216 ∧ z.size ≠ 0 then
        (aFill (fun i => some (i * z.size, z.size)) (zerosA z.zero (len * z.size)) parts).map fun cs => (.av (.own nid 0 len z.size), upd ob nid (.cs cs 0)) else none
    | _ => none
def aMake (T : TypeId → Option Ty) (ob : Nat → Obj) (nid : Nat) (t : TypeId) : Va → Va → Option (Va × (Nat → Obj))
  | .av (.sc (.int _ l)), .av (.sc (.int _ c)) => (T t).bind fun y => match y.d with
    | .slice e => (T e).bind fun z => if 0 ≤ l ∧ l ≤ c ∧ c ≤ 1099511627776 ∧ z.bytes ≤ 128 ∧ z.size ≠ 0 then
        some (.av (.own nid 0 l.toNat z.size), upd ob nid (.cs (zerosA z.zero (l.toNat * z.size)) 0)) else none
    | _ => none
  | _, _ => none
/-- What a slice holds: how many elements, their cells; of one of the store's own: its name. -/
def aSrc (ob : Nat → Obj) (es : Nat) : Va → Option (Nat × List Av)
  | .av (.own id o n es') => match ob id with
    | .cs l fz => if es' = es ∧ o + n * es ≤ l.length then some (n, (l.drop o).take (n * es)) else none
    | _ => none
  | .av (.sc (.sl n cs)) => if n * es = cs.length then some (n, cs.map .sc) else none
  | .av (.sc .nilsl) => some (0, [])
  | _ => none
def aAppend (T : TypeId → Option Ty) (ob : Nat → Obj) (nid : Nat) (t : TypeId) (s x : Va) : Option (Va × (Nat → Obj)) :=
  (T t).bind fun y => match y.d with
    | .slice e => (T e).bind fun z => (aSrc ob z.size x).bind fun new =>
      if z.size = 0 ∨ 128 < z.bytes then none else match s with
      | .av (.sc .nilsl) => if new.1 = 0 then some (s, ob) else if new.1 ≤ 1099511627776 then some (.av (.own nid 0 new.1 z.size), upd ob nid (.cs new.2 0)) else none
      | .av (.own id o n es) => match ob id with
        | .cs l fz => if es = z.size ∧ o + n * es ≤ l.length ∧ fz ≤ o + n * es ∧ n + new.1 ≤ 1099511627776 then
            (if new.1 = 0 then some (s, ob) else some (.av (.own nid 0 (n + new.1) es), upd (upd ob id .dead) nid (.cs ((l.drop o).take (n * es) ++ new.2) (fz - o)))) else none
        | _ => none
      | _ => none
    | _ => none

section
variable {P : Program} {T : TypeId → Option Ty} {m : Nat → Option Ent} {lb : Nat → Option Nat} {G : Nat → Nat → Prop} {w : World} {ob : Nat → Obj} {nx : Nat}

/-- What an operation that makes one object at most leaves. -/
def Ok1 (m : Nat → Option Ent) (lb : Nat → Option Nat) (G : Nat → Nat → Prop) (w : World) (ob : Nat → Obj) (nx nid : Nat) (r : Va) (ob' : Nat → Obj) (v : Value) (w' : World) : Prop :=
  ∃ m' G', VR m' lb G' w' r v ∧ Rel m' lb G' w' ob' nx ∧ Evo m lb G w m' G' w' ∧ ∀ i, i ≠ nid → m i = none → m' i = none ∧ ob' i = ob i
theorem Ok1.same (h : Rel m lb G w ob nx) (nid : Nat) {r : Va} {v : Value} (hv : VR m lb G w r v) : Ok1 m lb G w ob nx nid r ob v w :=
  ⟨m, G, hv, h, Evo.refl, fun _ _ h => ⟨h, rfl⟩⟩
theorem Ok1.new (h : Rel m lb G w ob nx) {nid : Nat} (hn : m nid = none) (hnx : nid < nx) (t : TypeId) (A : Array Value) (l : List Av) (vs : List Value)
    (hl : ARs m lb G w l vs) (hvs : ∀ (j : Nat) v, vs[j]? = some v → A[j]? = some v) {w' : World}
    (hheap : w'.heap = w.heap.push (.cells A t (0, 0))) (h1 : w'.os = w.os) (h2 : w'.tape = w.tape) (h3 : w'.output = w.output) (r : Va) (v : Value)
    (hv : ∀ m', m' nid = some ⟨w.heap.size, 0, t, A.size⟩ → VR m' lb G w' r v) : Ok1 m lb G w ob nx nid r (upd ob nid (.cs l 0)) v w' := by
  obtain ⟨h4, h5⟩ := h.new nid hn (Nat.le_refl _) hnx t A l vs hl hvs hheap h1 h2 h3
  exact ⟨_, G, hv _ (upd_same _ _ _), h4, h5, fun i hi hm => ⟨by rw [upd_ne _ _ hi]; exact hm, upd_ne _ _ hi⟩⟩

theorem zeroA_ARs (hT : TOk P T) {t : TypeId} {y : Ty} (h : T t = some y) : ARs m lb G w (zeroA y) (zeroVs y) := ARs.of_sc (Sc.const_SRs (hT.const h))
theorem zeroV_cells (hT : TOk P T) {t : TypeId} {y : Ty} (h : T t = some y) (h1 : isAggD y.d = false → y.size = 1) : y.zeroV.cells = (zeroVs y).toArray := by
  unfold Ty.zeroV zeroVs
  split
  · rfl
  · rename_i ha
    have hl := hT.zlen h
    rw [h1 (by simpa using ha)] at hl
    obtain ⟨c, hc⟩ := List.length_eq_one_iff.1 hl
    have hk := hT.const h
    rw [hc] at hk ⊢
    simp only [List.all_cons, List.all_nil, Bool.and_true] at hk
    cases c <;> simp_all [Sc.isConst, Sc.constV, Value.cells]
theorem run_aAlloc (hT : TOk P T) (hone : ∀ t y, T t = some y → isAggD y.d = false → y.size = 1) (h : Rel m lb G w ob nx) {nid : Nat} (hn : m nid = none) (hnx : nid < nx) {t : TypeId} {r : Va} {ob' : Nat → Obj}
    (hr : aAlloc T ob nid t = some (r, ob')) : ∃ v w', (Instr.alloc t true (.tuple #[])).run P w = .ok v w' ∧ Ok1 m lb G w ob nx nid r ob' v w' := by
  obtain ⟨y, hy, hr⟩ := Option.map_eq_some_iff.1 hr
  cases hr
  refine ⟨.pointer (some ⟨w.heap.size, 0, none⟩), w.alloc (.cells (zeroVs y).toArray t), ?_, ?_⟩
  · simp [Instr.alloc, run_zeroValue hT hy, newVar, newRow, zeroV_cells hT hy (hone t y hy)]
  · exact Ok1.new (w' := w.alloc (.cells (zeroVs y).toArray t)) h hn hnx t (zeroVs y).toArray (zeroA y) (zeroVs y) (zeroA_ARs hT hy) (fun j v hj => by simpa using hj) rfl rfl rfl rfl _ _ fun m' hm' => by simp only [VR, AR]; exact ⟨_, hm', rfl⟩
theorem run_aBox (h : Rel m lb G w ob nx) {nid : Nat} (hn : m nid = none) (hnx : nid < nx) (t : TypeId) {x r : Va} {v : Value} {ob' : Nat → Obj}
    (hr : aBox ob nid x = some (r, ob')) (hv : VR m lb G w x v) : ∃ u w', (Instr.box t v).run P w = .ok u w' ∧ Ok1 m lb G w ob nx nid r ob' u w' := by
  obtain ⟨cs, hcs, hr⟩ := Option.map_eq_some_iff.1 hr
  cases hr
  have hc := cellsA_VR hcs hv
  refine ⟨.pointer (some ⟨w.heap.size, 0, none⟩), w.alloc (.cells v.cells t), ?_, ?_⟩
  · simp [Instr.box, newVar, newRow]
  · exact Ok1.new (w' := w.alloc (.cells v.cells t)) h hn hnx t v.cells cs v.cells.toList hc (fun j v hj => by simpa using hj) rfl rfl rfl rfl _ _ fun m' hm' => by simp only [VR, AR]; exact ⟨_, hm', rfl⟩

/-! ### Composite values -/
def storeVL : List Value → Nat → List Value → List Value
  | l, _, [] => l
  | l, o, a :: cs => storeVL (l.set o a) (o + 1) cs
theorem storeL_ARs : ∀ {cs : List Av} {us : List Value} {l : List Av} {vs : List Value} (o : Nat), ARs m lb G w l vs → ARs m lb G w cs us → ARs m lb G w (storeL l o cs) (storeVL vs o us)
  | [], us, l, vs, o, h, k => by simp only [ARs] at k; subst k; exact h
  | c :: cs, us, l, vs, o, h, k => by
    simp only [ARs] at k
    obtain ⟨u, xs, rfl, h1, h2⟩ := k
    exact storeL_ARs (o + 1) (ARs.set o h h1) h2
theorem foldl_storeVL (off : Nat) : ∀ (us : List Value) (k : Nat) (arr : Array Value), ((us.zipIdx k).foldl (fun (cs : Array Value) (x : Value × Nat) => cs.setIfInBounds (off + x.2) x.1) arr).toList = storeVL arr.toList (off + k) us
  | [], k, arr => rfl
  | u :: us, k, arr => by
    simp only [List.zipIdx_cons, List.foldl_cons, storeVL]
    rw [foldl_storeVL off us (k + 1)]
    simp [Nat.add_assoc]
/-- The parts of a composite value: the model's. -/
def PartsR (m : Nat → Option Ent) (lb : Nat → Option Nat) (G : Nat → Nat → Prop) (w : World) : List (Nat × Va) → List (Nat × Value) → Prop
  | [], ps => ps = []
  | (i, x) :: r, ps => ∃ v vs, ps = (i, v) :: vs ∧ VR m lb G w x v ∧ PartsR m lb G w r vs
theorem run_aFill (place : Nat → Option (Nat × Nat)) : ∀ {parts : List (Nat × Va)} {ps : List (Nat × Value)} {l l' : List Av} {arr : Array Value}, aFill place l parts = some l' → ARs m lb G w l arr.toList → PartsR m lb G w parts ps →
    ∃ arr', Instr.fill place arr ps = some arr' ∧ ARs m lb G w l' arr'.toList
  | [], ps, l, l', arr, h, hl, hp => by
    simp only [PartsR] at hp
    subst hp
    simp only [aFill] at h
    cases h
    exact ⟨arr, rfl, hl⟩
  | (i, x) :: parts, ps, l, l', arr, h, hl, hp => by
    simp only [PartsR] at hp
    obtain ⟨v, vs, rfl, hv, hp⟩ := hp
    simp only [aFill] at h
    obtain ⟨p, hpl, h⟩ := Option.bind_eq_some_iff.1 h
    obtain ⟨cs, hcs, h⟩ := Option.bind_eq_some_iff.1 h
    split at h
    · rename_i hc
      obtain ⟨h1, h2⟩ := hc
      have hcells := cellsA_VR hcs hv
      have hlen := hl.length
      have hclen := hcells.length
      simp only [Array.length_toList] at hlen hclen
      have hnew : ARs m lb G w (storeL l p.1 cs) (v.cells.zipIdx.foldl (fun cs (c, j) => cs.setIfInBounds (p.1 + j) c) arr).toList := by
        have e : (v.cells.zipIdx.foldl (fun (cs : Array Value) (x : Value × Nat) => cs.setIfInBounds (p.1 + x.2) x.1) arr).toList = storeVL arr.toList p.1 v.cells.toList := by
          rw [← Array.foldl_toList, Array.toList_zipIdx, foldl_storeVL p.1 v.cells.toList 0 arr, Nat.add_zero]
        rw [e]
        exact storeL_ARs p.1 hl hcells
      obtain ⟨arr', h3, h4⟩ := run_aFill place h hnew hp
      refine ⟨arr', ?_, h4⟩
      obtain ⟨off, size⟩ := p
      simp only at h1 h2 hpl
      simp only [Instr.fill, hpl]
      rw [if_neg (by simp; omega)]
      exact h3
    · cases h
theorem placesOf_eq (hT : TOk P T) : ∀ {fs : List Field} {ps : List (Nat × Nat)}, placesOf T fs = some ps → fs.mapM (fun f => (P.info? f.type).map fun i => (f.offset, i.size)) = some ps
  | [], ps, h => by simp only [placesOf] at h; cases h; rfl
  | f :: fs, ps, h => by
    simp only [placesOf] at h
    obtain ⟨z, hz, h⟩ := Option.bind_eq_some_iff.1 h
    obtain ⟨r, hr, rfl⟩ := Option.map_eq_some_iff.1 h
    obtain ⟨i, hi, hs, _⟩ := hT.info hz
    simp [List.mapM_cons, hi, hs, placesOf_eq hT hr]
theorem run_aBuild (hT : TOk P T) {t : TypeId} {parts : List (Nat × Va)} {ps : Array (Nat × Value)} {r : Va} (hr : aBuild T t parts = some r) (hp : PartsR m lb G w parts ps.toList) :
    ∃ u, (Instr.build t ps).run P w = .ok u w ∧ VR m lb G w r u := by
  unfold aBuild at hr
  obtain ⟨y, hy, hr⟩ := Option.bind_eq_some_iff.1 hr
  obtain ⟨it, hit, _, _, hz⟩ := hT.info hy
  split at hr
  · rename_i fs hd
    obtain ⟨pl, hpl, hr⟩ := Option.bind_eq_some_iff.1 hr
    obtain ⟨l', hl', rfl⟩ := Option.map_eq_some_iff.1 hr
    have hzc : y.zeroV.cells = (zeroVs y).toArray := by simp [Ty.zeroV, hd, isAggD, Value.cells, zeroVs]
    obtain ⟨arr', h3, h4⟩ := run_aFill (m := m) (lb := lb) (G := G) (w := w) _ hl' (arr := (zeroVs y).toArray) (by simpa using zeroA_ARs hT hy) hp
    refine ⟨.agg arr', run_build w t ps arr' ?_, ?_⟩
    · have hu := hT.und hy
      rw [hd] at hu
      simp only [Program.built, hit, hu, hz, placesOf_eq hT hpl, hzc]
      simpa using h3
    · simp only [VR]
      exact ⟨arr'.toList, by simp, h4⟩
  · rename_i n e hd
    obtain ⟨z, hze, hr⟩ := Option.bind_eq_some_iff.1 hr
    obtain ⟨l', hl', rfl⟩ := Option.map_eq_some_iff.1 hr
    have hzc : y.zeroV.cells = (zeroVs y).toArray := by simp [Ty.zeroV, hd, isAggD, Value.cells, zeroVs]
    obtain ⟨arr', h3, h4⟩ := run_aFill (m := m) (lb := lb) (G := G) (w := w) _ hl' (arr := (zeroVs y).toArray) (by simpa using zeroA_ARs hT hy) hp
    obtain ⟨ie, hie, hes, _⟩ := hT.info hze
    refine ⟨.agg arr', run_build w t ps arr' ?_, ?_⟩
    · have hu := hT.und hy
      rw [hd] at hu
      simp only [Program.built, hit, hu, hz, hzc, hie, hes]
      exact h3
    · simp only [VR]
      exact ⟨arr'.toList, by simp, h4⟩
  · cases hr

/-! ### Rows of zeros -/
theorem zerosA_SRs (hT : TOk P T) {t : TypeId} {y : Ty} (h : T t = some y) (hs : y.size ≠ 0) (h1 : isAggD y.d = false → y.size = 1) (n : Nat) : ARs m lb G w (zerosA y.zero n) (madeCells y.zeroV.cells n).toList := by
  have hl := hT.zlen h
  have hk := hT.const h
  have key : ∀ l : List Nat, ARs m lb G w (l.map fun j => Av.sc (y.zero.getD (j % y.zero.length) .nili)) (l.map fun j => (zeroVs y).toArray[j % (zeroVs y).toArray.size]!) := by
    intro l
    induction l with
    | nil => exact ARs.nil
    | cons j l ih =>
      simp only [List.map_cons]
      refine ARs.cons ?_ ih
      have hj : j % y.zero.length < y.zero.length := Nat.mod_lt _ (by omega)
      have hz : (zeroVs y).length = y.zero.length := by simp [zeroVs]
      have e1 : (zeroVs y).toArray[j % (zeroVs y).toArray.size]! = (y.zero[j % y.zero.length]'hj).constV := by
        simp only [List.size_toArray, hz]
        rw [getElem!_pos _ _ (by simpa [hz] using hj)]
        simp [zeroVs]
      rw [e1, List.getD_eq_getElem?_getD, List.getElem?_eq_getElem hj]
      simp only [Option.getD_some, AR]
      exact Sc.const_SR ((List.all_eq_true.1 hk) _ (List.getElem_mem _))
  have := key (List.range n)
  rw [zeroV_cells hT h h1]
  simpa [madeCells, zerosA] using this
theorem run_aBuildSlice (hT : TOk P T) (hone : ∀ t y, T t = some y → isAggD y.d = false → y.size = 1) (h : Rel m lb G w ob nx) {nid : Nat} (hn : m nid = none) (hnx : nid < nx) {t : TypeId} {len : Nat} {parts : List (Nat × Va)} {ps : Array (Nat × Value)} {r : Va} {ob' : Nat → Obj}
    (hr : aBuildSlice T ob nid t len parts = some (r, ob')) (hp : PartsR m lb G w parts ps.toList) :
    ∃ u w', (Instr.buildSlice t len ps).run P w = .ok u w' ∧ Ok1 m lb G w ob nx nid r ob' u w' := by
  unfold aBuildSlice at hr
  obtain ⟨y, hy, hr⟩ := Option.bind_eq_some_iff.1 hr
  split at hr
  · rename_i e hd
    obtain ⟨z, hz, hr⟩ := Option.bind_eq_some_iff.1 hr
    split at hr
    · rename_i hc
      obtain ⟨hc1, hc2⟩ := hc
      obtain ⟨cs, hcs, hr⟩ := Option.map_eq_some_iff.1 hr
      cases hr
      have hu := hT.und hy
      rw [hd] at hu
      obtain ⟨arr', h3, h4⟩ := run_aFill (m := m) (lb := lb) (G := G) (w := w) _ hcs (arr := madeCells z.zeroV.cells (len * z.size)) (zerosA_SRs hT hz hc2 (hone e z hz) _) hp
      refine ⟨.slice (some ⟨w.heap.size, 0, none⟩) len len, w.alloc (.cells arr' e), ?_, ?_⟩
      · have h3' : Instr.fill (fun i => some (i * z.size, z.size)) (Array.map (fun x => z.zeroV.cells[x % z.zeroV.cells.size]!) (Array.range (len * z.size))) ps.toList = some arr' := h3
        have e0 : ∀ f : Nat → Value, Array.map f (Array.range 0) = #[] := fun f => by simp [Array.range_zero']
        by_cases h0 : len * z.size = 0
        · rw [h0, e0] at h3'
          simp only [Instr.buildSlice, Sem.run_bind, run_underlying hu, Result.andThen_ok, run_sizeOf hT hz, h0, e0]
          simp [h3', newRow]
        · simp [Instr.buildSlice, run_underlying hu, run_sizeOf hT hz, Nat.not_lt.2 hc1, h0, run_zeroValue hT hz, h3', newRow]
      · have hlen := h4.length
        have hlen2 : cs.length = len * z.size := by
          have : ∀ {parts : List (Nat × Va)} {l l' : List Av}, aFill (fun i => some (i * z.size, z.size)) l parts = some l' → l'.length = l.length := by
            intro parts
            induction parts with
            | nil => intro l l' h; simp only [aFill] at h; cases h; rfl
            | cons p parts ih =>
              intro l l' h
              obtain ⟨i, x⟩ := p
              simp only [aFill] at h
              obtain ⟨q, hq, h⟩ := Option.bind_eq_some_iff.1 h
              obtain ⟨c, hc, h⟩ := Option.bind_eq_some_iff.1 h
              split at h
              · rw [ih h, storeL_length]
              · cases h
          rw [this hcs]
          simp [zerosA]
        refine Ok1.new (w' := w.alloc (.cells arr' e)) h hn hnx e arr' cs arr'.toList h4 (fun j v hj => by simpa using hj) rfl rfl rfl rfl _ _ fun m' hm' => ?_
        simp only [VR, AR]
        refine ⟨_, hm', .inl ⟨len, rfl, Nat.le_refl _, ?_, ?_⟩⟩
        · simp only [maxLen]
          have : len ≤ len * z.size := Nat.le_mul_of_pos_right _ (by omega)
          omega
        · simp only [Array.length_toList] at hlen
          simp only [Nat.zero_add]
          omega
    · cases hr
  · cases hr
theorem run_aMake (hT : TOk P T) (hone : ∀ t y, T t = some y → isAggD y.d = false → y.size = 1) (h : Rel m lb G w ob nx) {nid : Nat} (hn : m nid = none) (hnx : nid < nx) {t : TypeId} {x x' r : Va} {v v' : Value} {ob' : Nat → Obj}
    (hr : aMake T ob nid t x x' = some (r, ob')) (hv : VR m lb G w x v) (hv' : VR m lb G w x' v') :
    ∃ u w', (Instr.makeSlice t v v').run P w = .ok u w' ∧ Ok1 m lb G w ob nx nid r ob' u w' := by
  unfold aMake at hr
  split at hr
  · rename_i kl l kc c
    simp only [VR, AR, SR] at hv hv'
    subst hv hv'
    obtain ⟨y, hy, hr⟩ := Option.bind_eq_some_iff.1 hr
    split at hr
    · rename_i e hd
      obtain ⟨z, hz, hr⟩ := Option.bind_eq_some_iff.1 hr
      split at hr
      · rename_i hc
        obtain ⟨h0, h1, h2, h3, h4⟩ := hc
        cases hr
        have hu := hT.und hy
        rw [hd] at hu
        obtain ⟨i, hi, his, hib, hiz⟩ := hT.info hz
        have hbytes : (i.bytes : Int) * c ≤ 281474976710656 := by
          rw [hib]
          have h5 : (z.bytes : Int) ≤ 128 := by omega
          have h6 : (z.bytes : Int) * c ≤ 128 * c := Int.mul_le_mul_of_nonneg_right h5 (by omega)
          omega
        have hrun := run_make (P := P) w t e i z.zeroV hu hi hiz kl kc l c h0 h1 hbytes (by omega)
        rw [his] at hrun
        refine ⟨_, _, hrun, ?_⟩
        have hls : l.toNat * z.size ≤ c.toNat * z.size := Nat.mul_le_mul_right _ (by omega)
        refine Ok1.new (w' := w.alloc (.cells (madeCells z.zeroV.cells (c.toNat * z.size)) e)) h hn hnx e (madeCells z.zeroV.cells (c.toNat * z.size)) _ (madeCells z.zeroV.cells (l.toNat * z.size)).toList (zerosA_SRs hT hz h4 (hone e z hz) _) (fun j v hj => ?_) rfl rfl rfl rfl _ _ fun m' hm' => ?_
        · simp only [madeCells, Array.toList_map, Array.toList_range, List.getElem?_map] at hj
          obtain ⟨a, ha, hv⟩ := Option.map_eq_some_iff.1 hj
          have hlt : j < l.toNat * z.size ∧ j = a := by
            rcases Nat.lt_or_ge j (l.toNat * z.size) with hlt | hge
            · rw [List.getElem?_range hlt] at ha; cases ha; exact ⟨hlt, rfl⟩
            · rw [List.getElem?_eq_none (by simpa using hge)] at ha; cases ha
          obtain ⟨hlt, rfl⟩ := hlt
          simp only [madeCells, Array.getElem?_map]
          rw [Array.getElem?_range, if_pos (by omega)]
          simpa using hv
        · simp only [VR, AR]
          refine ⟨_, hm', .inl ⟨c.toNat, rfl, by omega, by simp only [maxLen]; omega, by simp [size_madeCells]⟩⟩
      · cases hr
    · cases hr
  · cases hr
end
end Go.Am
/-
  Am, part G: append.
-/
namespace Go.Am
section
variable {P : Program} {T : TypeId → Option Ty} {m : Nat → Option Ent} {lb : Nat → Option Nat} {G : Nat → Nat → Prop} {w : World} {ob : Nat → Obj} {nx : Nat}

/-- A slice that is read: what it holds. -/
theorem src_of (h : Rel m lb G w ob nx) {es : Nat} (hes : es ≠ 0) {x : Va} {n : Nat} {cs : List Av} {v : Value} (hs : aSrc ob es x = some (n, cs)) (hv : VR m lb G w x v) :
    ∃ A c us, v = .slice A n c ∧ n ≤ c ∧ ARs m lb G w cs us ∧ us.length = n * es ∧ ((us = [] ∧ n = 0) ∨ ∃ b o, A = some ⟨b, o, none⟩ ∧ ∀ (j : Nat) u, us[j]? = some u → w.cell? ⟨b, o + j, none⟩ = some u) := by
  unfold aSrc at hs
  split at hs
  · rename_i id o n' es'
    split at hs
    · rename_i l fz hl
      split at hs
      · rename_i hc
        obtain ⟨rfl, hc2⟩ := hc
        cases hs
        simp only [VR, AR] at hv
        obtain ⟨e, hm, hv⟩ := hv
        rcases hv with ⟨c, rfl, hnc, hcm, hsz⟩ | ⟨rfl, A, rfl⟩
        · obtain ⟨vs, hvs, hat⟩ := h.cells hm hl
          have hl2 := hvs.length
          refine ⟨_, c, (vs.drop o).take (n * es'), rfl, hnc, (hvs.drop o).take _, by simp; omega, .inr ⟨_, _, rfl, fun j u hj => ?_⟩⟩
          rw [List.getElem?_take] at hj
          split at hj
          · rw [List.getElem?_drop] at hj
            rw [Nat.add_assoc]
            exact hat _ _ hj
          · cases hj
        · exact ⟨A, 0, [], rfl, Nat.le_refl _, by simp [ARs], by simp, .inl ⟨rfl, rfl⟩⟩
      · cases hs
    · cases hs
  · rename_i n' cs'
    split at hs
    · rename_i hc
      cases hs
      simp only [VR, AR, SR] at hv
      obtain ⟨A, c, rfl, hnc, hmem⟩ := hv
      rcases hmem with rfl | ⟨b, o, vs, rfl, hvs, hmem⟩
      · have hc' : n * es = 0 := hc
        have h0 : n = 0 := (Nat.mul_eq_zero.1 hc').resolve_right hes
        subst h0
        exact ⟨A, c, [], rfl, hnc, by simp [ARs], by simp, .inl ⟨rfl, rfl⟩⟩
      · exact ⟨_, c, vs, rfl, hnc, ARs.of_sc hvs, by rw [hvs.length]; exact hc.symm, .inr ⟨b, o, rfl, fun j u hj => (hmem j u hj).2⟩⟩
    · cases hs
  · cases hs
    simp only [VR, AR, SR] at hv
    subst hv
    exact ⟨none, 0, [], rfl, Nat.le_refl _, by simp [ARs], by simp, .inl ⟨rfl, rfl⟩⟩
  · cases hs

/-- Cells put behind what an object holds: it goes on under a new name. -/
theorem Rel.grow (h : Rel m lb G w ob nx) {id nid : Nat} {e : Ent} {l cs : List Av} {fz : Nat} (hm : m id = some e) (ho : ob id = .cs l fz) (hn : m nid = none) (hnx : nid < nx) (o k : Nat)
    (hk : o + k ≤ l.length) (hf : fz ≤ o + k) (us : List Value) (hus : ARs m lb G w cs us) (hfit : e.s + o + k + us.length ≤ e.sz) :
    ∃ A, w.heap[e.b]? = some (.cells A e.t (0, 0)) ∧ A.size = e.sz ∧ ∀ w', w' = w.setRow e.b (A.toList.take (e.s + o + k) ++ us ++ A.toList.drop (e.s + o + k + us.length)).toArray →
      Rel (upd m nid (some ⟨e.b, e.s + o, e.t, e.sz⟩)) lb G w' (upd (upd ob id .dead) nid (.cs ((l.drop o).take k ++ cs) (fz - o))) nx ∧ Evo m lb G w (upd m nid (some ⟨e.b, e.s + o, e.t, e.sz⟩)) G w' := by
  have hor := h.obj id e hm
  rw [ho] at hor
  obtain ⟨A, vs, hA, hsz, hvs, hlen, hat, hG⟩ := hor
  have hvl := hvs.length
  refine ⟨A, hA, hsz, ?_⟩
  rintro w' rfl
  generalize hB : (A.toList.take (e.s + o + k) ++ us ++ A.toList.drop (e.s + o + k + us.length)).toArray = B
  have hBsz : B.size = e.sz := by
    rw [← hB]
    simp
    omega
  have hBlow : ∀ j, j < e.s + o + k → B[j]? = A[j]? := by
    intro j hj
    rw [← hB]
    simp only [List.append_assoc, List.getElem?_toArray]
    rw [List.getElem?_append_left (by simp; omega), List.getElem?_take, if_pos hj]
    simp
  have hBnew : ∀ (j : Nat) u, us[j]? = some u → B[e.s + o + k + j]? = some u := by
    intro j u hj
    have hjl := (List.getElem?_eq_some_iff.1 hj).1
    rw [← hB]
    simp only [List.append_assoc, List.getElem?_toArray]
    rw [List.getElem?_append_right (by simp; omega)]
    have e1 : (A.toList.take (e.s + o + k)).length = e.s + o + k := by simp; omega
    rw [e1, List.getElem?_append_left (by omega)]
    rw [← hj]
    congr 1
    omega
  have hset := setRow_heap w e.b A B e.t (0, 0) hA
  have hother : ∀ b : Nat, b ≠ e.b → (w.setRow e.b B).heap[b]? = w.heap[b]? := fun b hb => setRow_other w e.b b B hb
  have hid : id ≠ nid := fun hh => by subst hh; rw [hm] at hn; cases hn
  have on : On m lb G w (upd m nid (some ⟨e.b, e.s + o, e.t, e.sz⟩)) lb G (w.setRow e.b B) := by
    refine ⟨⟨fun _ _ h => h, fun b x hg => ?_⟩, fun i f hf => ?_, fun _ _ h => h⟩
    · by_cases hb : b = e.b
      · subst hb
        have hx : x < e.s + o + k := by
          rcases Nat.lt_or_ge x (e.s + o + k) with hx | hx
          · exact hx
          · have := hG (x - e.s) (by omega)
            rw [show e.s + (x - e.s) = x by omega] at this
            exact absurd hg this
        simp only [World.cell?, hset, hA, Option.isSome_none]
        simpa using hBlow x hx
      · exact cell_of_heap (hother b hb)
    · by_cases hi : i = nid
      · subst hi; rw [hn] at hf; cases hf
      · rw [upd_ne _ _ hi]; exact hf
  refine ⟨⟨fun i f hf => ?_, fun i j f g hf hg hi hj hfg => ?_, fun b x hg => by simpa using h.glt b x hg, fun i f hf => ?_, fun i hi => ?_, fun q b hq => ?_⟩,
    on, by simp, by simp, by simp, by simp, fun b hb hnm => hother b (fun hbe => hnm id e hm hbe.symm), fun i f hf => ?_⟩
  · by_cases hi : i = nid
    · subst hi
      rw [upd_same] at hf ⊢
      cases hf
      refine ⟨B, (vs.drop o).take k ++ us, hset, hBsz, ARs.append ((ARs.on on hvs).drop o |>.take k) (ARs.on on hus), ?_, fun j u hj => ?_, fun j hj hg => ?_⟩
      · have := hus.length
        simp
        omega
      · have hl1 : ((vs.drop o).take k).length = k := by simp; omega
        rcases Nat.lt_or_ge j k with hjk | hjk
        · rw [List.getElem?_append_left (by omega), List.getElem?_take, if_pos hjk, List.getElem?_drop] at hj
          have := hat _ _ hj
          simp only
          rw [hBlow _ (by omega), Nat.add_assoc]
          exact this
        · rw [List.getElem?_append_right (by omega), hl1] at hj
          have := hBnew _ _ hj
          simp only
          rw [show e.s + o + j = e.s + o + k + (j - k) by omega]
          exact this
      · simp only at hg
        rw [Nat.add_assoc] at hg
        exact hG (o + j) (by omega) hg
    · rw [upd_ne _ _ hi] at hf ⊢
      by_cases hi2 : i = id
      · subst hi2; rw [upd_same]; trivial
      · rw [upd_ne _ _ hi2]
        by_cases hd : ob i = .dead
        · rw [hd]; trivial
        · exact (h.obj i f hf).on on (hother _ fun hbe => hi2 (h.inj i id f e hf hm hd (by rw [ho]; simp) hbe)) (fun _ h => h)
  · have hcase : ∀ i f, (upd m nid (some ⟨e.b, e.s + o, e.t, e.sz⟩)) i = some f → (upd (upd ob id .dead) nid (.cs ((l.drop o).take k ++ cs) (fz - o))) i ≠ .dead → (i = nid ∧ f.b = e.b) ∨ (i ≠ nid ∧ i ≠ id ∧ m i = some f ∧ ob i ≠ .dead) := by
      intro i f hf hi
      by_cases hi1 : i = nid
      · subst hi1; rw [upd_same] at hf; cases hf; exact .inl ⟨rfl, rfl⟩
      · rw [upd_ne _ _ hi1] at hf hi
        by_cases hi2 : i = id
        · subst hi2; rw [upd_same] at hi; exact absurd rfl hi
        · rw [upd_ne _ _ hi2] at hi; exact .inr ⟨hi1, hi2, hf, hi⟩
    rcases hcase i f hf hi with ⟨rfl, h1⟩ | ⟨h1, h2, h3, h4⟩
    · rcases hcase j g hg hj with ⟨rfl, h5⟩ | ⟨h5, h6, h7, h8⟩
      · rfl
      · exact absurd (h.inj j id g e h7 hm h8 (by rw [ho]; simp) (by omega)) h6
    · rcases hcase j g hg hj with ⟨rfl, h5⟩ | ⟨h5, h6, h7, h8⟩
      · exact absurd (h.inj i id f e h3 hm h4 (by rw [ho]; simp) (by omega)) h2
      · exact h.inj i j f g h3 h7 h4 h8 hfg
  · by_cases hi : i = nid
    · subst hi; rw [upd_same] at hf; cases hf; simpa using h.mlt id e hm
    · rw [upd_ne _ _ hi] at hf; simpa using h.mlt i f hf
  · rw [upd_ne _ _ (by omega)]; exact h.fresh i hi
  · obtain ⟨h1, h2⟩ := h.ll q b hq
    refine ⟨by simpa using h1, fun i f hf => ?_⟩
    by_cases hi : i = nid
    · subst hi; rw [upd_same] at hf; cases hf; exact h2 id e hm
    · rw [upd_ne _ _ hi] at hf; exact h2 i f hf
  · by_cases hi : i = nid
    · subst hi; rw [upd_same] at hf; cases hf; exact .inl ⟨id, e, hm, rfl⟩
    · rw [upd_ne _ _ hi] at hf; exact .inl ⟨i, f, hf, rfl⟩

/-- Nothing is appended. -/
theorem run_append_zero (hT : TOk P T) {t e : TypeId} {z : Ty} (hu : P.underlying t = some (.slice e)) (hz : T e = some z) (ty : TypeId) (A : Option Addr) (n c : Nat) (hnc : n ≤ c) (B : Option Addr) (d : Nat) :
    (Builtin.append_ #[t, t] ty #[.slice A n c, .slice B 0 d]).run P w = .ok (.slice A n c) w := by
  obtain ⟨i, hi, hs, _⟩ := hT.info hz
  have hf : ∀ w : World, (Builtin.firstCells i.size 0 (.slice B 0 d)).run P w = .ok #[] w := by
    intro w
    cases B with
    | none => simp [Builtin.firstCells]
    | some b => simp [Builtin.firstCells, loadCells, loadCellsFrom]
  cases A with
  | none => simp [Builtin.append_, run_underlying hu, sizeOf, typeInfo, hi, Builtin.lenOf, hnc, hf]
  | some a => simp [Builtin.append_, run_underlying hu, sizeOf, typeInfo, hi, Builtin.lenOf, hnc, hf, storeCells]

/-- An append that makes a new block. -/
theorem run_append_new (hT : TOk P T) (hone : ∀ t y, T t = some y → isAggD y.d = false → y.size = 1) (h : Rel m lb G w ob nx) {nid : Nat} (hn : m nid = none) (hnx : nid < nx) {t e : TypeId} {z : Ty} (hu : P.underlying t = some (.slice e)) (hz : T e = some z) (hz0 : z.size ≠ 0) (ty : TypeId)
    {A : Option Addr} {n c : Nat} {olds : List Av} {vo : List Value} (ho : ARs m lb G w olds vo) (hol : vo.length = n * z.size)
    (hA : (A = none ∧ n = 0 ∧ c = 0) ∨ ∃ a, A = some a ∧ ∀ (j : Nat) u, vo[j]? = some u → w.cell? (a.add j) = some u)
    {b o k d : Nat} {news : List Av} {us : List Value} (hus : ARs m lb G w news us) (hul : us.length = k * z.size) (hcell : ∀ (j : Nat) u, us[j]? = some u → w.cell? ⟨b, o + j, none⟩ = some u)
    (hg : c < n + k) (hbig : n + k ≤ 1099511627776) (hby : z.bytes ≤ 128) :
    ∃ v w', (Builtin.append_ #[t, t] ty #[.slice A n c, .slice (some ⟨b, o, none⟩) k d]).run P w = .ok v w' ∧
      Ok1 m lb G w ob nx nid (.av (.own nid 0 (n + k) z.size)) (upd ob nid (.cs (olds ++ news) 0)) v w' := by
  obtain ⟨i, hi, his, hib, hiz⟩ := hT.info hz
  have hnb : (n + k) * i.bytes ≤ 140737488355328 := by
    rw [hib]
    have : (n + k) * z.bytes ≤ (n + k) * 128 := Nat.mul_le_mul_left _ hby
    omega
  have hcell' : ∀ (j : Nat) u, us[j]? = some u → w.cell? ((⟨b, o, none⟩ : Addr).add j) = some u := fun j u hj => by rw [addr_add]; exact hcell j u hj
  have key : ∀ cap0 : Nat, cap0 < n + k → ∀ B : Array Value, B = (vo.toArray ++ us.toArray ++ Builtin.zeroCells z.zeroV.cells (grownCap w (n + k) cap0 e - (n + k))) →
      Ok1 m lb G w ob nx nid (.av (.own nid 0 (n + k) z.size)) (upd ob nid (.cs (olds ++ news) 0)) (.slice (some ⟨w.heap.size, 0, none⟩) (n + k) (grownCap w (n + k) cap0 e)) (w.drew.alloc (.cells B e)) := by
    intro cap0 hc0 B hB
    have hge := grownCap_ge w (n + k) cap0 e
    have hcm : grownCap w (n + k) cap0 e ≤ maxLen := grownCap_le_maxLen w (n + k) cap0 e (by simp only [maxLen]; omega)
    have hzs : z.zeroV.cells.size = z.size := by
      rw [zeroV_cells hT hz (hone e z hz)]
      simp [zeroVs, hT.zlen hz]
    refine Ok1.new (w' := w.drew.alloc (.cells B e)) h hn hnx e B (olds ++ news) (vo ++ us) (ho.append hus) (fun j v hj => ?_) rfl rfl rfl rfl _ _ fun m' hm' => ?_
    · rw [hB]
      have hjl := (List.getElem?_eq_some_iff.1 hj).1
      simp only [List.length_append] at hjl
      rw [Array.getElem?_append_left (by simp; omega)]
      simpa using hj
    · simp only [VR, AR]
      refine ⟨_, hm', .inl ⟨_, rfl, hge, hcm, ?_⟩⟩
      rw [hB]
      simp only [Array.size_append, List.size_toArray, hol, hul, size_zeroCells, hzs]
      simp only [Nat.zero_add]
      rw [← Nat.add_mul, ← Nat.add_mul]
      refine Nat.mul_le_mul_right _ ?_
      omega
  rcases hA with ⟨rfl, rfl, rfl⟩ | ⟨a, rfl, ha⟩
  · have hvo : vo = [] := List.eq_nil_of_length_eq_zero (by simpa using hol)
    subst hvo
    have hr := run_append_nil (P := P) w t ty e i z.zeroV hu hi hiz ⟨b, o, none⟩ k d us (by rw [his]; exact hul) hcell' (by omega) (by omega) (by have := hnb; simp only [Nat.zero_add] at this; omega)
    have hk := key 0 (by omega) _ rfl
    simp only [Nat.zero_add, Array.empty_append] at hr hk ⊢
    exact ⟨_, _, hr, hk⟩
  · have hr := run_append_grow (P := P) w t ty e i z.zeroV hu hi hiz a n c vo (by rw [his]; exact hol) ha ⟨b, o, none⟩ k d us (by rw [his]; exact hul) hcell' hg (by omega) (growslice_fits hg hnb)
    exact ⟨_, _, hr, key c hg _ rfl⟩


/-- What is appended to goes on under the new name; the old one is dropped. -/
theorem Ok1.dropOld {id nid n : Nat} {es : Nat} {l : List Av} {z : Nat} {v : Value} {w' : World} (hn : m nid = none) {en : Ent} (hm : m id = some en) (h : Ok1 m lb G w ob nx nid (.av (.own nid 0 n es)) (upd ob nid (.cs l 0)) v w') :
    Ok1 m lb G w ob nx nid (.av (.own nid 0 n es)) (upd (upd ob id .dead) nid (.cs l z)) v w' := by
  obtain ⟨m', G', h1, h2, h3, h4⟩ := h
  have hid : id ≠ nid := fun hh => by subst hh; rw [hm] at hn; cases hn
  refine ⟨m', G', h1, ?_, h3, fun i hi hmi => ?_⟩
  · have hd := h2.drop id
    refine ⟨fun i f hf => ?_, fun i j f g hf hg hi hj hfg => ?_, hd.glt, hd.mlt, hd.fresh, hd.ll⟩
    · have := hd.obj i f hf
      by_cases hi : i = nid
      · subst hi
        rw [upd_ne _ _ (Ne.symm hid), upd_same] at this
        rw [upd_same]
        obtain ⟨A, ws, q1, q2, q3, q4, q5, q6⟩ := this
        exact ⟨A, ws, q1, q2, q3, q4, q5, fun j _ => q6 j (Nat.zero_le _)⟩
      · rw [upd_ne _ _ hi]
        by_cases hi2 : i = id
        · subst hi2; rw [upd_same]; trivial
        · rw [upd_ne _ _ hi2]
          rw [upd_ne _ _ hi2, upd_ne _ _ hi] at this
          exact this
    · have live : ∀ i, upd (upd ob id .dead) nid (.cs l z) i ≠ .dead → upd (upd ob nid (.cs l 0)) id .dead i ≠ .dead := by
        intro i hi hh
        by_cases hi2 : i = id
        · subst hi2; rw [upd_ne _ _ hid, upd_same] at hi; exact hi rfl
        · rw [upd_ne _ _ hi2] at hh
          by_cases hi1 : i = nid
          · subst hi1; rw [upd_same] at hh; cases hh
          · rw [upd_ne _ _ hi1] at hh hi
            rw [upd_ne _ _ hi2] at hi
            exact hi hh
      exact hd.inj i j f g hf hg (live i hi) (live j hj) hfg
  · refine ⟨(h4 i hi hmi).1, ?_⟩
    rw [upd_ne _ _ hi, upd_ne]
    intro hh
    subst hh
    rw [hm] at hmi
    cases hmi

theorem run_aAppend_own (hT : TOk P T) (hone : ∀ t y, T t = some y → isAggD y.d = false → y.size = 1) (h : Rel m lb G w ob nx) {nid : Nat} (hn : m nid = none) (hnx : nid < nx) {t e : TypeId} {z : Ty} (hu : P.underlying t = some (.slice e)) (hz : T e = some z)
    (hz0 : z.size ≠ 0) (hzb : z.bytes ≤ 128) (ty : TypeId) {id o n fz : Nat} {l : List Av} (hl : ob id = .cs l fz) (hc2 : o + n * z.size ≤ l.length) (hc3 : fz ≤ o + n * z.size) {k d : Nat} (hc4 : n + k ≤ 1099511627776) (hk : k ≠ 0)
    {vs : Value} (hs : AR m lb G w (.own id o n z.size) vs) {b bo : Nat} {news : List Av} {us : List Value} (hus : ARs m lb G w news us) (hul : us.length = k * z.size) (hcell : ∀ (j : Nat) u, us[j]? = some u → w.cell? ⟨b, bo + j, none⟩ = some u) :
    ∃ v w', (Builtin.append_ #[t, t] ty #[vs, .slice (some ⟨b, bo, none⟩) k d]).run P w = .ok v w' ∧
      Ok1 m lb G w ob nx nid (.av (.own nid 0 (n + k) z.size)) (upd (upd ob id .dead) nid (.cs ((l.drop o).take (n * z.size) ++ news) (fz - o))) v w' := by
  simp only [AR] at hs
  obtain ⟨en, hm, hs⟩ := hs
  rcases hs with ⟨c, rfl, hnc, hcm, hsz⟩ | ⟨rfl, A, rfl⟩
  · obtain ⟨vs, hvs, hat⟩ := h.cells hm hl
    have hl2 := hvs.length
    rcases Nat.lt_or_ge c (n + k) with hg | hroom
    · obtain ⟨v, w', hrun, hok⟩ := run_append_new hT hone h hn hnx hu hz hz0 ty (A := some ⟨en.b, en.s + o, none⟩) (n := n) (c := c) (olds := (l.drop o).take (n * z.size)) (vo := (vs.drop o).take (n * z.size)) ((hvs.drop o).take _) (by simp; omega)
        (.inr ⟨_, rfl, fun j u hj => by
          rw [List.getElem?_take] at hj
          split at hj
          · rw [List.getElem?_drop] at hj
            rw [addr_add, Nat.add_assoc]
            exact hat _ _ hj
          · cases hj⟩) (d := d) hus hul hcell hg hc4 hzb
      exact ⟨v, w', hrun, hok.dropOld hn hm⟩
    · -- there is room
      have hck : (n + k) * z.size ≤ c * z.size := Nat.mul_le_mul_right _ hroom
      rw [Nat.add_mul] at hck
      obtain ⟨A, hA, hAsz, hgrow⟩ := h.grow hm hl hn hnx o (n * z.size) hc2 hc3 us hus (by omega)
      obtain ⟨h1, h2⟩ := hgrow _ rfl
      obtain ⟨i, hi, his, hib, hiz⟩ := hT.info hz
      have hcell' : ∀ (j : Nat) u, us[j]? = some u → w.cell? ((⟨b, bo, none⟩ : Addr).add j) = some u := fun j u hj => by rw [addr_add]; exact hcell j u hj
      have hf := run_firstCells_some (P := P) w i.size k ⟨b, bo, none⟩ k d us (by rw [his]; exact hul) hcell'
      have hone' : ∀ u ∈ us, u.oneCell' = true := by
        intro u hu'
        obtain ⟨j, hj, rfl⟩ := List.getElem_of_mem hu'
        have hjl : j < news.length := by rw [← hus.length]; exact hj
        obtain ⟨v', hv', hav⟩ := hus.get j news[j] (List.getElem?_eq_getElem hjl)
        rw [List.getElem?_eq_getElem hj] at hv'
        cases hv'
        exact AR.oneCell hav
      have hst := run_storeCells_at (P := P) en.b (en.s + o + n * z.size) en.t us 0 A w hA (by omega) hone'
      simp only [Nat.add_zero] at hst
      refine ⟨.slice (some ⟨en.b, en.s + o, none⟩) (n + k) c, _, ?_, ⟨_, G, ?_, h1, h2, fun i hi hmi => ⟨by rw [upd_ne _ _ hi]; exact hmi, ?_⟩⟩⟩
      · rw [his] at hf
        simp [Builtin.append_, run_underlying hu, sizeOf, typeInfo, hi, Builtin.lenOf, hroom, hf, addr_add, his, hst]
      · simp only [VR, AR]
        exact ⟨_, upd_same _ _ _, .inl ⟨c, by simp, hroom, hcm, by simp only; omega⟩⟩
      · rw [upd_ne _ _ hi, upd_ne]
        intro hh
        subst hh
        rw [hm] at hmi
        cases hmi
  · -- nothing was there
    have hA : (A = none ∧ (0 : Nat) = 0 ∧ (0 : Nat) = 0) ∨ ∃ a, A = some a ∧ ∀ (j : Nat) u, ([] : List Value)[j]? = some u → w.cell? (a.add j) = some u := by
      rcases A with _ | a
      · exact .inl ⟨rfl, rfl, rfl⟩
      · exact .inr ⟨a, rfl, fun j u hj => by simp at hj⟩
    obtain ⟨v, w', hrun, hok⟩ := run_append_new hT hone h hn hnx hu hz hz0 ty (A := A) (n := 0) (c := 0) (olds := []) (vo := []) ARs.nil (by simp) hA (d := d) hus hul hcell (by omega) (by omega) hzb
    refine ⟨v, w', hrun, ?_⟩
    have := hok.dropOld (z := fz - o) hn hm
    simpa using this

theorem run_aAppend (hT : TOk P T) (hone : ∀ t y, T t = some y → isAggD y.d = false → y.size = 1) (h : Rel m lb G w ob nx) {nid : Nat} (hn : m nid = none) (hnx : nid < nx) {t : TypeId} (ty : TypeId) {s x r : Va} {vs vx : Value} {ob' : Nat → Obj}
    (hr0 : aAppend T ob nid t s x = some (r, ob')) (hs : VR m lb G w s vs) (hx : VR m lb G w x vx) :
    ∃ v w', (Builtin.append_ #[t, t] ty #[vs, vx]).run P w = .ok v w' ∧ Ok1 m lb G w ob nx nid r ob' v w' := by
  unfold aAppend at hr0
  obtain ⟨y, hy, hr1⟩ := Option.bind_eq_some_iff.1 hr0
  clear hr0
  split at hr1
  · rename_i e hd
    obtain ⟨z, hz, hr2⟩ := Option.bind_eq_some_iff.1 hr1
    clear hr1
    obtain ⟨⟨k, news⟩, hsrc, hr⟩ := Option.bind_eq_some_iff.1 hr2
    clear hr2
    have hu := hT.und hy
    rw [hd] at hu
    split at hr
    · cases hr
    · rename_i hzz
      have hz0 : z.size ≠ 0 := fun hh => hzz (.inl hh)
      have hzb : z.bytes ≤ 128 := by
        rcases Nat.lt_or_ge 128 z.bytes with hh | hh
        · exact absurd (.inr hh) hzz
        · exact hh
      obtain ⟨B, d, us, rfl, hkd, hus, hul, hB⟩ := src_of h hz0 hsrc hx
      simp only at hr
      split at hr
      · simp only [VR, AR, SR] at hs
        subst hs
        split at hr
        · rename_i hk
          subst hk
          cases hr
          exact ⟨_, _, run_append_zero hT hu hz ty none 0 0 (Nat.le_refl _) B d, Ok1.same h nid (by simp only [VR, AR, SR])⟩
        · rename_i hk
          split at hr
          · rename_i hbig
            cases hr
            rcases hB with ⟨_, h0⟩ | ⟨b, o, rfl, hcell⟩
            · exact absurd h0 hk
            · have := run_append_new hT hone h hn hnx hu hz hz0 ty (A := none) (n := 0) (c := 0) (olds := []) (vo := []) ARs.nil (by simp) (.inl ⟨rfl, rfl, rfl⟩) (d := d) hus hul hcell (by omega) (by omega) hzb
              simpa using this
          · cases hr
      · split at hr
        · rename_i hl
          split at hr
          · rename_i hc
            obtain ⟨rfl, hc2, hc3, hc4⟩ := hc
            simp only [VR] at hs
            split at hr
            · rename_i hk
              subst hk
              cases hr
              have hs' := hs
              simp only [AR] at hs'
              obtain ⟨en, hm, hs'⟩ := hs'
              rcases hs' with ⟨c, rfl, hnc, hcm, hsz⟩ | ⟨rfl, A, rfl⟩
              · exact ⟨_, _, run_append_zero hT hu hz ty _ _ c hnc B d, Ok1.same h nid (by simp only [VR]; exact hs)⟩
              · exact ⟨_, _, run_append_zero hT hu hz ty A 0 0 (Nat.le_refl _) B d, Ok1.same h nid (by simp only [VR]; exact hs)⟩
            · rename_i hk
              cases hr
              rcases hB with ⟨_, h0⟩ | ⟨b, bo, rfl, hcell⟩
              · exact absurd h0 hk
              · exact run_aAppend_own hT hone h hn hnx hu hz hz0 hzb ty hl hc2 hc3 hc4 hk hs hus hul hcell
          · cases hr
        · cases hr
      · cases hr
  · cases hr1
/-- append(nil, make(.., n)...) -/
def aAppendZ (T : TypeId → Option Ty) (ob : Nat → Obj) (nid : Nat) (t t' : TypeId) (s x : Va) : Option (Va × (Nat → Obj)) :=
  match s, x with
  | .av (.sc .nilsl), .av (.sc (.int .i64 n)) => (T t).bind fun y => (T t').bind fun y' => match y.d, y'.d with
    | .slice e, .int .i64 => (T e).bind fun z => if 0 < n ∧ n ≤ 1099511627776 ∧ z.bytes ≤ 128 ∧ z.size ≠ 0 then
        some (.av (.own nid 0 n.toNat z.size), upd ob nid (.cs (zerosA z.zero (n.toNat * z.size)) 0)) else none
    | _, _ => none
  | _, _ => none
theorem run_aAppendZ (hT : TOk P T) (hone : ∀ t y, T t = some y → isAggD y.d = false → y.size = 1) (h : Rel m lb G w ob nx) {nid : Nat} (hn : m nid = none) (hnx : nid < nx) {t t' : TypeId} (ty : TypeId) {s x r : Va} {vs vx : Value} {ob' : Nat → Obj}
    (hr0 : aAppendZ T ob nid t t' s x = some (r, ob')) (hs : VR m lb G w s vs) (hx : VR m lb G w x vx) :
    ∃ v w', (Builtin.append_ #[t, t'] ty #[vs, vx]).run P w = .ok v w' ∧ Ok1 m lb G w ob nx nid r ob' v w' := by
  unfold aAppendZ at hr0
  split at hr0
  · rename_i n
    obtain ⟨y, hy, hr1⟩ := Option.bind_eq_some_iff.1 hr0
    obtain ⟨y', hy', hr2⟩ := Option.bind_eq_some_iff.1 hr1
    split at hr2
    · rename_i e hd hd'
      obtain ⟨z, hz, hr⟩ := Option.bind_eq_some_iff.1 hr2
      split at hr
      · rename_i hc
        obtain ⟨h0, h1, h2, h3⟩ := hc
        cases hr
        simp only [VR, AR, SR] at hs hx
        subst hs hx
        have hu := hT.und hy
        rw [hd] at hu
        have hu' := hT.und hy'
        rw [hd'] at hu'
        obtain ⟨i, hi, his, hib, hiz⟩ := hT.info hz
        obtain ⟨k, rfl⟩ : ∃ k : Nat, n = k := ⟨n.toNat, by omega⟩
        have hkb : k * i.bytes ≤ 140737488355328 := by
          rw [hib]
          have : k * z.bytes ≤ k * 128 := Nat.mul_le_mul_left _ h2
          omega
        have hrun := Lib.run_append_grow_zeros (P := P) w t t' ty e i z.zeroV .i64 .i64 hu hu' hi hiz none 0 0 [] (by rw [run_firstCells_none]) k (by omega) (by omega) (by omega) (by omega) (by omega) (growslice_fits (by omega) (by simpa using hkb))
        refine ⟨_, _, hrun, ?_⟩
        have hge := grownCap_ge w (0 + k) 0 e
        have hcm : grownCap w (0 + k) 0 e ≤ maxLen := grownCap_le_maxLen w (0 + k) 0 e (by simp only [maxLen]; omega)
        have hzs : z.zeroV.cells.size = z.size := by
          rw [zeroV_cells hT hz (hone e z hz)]
          simp [zeroVs, hT.zlen hz]
        have hmade : Builtin.zeroCells z.zeroV.cells k = madeCells z.zeroV.cells (k * z.size) := by
          simp only [Builtin.zeroCells, madeCells, hzs]
        refine Ok1.new (w' := w.drew.alloc (.cells _ e)) h hn hnx e _ _ (madeCells z.zeroV.cells (k * z.size)).toList (zerosA_SRs hT hz h3 (hone e z hz) _) (fun j v hj => ?_) rfl rfl rfl rfl _ _ fun m' hm' => ?_
        · have hjl := (List.getElem?_eq_some_iff.1 hj).1
          rw [hmade, Array.getElem?_append_left (by simpa using hjl)]
          simpa using hj
        · simp only [VR, AR]
          refine ⟨_, hm', .inl ⟨grownCap w (0 + k) 0 e, by simp only [Nat.zero_add, Int.toNat_natCast], by simpa using hge, by simpa using hcm, ?_⟩⟩
          simp only [Nat.zero_add] at hge ⊢
          simp only [Array.size_append, List.size_toArray, List.length_nil, size_zeroCells, hzs, Nat.zero_add]
          rw [← Nat.add_mul]
          refine Nat.mul_le_mul_right _ ?_
          omega
      · cases hr
    · cases hr2
  · cases hr0
def aCap (T : TypeId → Option Ty) (t : TypeId) (x : Va) : Option Va := match x with
  | .av (.sc .nilsl) => (T t).bind fun y => match y.d with
    | .slice _ => some (.av (.sc (.int .i64 0)))
    | _ => none
  | _ => none
theorem run_aCap (hT : TOk P T) {t : TypeId} (ty : TypeId) {x r : Va} {v : Value} (hr0 : aCap T t x = some r) (hx : VR m lb G w x v) : ∃ u, (Builtin.cap_ #[t] ty #[v]).run P w = .ok u w ∧ VR m lb G w r u := by
  unfold aCap at hr0
  split at hr0
  · obtain ⟨y, hy, hr1⟩ := Option.bind_eq_some_iff.1 hr0
    split at hr1
    · rename_i e hd
      cases hr1
      have hu := hT.und hy
      rw [hd] at hu
      simp only [VR, AR, SR] at hx
      subst hx
      refine ⟨.int .i64 0, ?_, by simp only [VR, AR, SR]⟩
      simp [Builtin.cap_, run_underlying hu, goInt]
    · cases hr1
  · cases hr0
end
end Go.Am
/-
  Am, part H: slices of slices and strings, len, min and max, maps, parts of values, comparisons of structs and with nil, what is frozen.
-/
namespace Go.Am

/-- A bound of a slice expression: absent, or a whole number. -/
def bnd : Option Va → Nat → Option Nat
  | none, d => some d
  | some (.av (.sc (.int _ i))), _ => if 0 ≤ i then some i.toNat else none
  | _, _ => none
def aSlice (T : TypeId → Option Ty) (t : TypeId) (x : Va) (lo hi : Option Va) : Option Va :=
  (T t).bind fun y => match y.d, x with
    | .slice e, .av (.own id o n es) => (T e).bind fun z => (bnd lo 0).bind fun l => (bnd hi n).bind fun h =>
        if z.size = es ∧ l ≤ h ∧ h ≤ n then some (.av (.own id (o + l * es) (h - l) es)) else none
    | .slice e, .av (.sc (.sl n cs)) => (T e).bind fun z => (bnd lo 0).bind fun l => (bnd hi n).bind fun h =>
        if l ≤ h ∧ h ≤ n ∧ n * z.size = cs.length ∧ z.size ≠ 0 then some (.av (.sc (.sl (h - l) ((cs.drop (l * z.size)).take ((h - l) * z.size))))) else none
    | .slice e, .av (.sc .nilsl) => (T e).bind fun z => (bnd lo 0).bind fun l => (bnd hi 0).bind fun h => if l = 0 ∧ h = 0 then some (.av (.sc .nilsl)) else none
    | .string, .av (.sc (.str s)) => (bnd lo 0).bind fun l => (bnd hi s.size).bind fun h => if l ≤ h ∧ h ≤ s.size then some (.av (.sc (.str (s.extract l h)))) else none
    | _, _ => none
def aLen (T : TypeId → Option Ty) (ob : Nat → Obj) (t : TypeId) (x : Va) : Option Va :=
  (T t).bind fun y => match y.d, x with
    | .slice _, .av (.own _ _ n _) => some (.av (.sc (.int .i64 n)))
    | .slice _, .av (.sc (.sl n _)) => some (.av (.sc (.int .i64 n)))
    | .slice _, .av (.sc .nilsl) => some (.av (.sc (.int .i64 0)))
    | .string, .av (.sc (.str s)) => some (.av (.sc (.int .i64 s.size)))
    | .map _ _, .av (.map id) => match ob id with
      | .mp l => some (.av (.sc (.int .i64 l.length)))
      | _ => none
    | .map _ _, .av (.sc .nilmap) => some (.av (.sc (.int .i64 0)))
    | _, _ => none
def aMin : Va → Va → Option Va
  | .av (.sc (.int k a)), .av (.sc (.int k' b)) => if k = k' then some (.av (.sc (.int k (if b < a then b else a)))) else none
  | _, _ => none
def aMax : Va → Va → Option Va
  | .av (.sc (.int k a)), .av (.sc (.int k' b)) => if k = k' then some (.av (.sc (.int k (if b > a then b else a)))) else none
  | _, _ => none
/-- The entry of a key (whole numbers, texts, bools). -/
def findA (k : Sc) : List (Sc × Av) → Nat → Option (Option (Nat × Av))
  | [], _ => some none
  | (k', a) :: l, i => (eqSc k k').bind fun b => if b then some (some (i, a)) else findA k l (i + 1)
def kindOk : TypeDesc → Sc → Bool
  | .int _, .int _ _ => true
  | .bool, .bool _ => true
  | .string, .str _ => true
  | _, _ => false
def aLookup (T : TypeId → Option Ty) (ob : Nat → Obj) (t : TypeId) (m k : Va) (ok : Bool) : Option Va :=
  match m, k with
  | .av (.map id), .av (.sc k) => (T t).bind fun y => match y.d with
    | .map kt e => (T kt).bind fun yk => (T e).bind fun z => match ob id with
        | .mp l => (findA k l 0).bind fun r =>
            if z.size = 1 ∧ isAggD z.d = false ∧ kindOk yk.d k = true then
              let v : Va := match r with
                | some (_, a) => .av a
                | none => .av (.sc (z.zero.headD .nili))
              some (if ok then .tup [v, .av (.sc (.bool r.isSome))] else v)
            else none
        | _ => none
    | _ => none
  | _, _ => none
def aMapUpdate (T : TypeId → Option Ty) (ob : Nat → Obj) (t : TypeId) (m k x : Va) : Option (Nat → Obj) :=
  match m, k, x with
  | .av (.map id), .av (.sc k), .av a => (T t).bind fun y => match y.d with
    | .map kt e => (T kt).bind fun yk => match ob id with
        | .mp l => if kindOk yk.d k = true then (findA k l 0).map fun r => match r with
            | some (i, _) => upd ob id (.mp (l.set i (k, a)))
            | none => upd ob id (.mp (l ++ [(k, a)]))
          else none
        | _ => none
    | _ => none
  | _, _, _ => none
def aExtract (x : Va) (i : Nat) : Option Va :=
  match x with
  | .tup vs => vs[i]?
  | _ => none
def aPart (y : Ty) (cs : List Av) (off : Nat) : Option Va := if off + y.size ≤ cs.length then unflat y ((cs.drop off).take y.size) else none
def aFieldV (T : TypeId → Option Ty) (t : TypeId) (x : Va) (f : Nat) : Option Va :=
  match x with
  | .agg cs => (fieldOf T t f).bind fun p => aPart p.2 cs p.1
  | _ => none
def aIndexV (T : TypeId → Option Ty) (t : TypeId) (x i : Va) : Option Va :=
  match x, i with
  | .agg cs, .av (.sc (.int _ i)) => (T t).bind fun y => match y.d with
    | .array n e => (T e).bind fun z => if 0 ≤ i ∧ i < n then aPart z cs (i.toNat * z.size) else none
    | _ => none
  | .av (.sc (.str s)), .av (.sc (.int _ i)) => (T t).bind fun y => match y.d with
    | .string => if 0 ≤ i then (s[i.toNat]?).map fun b => .av (.sc (.int .u8 b.toNat)) else none
    | _ => none
  | _, _ => none
/-- A slice, a map, a function or a pointer held against nil. -/
def aEqNil (T : TypeId → Option Ty) (t : TypeId) (x y : Va) : Option Bool :=
  (T t).bind fun q => match q.d, x, y with
    | .slice _, .av (.sc .nilsl), .av (.sc .nilsl) => some true
    | .slice _, .av (.own _ _ n _), .av (.sc .nilsl) => if n = 0 then none else some false
    | .slice _, .av (.sc (.sl _ cs)), .av (.sc .nilsl) => if cs.isEmpty then none else some false
    | .bool, .av (.sc (.bool a)), .av (.sc (.bool b)) => some (a == b)
    | _, _, _ => none
section
variable {P : Program} {T : TypeId → Option Ty} {m : Nat → Option Ent} {lb : Nat → Option Nat} {G : Nat → Nat → Prop} {w : World} {ob : Nat → Obj} {nx : Nat}

/-- The bounds, as the model reckons them. -/
def bndR (m : Nat → Option Ent) (lb : Nat → Option Nat) (G : Nat → Nat → Prop) (w : World) : Option Va → Option Value → Prop
  | none, v => v = none
  | some x, v => ∃ u, v = some u ∧ VR m lb G w x u
theorem run_bounds (isSl : Bool) {n c : Nat} (hnc : n ≤ c) {lo hi : Option Va} {vl vh : Option Value} (hl : bndR m lb G w lo vl) (hh : bndR m lb G w hi vh) {l h : Nat} (h1 : bnd lo 0 = some l) (h2 : bnd hi n = some h) (h3 : l ≤ h) (h4 : h ≤ n) :
    (Instr.sliceBounds isSl n c vl vh none).run P w = .ok (l, h, c) w := by
  have key : ∀ (x : Option Va) (v : Option Value) (d r : Nat), bndR m lb G w x v → bnd x d = some r → (v = none ∧ r = d) ∨ ∃ k i, v = some (.int k i) ∧ 0 ≤ i ∧ i.toNat = r := by
    intro x v d r hx hb
    cases x with
    | none =>
      simp only [bndR] at hx
      simp only [bnd] at hb
      cases hb
      exact .inl ⟨hx, rfl⟩
    | some x =>
      simp only [bndR] at hx
      obtain ⟨u, rfl, hu⟩ := hx
      unfold bnd at hb
      split at hb
      · rename_i heq
        cases heq
      · rename_i heq
        cases heq
        simp only [VR, AR, SR] at hu
        subst hu
        split at hb
        · rename_i h0
          cases hb
          exact .inr ⟨_, _, rfl, h0, rfl⟩
        · cases hb
      · cases hb
  rcases key lo vl 0 l hl h1 with ⟨rfl, rfl⟩ | ⟨kl, il, rfl, hil, rfl⟩ <;> rcases key hi vh n h hh h2 with ⟨rfl, rfl⟩ | ⟨kh, ih, rfl, hih, rfl⟩
  · simp [Instr.sliceBounds]
  · have e1 : ih ≤ (c : Int) := by omega
    simp [Instr.sliceBounds, run_sliceBound, hih, e1]
  · have e1 : il ≤ (h : Int) := by omega
    simp [Instr.sliceBounds, run_sliceBound, hil, e1]
  · have e1 : ih ≤ (c : Int) := by omega
    have e2 : il ≤ ih := by omega
    have e3 : (ih.toNat : Int) = ih := Int.toNat_of_nonneg hih
    simp [Instr.sliceBounds, run_sliceBound, hih, hil, e1, e2, e3]
theorem run_aSlice (hT : TOk P T) {t : TypeId} {x r : Va} {v : Value} {lo hi : Option Va} {vl vh : Option Value} (hr0 : aSlice T t x lo hi = some r) (hv : VR m lb G w x v) (hl : bndR m lb G w lo vl) (hh : bndR m lb G w hi vh) :
    ∃ u, (Instr.sliceAt t v vl vh none).run P w = .ok u w ∧ VR m lb G w r u := by
  unfold aSlice at hr0
  obtain ⟨y, hy, hr⟩ := Option.bind_eq_some_iff.1 hr0
  clear hr0
  have hu := hT.und hy
  split at hr
  · rename_i e id o n es hd
    obtain ⟨z, hz, hr2⟩ := Option.bind_eq_some_iff.1 hr
    clear hr
    obtain ⟨l, hbl, hr3⟩ := Option.bind_eq_some_iff.1 hr2
    clear hr2
    obtain ⟨h, hbh, hr⟩ := Option.bind_eq_some_iff.1 hr3
    clear hr3
    split at hr
    · rename_i hc
      obtain ⟨rfl, h1, h2⟩ := hc
      cases hr
      rw [hd] at hu
      simp only [VR, AR] at hv
      obtain ⟨en, hm, hv⟩ := hv
      rcases hv with ⟨c, rfl, hnc, hcm, hsz⟩ | ⟨rfl, A, rfl⟩
      · have hb := run_bounds (P := P) true hnc hl hh hbl hbh h1 h2
        refine ⟨sliced (some ⟨en.b, en.s + o, none⟩) l h c z.size, ?_, ?_⟩
        · simp [Instr.sliceAt, run_underlying hu, Instr.slice, hb, run_sizeOf hT hz, sliced]
        · simp only [VR, AR]
          refine ⟨en, hm, ?_⟩
          unfold sliced
          by_cases hcl : c = l
          · rw [if_pos hcl]
            exact .inr ⟨by omega, _, by congr 1 <;> omega⟩
          · rw [if_neg hcl]
            have hmul : (c - l) * z.size + l * z.size = c * z.size := by rw [← Nat.add_mul]; congr 1; omega
            exact .inl ⟨c - l, by simp [addr_add, Nat.add_assoc], by omega, by omega, by omega⟩
      · have hb := run_bounds (P := P) true (Nat.le_refl 0) hl hh hbl hbh h1 h2
        refine ⟨sliced A l h 0 z.size, ?_, ?_⟩
        · simp [Instr.sliceAt, run_underlying hu, Instr.slice, hb, run_sizeOf hT hz, sliced]
        · simp only [VR, AR]
          refine ⟨en, hm, .inr ⟨by omega, ?_⟩⟩
          have h3 : l = 0 := by omega
          have h4 : h = 0 := by omega
          subst h3 h4
          exact ⟨A, by simp [sliced]⟩
    · cases hr
  · rename_i e n cs hd
    obtain ⟨z, hz, hr2⟩ := Option.bind_eq_some_iff.1 hr
    clear hr
    obtain ⟨l, hbl, hr3⟩ := Option.bind_eq_some_iff.1 hr2
    clear hr2
    obtain ⟨h, hbh, hr⟩ := Option.bind_eq_some_iff.1 hr3
    clear hr3
    split at hr
    · rename_i hc
      obtain ⟨h1, h2, h3, h4⟩ := hc
      cases hr
      rw [hd] at hu
      simp only [VR, AR, SR] at hv
      obtain ⟨A, c, rfl, hnc, hmem⟩ := hv
      have hb := run_bounds (P := P) true hnc hl hh hbl hbh h1 h2
      refine ⟨sliced A l h c z.size, ?_, ?_⟩
      · simp [Instr.sliceAt, run_underlying hu, Instr.slice, hb, run_sizeOf hT hz, sliced]
      · simp only [VR, AR, SR]
        unfold sliced
        by_cases hcl : c = l
        · rw [if_pos hcl]
          refine ⟨A, c - l, rfl, by omega, .inl ?_⟩
          have : h - l = 0 := by omega
          simp [this]
        · rw [if_neg hcl]
          refine ⟨_, c - l, rfl, by omega, ?_⟩
          rcases hmem with rfl | ⟨b, o, vs, rfl, hvs, hmem⟩
          · exact .inl (by simp)
          · exact .inr ⟨b, o + l * z.size, (vs.drop (l * z.size)).take ((h - l) * z.size), by simp [addr_add], (hvs.drop _).take _, (hmem.drop _).take _⟩
    · cases hr
  · rename_i e hd
    obtain ⟨z, hz, hr2⟩ := Option.bind_eq_some_iff.1 hr
    clear hr
    obtain ⟨l, hbl, hr3⟩ := Option.bind_eq_some_iff.1 hr2
    clear hr2
    obtain ⟨h, hbh, hr⟩ := Option.bind_eq_some_iff.1 hr3
    clear hr3
    split at hr
    · rename_i hc
      obtain ⟨rfl, rfl⟩ := hc
      cases hr
      rw [hd] at hu
      simp only [VR, AR, SR] at hv
      subst hv
      have hb := run_bounds (P := P) true (Nat.le_refl 0) hl hh hbl hbh (Nat.le_refl 0) (Nat.le_refl 0)
      exact ⟨.slice none 0 0, by simp [Instr.sliceAt, run_underlying hu, Instr.slice, hb, run_sizeOf hT hz], by simp only [VR, AR, SR]⟩
    · cases hr
  · rename_i s hd
    obtain ⟨l, hbl, hr3⟩ := Option.bind_eq_some_iff.1 hr
    clear hr
    obtain ⟨h, hbh, hr⟩ := Option.bind_eq_some_iff.1 hr3
    clear hr3
    split at hr
    · rename_i hc
      obtain ⟨h1, h2⟩ := hc
      cases hr
      rw [hd] at hu
      simp only [VR, AR, SR] at hv
      subst hv
      have hb := run_bounds (P := P) false (Nat.le_refl s.size) hl hh hbl hbh h1 h2
      exact ⟨.string (s.extract l h), by simp [Instr.sliceAt, run_underlying hu, Instr.slice, hb], by simp only [VR, AR, SR]⟩
    · cases hr
  · cases hr
theorem run_aLen (hT : TOk P T) (h : Rel m lb G w ob nx) {t : TypeId} (ty : TypeId) {x r : Va} {v : Value} (hr0 : aLen T ob t x = some r) (hv : VR m lb G w x v) :
    ∃ u, (Builtin.len_ #[t] ty #[v]).run P w = .ok u w ∧ VR m lb G w r u := by
  unfold aLen at hr0
  obtain ⟨y, hy, hr⟩ := Option.bind_eq_some_iff.1 hr0
  clear hr0
  have hu := hT.und hy
  split at hr
  · rename_i hd
    cases hr
    rw [hd] at hu
    simp only [VR, AR] at hv
    obtain ⟨en, hm, hv⟩ := hv
    rcases hv with ⟨c, rfl, _⟩ | ⟨rfl, A, rfl⟩
    · exact ⟨_, by simp [Builtin.len_, run_underlying hu]; rfl, by simp only [VR, AR, SR, goInt]⟩
    · exact ⟨_, by simp [Builtin.len_, run_underlying hu]; rfl, by simp only [VR, AR, SR, goInt]; rfl⟩
  · rename_i hd
    cases hr
    rw [hd] at hu
    simp only [VR, AR, SR] at hv
    obtain ⟨A, c, rfl, _⟩ := hv
    exact ⟨_, by simp [Builtin.len_, run_underlying hu]; rfl, by simp only [VR, AR, SR, goInt]⟩
  · rename_i hd
    cases hr
    rw [hd] at hu
    simp only [VR, AR, SR] at hv
    subst hv
    exact ⟨_, by simp [Builtin.len_, run_underlying hu]; rfl, by simp only [VR, AR, SR, goInt]⟩
  · rename_i hd
    cases hr
    rw [hd] at hu
    simp only [VR, AR, SR] at hv
    subst hv
    exact ⟨_, by simp [Builtin.len_, run_underlying hu]; rfl, by simp only [VR, AR, SR, goInt]⟩
  · rename_i hd
    rw [hd] at hu
    split at hr
    · rename_i l hl
      cases hr
      simp only [VR, AR] at hv
      obtain ⟨en, hm, rfl⟩ := hv
      have ho := h.obj _ en hm
      rw [hl] at ho
      obtain ⟨es, clock, hb, hes, _⟩ := ho
      have hlen : ∀ {l : List (Sc × Av)} {es : List MapEntry}, MR m lb G w l es → es.length = l.length := by
        intro l
        induction l with
        | nil => intro es h; simp only [MR] at h; simp [h]
        | cons p l ih =>
          intro es h
          obtain ⟨k, a⟩ := p
          simp only [MR] at h
          obtain ⟨x, xs, rfl, _, _, h⟩ := h
          simp [ih h]
      have hsz := hlen hes
      refine ⟨goInt es.size, by simp [Builtin.len_, run_underlying hu, run_getObj_map _ _ _ _ hb], ?_⟩
      simp only [VR, AR, SR, goInt]
      simp only [Array.length_toList] at hsz
      rw [hsz]
    · cases hr
  · rename_i hd
    cases hr
    rw [hd] at hu
    simp only [VR, AR, SR] at hv
    subst hv
    exact ⟨_, by simp [Builtin.len_, run_underlying hu]; rfl, by simp only [VR, AR, SR, goInt]⟩
  · cases hr
theorem run_aMin {ts : Array TypeId} (ty : TypeId) {x y r : Va} {u v : Value} (hr : aMin x y = some r) (hu : VR m lb G w x u) (hv : VR m lb G w y v) : ∃ q, (Builtin.min_ ts ty #[u, v]).run P w = .ok q w ∧ VR m lb G w r q := by
  unfold aMin at hr
  split at hr
  · simp only [VR, AR, SR] at hu hv
    subst hu hv
    split at hr
    · cases hr
      exact ⟨_, run_min_int2 .., by simp only [VR, AR, SR]⟩
    · cases hr
  · cases hr
theorem run_aMax {ts : Array TypeId} (ty : TypeId) {x y r : Va} {u v : Value} (hr : aMax x y = some r) (hu : VR m lb G w x u) (hv : VR m lb G w y v) : ∃ q, (Builtin.max_ ts ty #[u, v]).run P w = .ok q w ∧ VR m lb G w r q := by
  unfold aMax at hr
  split at hr
  · simp only [VR, AR, SR] at hu hv
    subst hu hv
    split at hr
    · cases hr
      exact ⟨_, run_max_int2 .., by simp only [VR, AR, SR]⟩
    · cases hr
  · cases hr
end
end Go.Am
/-
  Am, part I: maps; parts of values; comparisons with nil.
-/
namespace Go.Am
section
variable {P : Program} {T : TypeId → Option Ty} {m : Nat → Option Ent} {lb : Nat → Option Nat} {G : Nat → Nat → Prop} {w : World} {ob : Nat → Obj} {nx : Nat}

theorem ba_beq (a b : ByteArray) : (a == b) = (a.data == b.data) := rfl
theorem ba_comm (a b : ByteArray) (h : (a == b) = true) : (b == a) = true := by
  rw [ba_beq] at h ⊢
  rw [beq_iff_eq] at h ⊢
  exact h.symm
theorem sameNow_of {d : TypeDesc} {k k' : Sc} {b : Bool} {v v' : Value} (hk : kindOk d k = true) (h : eqSc k k' = some b) (hv : SR G w k v) (hv' : SR G w k' v') : Instr.sameNow d v v' = some b ∧ (b = true → Instr.sameBits 10000 v' v = true) := by
  unfold eqSc at h
  split at h <;> (try simp only [SR] at hv hv') <;> (try subst hv) <;> (try subst hv')
  · split at h
    · rename_i hkk
      subst hkk
      cases h
      cases d <;> simp_all [kindOk, Instr.sameNow, Instr.sameBits]
    · cases h
  · cases h
    cases d <;> simp_all [kindOk, Instr.sameNow, Instr.sameBits]
  · cases h
    cases d <;> simp_all [kindOk, Instr.sameNow, Instr.sameBits]
    exact fun h => ba_comm _ _ h
  · cases h
theorem findA_of {d : TypeDesc} {k : Sc} {kv : Value} (hk : kindOk d k = true) (hkv : SR G w k kv) : ∀ {l : List (Sc × Av)} {es : List MapEntry} {i : Nat} {r : Option (Nat × Av)}, findA k l i = some r → MR m lb G w l es →
    (r = none ∧ Instr.findNow d kv es i = some none) ∨ ∃ j a e, r = some (j, a) ∧ i ≤ j ∧ Instr.findNow d kv es i = some (some (j, e.val)) ∧ es[j - i]? = some e ∧ AR m lb G w a e.val ∧ Instr.sameBits 10000 e.key kv = true
  | [], es, i, r, h, hm => by
    simp only [MR] at hm
    subst hm
    simp only [findA] at h
    cases h
    exact .inl ⟨rfl, rfl⟩
  | (k', a) :: l, es, i, r, h, hm => by
    simp only [MR] at hm
    obtain ⟨x, xs, rfl, h1, h2, h3⟩ := hm
    simp only [findA] at h
    obtain ⟨b, hb, h⟩ := Option.bind_eq_some_iff.1 h
    obtain ⟨hs, hs2⟩ := sameNow_of hk hb hkv h1
    cases b with
    | true =>
      simp at h
      subst h
      exact .inr ⟨i, a, x, rfl, Nat.le_refl _, by simp [Instr.findNow, hs], by simp, h2, hs2 rfl⟩
    | false =>
      simp at h
      rcases findA_of hk hkv h h3 with ⟨h4, h5⟩ | ⟨j, a', e, h4, h5, h6, h7, h8, h9⟩
      · exact .inl ⟨h4, by simp [Instr.findNow, hs, h5]⟩
      · refine .inr ⟨j, a', e, h4, by omega, by simp [Instr.findNow, hs, h6], ?_, h8, h9⟩
        rw [show j - i = (j - (i + 1)) + 1 by omega]
        simpa using h7
theorem run_checkKey {d : TypeDesc} {t : TypeId} (hu : P.underlying t = some d) {k : Sc} (hk : kindOk d k = true) (e : Bool) (v : Value) : (Instr.checkKey e 10000 t v).run P w = .ok () w := by
  unfold Instr.checkKey
  simp only [Sem.run_bind, run_underlying hu, Result.andThen_ok]
  unfold kindOk at hk
  split at hk
  · rfl
  · rfl
  · rfl
  · cases hk
theorem run_aLookup (hT : TOk P T) (h : Rel m lb G w ob nx) {t : TypeId} {x k r : Va} {ok : Bool} {vx vk : Value} (hr0 : aLookup T ob t x k ok = some r) (hx : VR m lb G w x vx) (hk : VR m lb G w k vk) :
    ∃ u, (Instr.lookup t vx vk ok).run P w = .ok u w ∧ VR m lb G w r u := by
  unfold aLookup at hr0
  split at hr0
  · rename_i id k
    obtain ⟨y, hy, hr1⟩ := Option.bind_eq_some_iff.1 hr0
    clear hr0
    split at hr1
    · rename_i kt e hd
      obtain ⟨yk, hyk, hr2⟩ := Option.bind_eq_some_iff.1 hr1
      clear hr1
      obtain ⟨z, hz, hr3⟩ := Option.bind_eq_some_iff.1 hr2
      clear hr2
      split at hr3
      · rename_i l hl
        obtain ⟨q, hq, hr⟩ := Option.bind_eq_some_iff.1 hr3
        clear hr3
        split at hr
        · rename_i hc
          obtain ⟨hc1, hc2, hc3⟩ := hc
          cases hr
          have hu := hT.und hy
          rw [hd] at hu
          simp only [VR, AR] at hx hk
          obtain ⟨en, hm, rfl⟩ := hx
          have ho := h.obj _ en hm
          rw [hl] at ho
          obtain ⟨es, clock, hb, hes, _⟩ := ho
          have hck : (Instr.checkKey es.isEmpty 10000 kt vk).run P w = .ok () w := run_checkKey (hT.und hyk) hc3 _ _
          rcases findA_of hc3 hk hq hes with ⟨rfl, hf⟩ | ⟨j, a, en2, rfl, _, hf, _, ha, _⟩
          · have hzv : z.zeroV = (z.zero.headD .nili).constV ∧ (z.zero.headD .nili).isConst = true := by
              have hl := hT.zlen hz
              rw [hc1] at hl
              obtain ⟨c, hcz⟩ := List.length_eq_one_iff.1 hl
              have hcc := hT.const hz
              rw [hcz] at hcc ⊢
              simp only [List.all_cons, List.all_nil, Bool.and_true] at hcc
              exact ⟨by simp [Ty.zeroV, hc2, hcz], hcc⟩
            refine ⟨if ok then .tuple #[z.zeroV, .bool false] else z.zeroV, ?_, ?_⟩
            · simp [Instr.lookup, run_underlying hu, run_getObj_map _ _ _ _ hb, hck, Instr.findKey, run_underlying (hT.und hyk), hf, run_zeroValue hT hz]
            · have hzr : VR m lb G w (.av (.sc (z.zero.headD .nili))) z.zeroV := by
                simp only [VR, AR]
                rw [hzv.1]
                exact Sc.const_SR hzv.2
              cases ok
              · simpa using hzr
              · simp only [if_true, VR, Option.isSome_none]
                refine ⟨[z.zeroV, .bool false], rfl, VRs.cons hzr (VRs.cons (by simp only [VR, AR, SR]) VRs.nil)⟩
          · refine ⟨if ok then .tuple #[en2.val, .bool true] else en2.val, ?_, ?_⟩
            · simp [Instr.lookup, run_underlying hu, run_getObj_map _ _ _ _ hb, hck, Instr.findKey, run_underlying (hT.und hyk), hf]
            · have hzr : VR m lb G w (.av a) en2.val := by simp only [VR]; exact ha
              cases ok
              · simpa using hzr
              · simp only [if_true, VR, Option.isSome_some]
                refine ⟨[en2.val, .bool true], rfl, VRs.cons hzr (VRs.cons (by simp only [VR, AR, SR]) VRs.nil)⟩
        · cases hr
      · cases hr3
    · cases hr1
  · cases hr0
theorem MR.set {l : List (Sc × Av)} {es : List MapEntry} (h : MR m lb G w l es) : ∀ (j : Nat) {k : Sc} {a : Av} {kv av : Value} (b : Nat), SR G w k kv → AR m lb G w a av → (∀ e, es[j]? = some e → e.born = b) → MR m lb G w (l.set j (k, a)) (es.set j ⟨kv, av, b⟩) := by
  induction l generalizing es with
  | nil => intro j k a kv av b _ _ _; simp only [MR] at h; subst h; simp [MR]
  | cons p l ih =>
    intro j k a kv av b hk ha hb
    obtain ⟨k', a'⟩ := p
    simp only [MR] at h
    obtain ⟨x, xs, rfl, h1, h2, h3⟩ := h
    cases j with
    | zero => simp only [List.set_cons_zero, MR]; exact ⟨_, xs, rfl, hk, ha, h3⟩
    | succ j => simp only [List.set_cons_succ, MR]; exact ⟨x, _, rfl, h1, h2, ih h3 j b hk ha (fun e he => hb e (by simpa using he))⟩
theorem MR.push {l : List (Sc × Av)} {es : List MapEntry} (h : MR m lb G w l es) {k : Sc} {a : Av} {e : MapEntry} (hk : SR G w k e.key) (ha : AR m lb G w a e.val) : MR m lb G w (l ++ [(k, a)]) (es ++ [e]) := by
  induction l generalizing es with
  | nil => simp only [MR] at h; subst h; simp only [List.nil_append, MR]; exact ⟨e, [], rfl, hk, ha, rfl⟩
  | cons p l ih =>
    obtain ⟨k', a'⟩ := p
    simp only [MR] at h
    obtain ⟨x, xs, rfl, h1, h2, h3⟩ := h
    simp only [List.cons_append, MR]
    exact ⟨x, _, rfl, h1, h2, ih h3⟩
theorem Rel.putMap (h : Rel m lb G w ob nx) {id : Nat} {e : Ent} {l l' : List (Sc × Av)} (hm : m id = some e) (ho : ob id = .mp l) {es : Array MapEntry} {clock clock' : Nat} (hb : w.heap[e.b]? = some (.map es clock)) (es' : Array MapEntry) (h' : MR m lb G w l' es'.toList) (hbn : clock' = es'.size ∧ ∀ (i : Nat) x, es'[i]? = some x → x.born = i) :
    Rel m lb G (w.putObj e.b (.map es' clock')) (upd ob id (.mp l')) nx ∧ Evo m lb G w m G (w.putObj e.b (.map es' clock')) := by
  have hlt := h.mlt id e hm
  refine h.turn hm (by rw [ho]; simp) (.mp l') (by simp) (by simp [World.putObj]) (fun b hne => ?_) (fun o hg => ?_) rfl rfl rfl (fun on => ?_)
  · simp only [World.putObj]
    rw [Array.getElem?_setIfInBounds_ne (fun hh => hne hh.symm)]
  · simp only [World.cell?, World.putObj, hb]
    rw [Array.getElem?_setIfInBounds_self_of_lt hlt]
  · refine ⟨es', clock', ?_, h'.on on, hbn⟩
    simp only [World.putObj]
    rw [Array.getElem?_setIfInBounds_self_of_lt hlt]
theorem born_push {es : Array MapEntry} {clock : Nat} (hc : clock = es.size) (hb : ∀ (i : Nat) x, es[i]? = some x → x.born = i) {k v : Value} : clock + 1 = (es.push ⟨k, v, clock⟩).size ∧ ∀ (i : Nat) x, (es.push ⟨k, v, clock⟩)[i]? = some x → x.born = i := by
  refine ⟨by simp [hc], fun i x hx => ?_⟩
  rw [Array.getElem?_push] at hx
  split at hx
  · rename_i hi; simp only [Option.some.injEq] at hx; subst hx; rw [hi]; exact hc
  · exact hb i x hx
theorem born_modify {es : Array MapEntry} {clock j : Nat} (hc : clock = es.size) (hb : ∀ (i : Nat) x, es[i]? = some x → x.born = i) {f : MapEntry → MapEntry} (hf : ∀ e, (f e).born = e.born) : clock = (es.modify j f).size ∧ ∀ (i : Nat) x, (es.modify j f)[i]? = some x → x.born = i := by
  refine ⟨by simp [hc], fun i x hx => ?_⟩
  rw [Array.getElem?_modify] at hx
  split at hx
  · obtain ⟨y, hy, rfl⟩ := Option.map_eq_some_iff.1 hx
    rw [hf]
    exact hb i y hy
  · exact hb i x hx
theorem run_aMapUpdate (hT : TOk P T) (h : Rel m lb G w ob nx) {t : TypeId} {x k a : Va} {vx vk va : Value} {ob' : Nat → Obj} (hr0 : aMapUpdate T ob t x k a = some ob') (hx : VR m lb G w x vx) (hk : VR m lb G w k vk) (ha : VR m lb G w a va) :
    ∃ w', (Instr.mapUpdate t vx vk va).run P w = .ok () w' ∧ Rel m lb G w' ob' nx ∧ Evo m lb G w m G w' ∧ ∀ i, m i = none → ob' i = ob i := by
  unfold aMapUpdate at hr0
  split at hr0
  · rename_i id k a
    obtain ⟨y, hy, hr1⟩ := Option.bind_eq_some_iff.1 hr0
    clear hr0
    split at hr1
    · rename_i kt e hd
      obtain ⟨yk, hyk, hr2⟩ := Option.bind_eq_some_iff.1 hr1
      clear hr1
      split at hr2
      · rename_i l hl
        split at hr2
        · rename_i hkk
          obtain ⟨q, hq, hr⟩ := Option.map_eq_some_iff.1 hr2
          clear hr2
          have hu := hT.und hy
          rw [hd] at hu
          simp only [VR, AR] at hx hk ha
          obtain ⟨en, hm, rfl⟩ := hx
          have ho := h.obj _ en hm
          rw [hl] at ho
          obtain ⟨es, clock, hb, hes, hcl0, hbn⟩ := ho
          have hck : (Instr.checkKey false 10000 kt vk).run P w = .ok () w := run_checkKey (hT.und hyk) hkk _ _
          have hset : ∀ (es' : Array MapEntry) (c' : Nat), (setObj en.b (.map es' c')).run P w = .ok () (w.putObj en.b (.map es' c')) := by
            intro es' c'
            simp only [setObj, Sem.run, hb, World.putObj]
          have hother : ∀ o', ∀ i, m i = none → upd ob id o' i = ob i := by
            intro o' i hi
            rw [upd_ne]
            intro hh
            subst hh
            rw [hm] at hi
            cases hi
          rcases findA_of hkk hk hq hes with ⟨rfl, hf⟩ | ⟨j, a', en2, rfl, _, hf, hj, ha', hbits⟩
          · subst hr
            obtain ⟨h1, h2⟩ := h.putMap (clock' := clock + 1) hm hl hb (es.push { key := vk, val := va, born := clock }) (l' := l ++ [(k, a)]) (by
              simp only [Array.toList_push]
              exact hes.push hk ha) (born_push hcl0 hbn)
            refine ⟨_, ?_, h1, h2, hother _⟩
            simp [Instr.mapUpdate, run_underlying hu, run_getObj_map _ _ _ _ hb, hck, Instr.findKey, run_underlying (hT.und hyk), hf, hset]
          · subst hr
            simp only [Nat.sub_zero] at hj
            have hjs : es[j]? = some en2 := by simpa using hj
            obtain ⟨h1, h2⟩ := h.putMap (clock' := clock) hm hl hb (es.modify j fun e => { e with key := vk, val := va }) (l' := l.set j (k, a)) (by
              have hlt := (Array.getElem?_eq_some_iff.1 hjs).1
              have e1 : (es.modify j fun e => { e with key := vk, val := va }).toList = es.toList.set j ⟨vk, va, en2.born⟩ := by
                apply List.ext_getElem?
                intro i
                rw [List.getElem?_set, Array.getElem?_toList, Array.getElem?_modify]
                by_cases hij : j = i
                · subst hij
                  have hen := (Array.getElem?_eq_some_iff.1 hjs).2
                  simp [hlt, hen]
                · simp [hij]
              rw [e1]
              exact hes.set j _ hk ha (fun e he => by rw [hj] at he; cases he; rfl)) (born_modify hcl0 hbn (fun _ => rfl))
            refine ⟨_, ?_, h1, h2, hother _⟩
            have hkts : (Instr.keyThatStays en2.key vk).run P w = .ok vk w := by simp [Instr.keyThatStays, hbits]
            simp [Instr.mapUpdate, run_underlying hu, run_getObj_map _ _ _ _ hb, hck, Instr.findKey, run_underlying (hT.und hyk), hf, hjs, hkts, hset]
        · cases hr2
      · cases hr2
    · cases hr1
  · cases hr0

def aMapEntry (T : TypeId → Option Ty) (ob : Nat → Obj) (t : TypeId) (m k : Va) : Option (Va × (Nat → Obj)) :=
  match m, k with
  | .av (.map id), .av (.sc k) => (T t).bind fun y => match y.d with
    | .map kt e => (T kt).bind fun yk => (T e).bind fun z => match ob id with
        | .mp l => if z.size = 1 ∧ isAggD z.d = false ∧ kindOk yk.d k = true then (findA k l 0).map fun r => match r with
            | some (i, a) => (.tup [.av a, .av (.sc (.int .i64 i))], upd ob id (.mp (l.set i (k, a))))
            | none => (.tup [.av (.sc (z.zero.headD .nili)), .av (.sc (.int .i64 l.length))], upd ob id (.mp (l ++ [(k, .sc (z.zero.headD .nili))])))
          else none
        | _ => none
    | _ => none
  | _, _ => none
def aEntryStore (ob : Nat → Obj) (m s x : Va) : Option (Nat → Obj) :=
  match m, s, x with
  | .av (.map id), .av (.sc (.int .i64 i)), .av a => match ob id with
      | .mp l => if 0 ≤ i then (l[i.toNat]?).map fun p => upd ob id (.mp (l.set i.toNat (p.1, a))) else none
      | _ => none
  | _, _, _ => none
theorem MR.length : ∀ {l : List (Sc × Av)} {es : List MapEntry}, MR m lb G w l es → es.length = l.length
  | [], es, h => by simp only [MR] at h; simp [h]
  | (k, a) :: l, es, h => by
    simp only [MR] at h
    obtain ⟨x, xs, rfl, _, _, h3⟩ := h
    simp [MR.length h3]
theorem MR.get : ∀ {l : List (Sc × Av)} {es : List MapEntry}, MR m lb G w l es → ∀ (j : Nat) k a, l[j]? = some (k, a) → ∃ e, es[j]? = some e ∧ SR G w k e.key ∧ AR m lb G w a e.val
  | [], es, h, j, k, a, hj => by simp at hj
  | (k', a') :: l, es, h, j, k, a, hj => by
    simp only [MR] at h
    obtain ⟨x, xs, rfl, h1, h2, h3⟩ := h
    cases j with
    | zero => simp at hj; obtain ⟨rfl, rfl⟩ := hj; exact ⟨x, by simp, h1, h2⟩
    | succ j => simpa using MR.get h3 j k a (by simpa using hj)
theorem run_aMapEntry (hT : TOk P T) (h : Rel m lb G w ob nx) {t : TypeId} {x k r : Va} {vx vk : Value} {ob' : Nat → Obj} (hr0 : aMapEntry T ob t x k = some (r, ob')) (hx : VR m lb G w x vx) (hk : VR m lb G w k vk) :
    ∃ v w', (Instr.mapEntry t vx vk).run P w = .ok v w' ∧ VR m lb G w' r v ∧ Rel m lb G w' ob' nx ∧ Evo m lb G w m G w' ∧ ∀ i, m i = none → ob' i = ob i := by
  unfold aMapEntry at hr0
  split at hr0
  · rename_i id k
    obtain ⟨y, hy, hr1⟩ := Option.bind_eq_some_iff.1 hr0
    clear hr0
    split at hr1
    · rename_i kt e hd
      obtain ⟨yk, hyk, hr2⟩ := Option.bind_eq_some_iff.1 hr1
      clear hr1
      obtain ⟨z, hz, hr3⟩ := Option.bind_eq_some_iff.1 hr2
      clear hr2
      split at hr3
      · rename_i l hl
        split at hr3
        · rename_i hcc
          obtain ⟨hc1, hc2, hkk⟩ := hcc
          obtain ⟨q, hq, hr⟩ := Option.map_eq_some_iff.1 hr3
          clear hr3
          have hu := hT.und hy
          rw [hd] at hu
          simp only [VR, AR] at hx hk
          obtain ⟨en, hm, rfl⟩ := hx
          have ho := h.obj _ en hm
          rw [hl] at ho
          obtain ⟨es, clock, hb, hes, hcl0, hbn⟩ := ho
          have hck : (Instr.checkKey false 10000 kt vk).run P w = .ok () w := run_checkKey (hT.und hyk) hkk _ _
          have hset : ∀ (es' : Array MapEntry) (c' : Nat), (setObj en.b (.map es' c')).run P w = .ok () (w.putObj en.b (.map es' c')) := by
            intro es' c'
            simp only [setObj, Sem.run, hb, World.putObj]
          have hother : ∀ o', ∀ i, m i = none → upd ob id o' i = ob i := by
            intro o' i hi
            rw [upd_ne]
            intro hh
            subst hh
            rw [hm] at hi
            cases hi
          have hlen : es.size = l.length := by simpa using hes.length
          have hzv : z.zeroV = (z.zero.headD .nili).constV ∧ (z.zero.headD .nili).isConst = true := by
            have hl := hT.zlen hz
            rw [hc1] at hl
            obtain ⟨c, hcz⟩ := List.length_eq_one_iff.1 hl
            have hcc := hT.const hz
            rw [hcz] at hcc ⊢
            simp only [List.all_cons, List.all_nil, Bool.and_true] at hcc
            exact ⟨by simp [Ty.zeroV, hc2, hcz], hcc⟩
          have hza : AR m lb G w (.sc (z.zero.headD .nili)) z.zeroV := by
            simp only [AR]
            rw [hzv.1]
            exact Sc.const_SR hzv.2
          rcases findA_of hkk hk hq hes with ⟨rfl, hf⟩ | ⟨j, a', en2, rfl, _, hf, hj, ha', hbits⟩
          · cases hr
            obtain ⟨h1, h2⟩ := h.putMap (clock' := clock + 1) hm hl hb (es.push { key := vk, val := z.zeroV, born := clock }) (l' := l ++ [(k, .sc (z.zero.headD .nili))]) (by
              simp only [Array.toList_push]
              exact hes.push hk hza) (born_push hcl0 hbn)
            refine ⟨.tuple #[z.zeroV, .int .i64 (clock : Int)], _, ?_, ?_, h1, h2, hother _⟩
            · simp [Instr.mapEntry, run_underlying hu, run_getObj_map _ _ _ _ hb, hck, Instr.findKey, run_underlying (hT.und hyk), hf, hset, run_zeroValue hT hz, goInt]
            · simp only [VR]
              refine ⟨[z.zeroV, .int .i64 (clock : Int)], rfl, VRs.cons (by simp only [VR]; exact AR.on h2.on hza) (VRs.cons ?_ VRs.nil)⟩
              simp only [VR, AR, SR]
              rw [hcl0, hlen]
          · cases hr
            simp only [Nat.sub_zero] at hj
            have hjs : es[j]? = some en2 := by simpa using hj
            have hlt := (Array.getElem?_eq_some_iff.1 hjs).1
            have hborn := hbn j en2 hjs
            obtain ⟨h1, h2⟩ := h.putMap (clock' := clock) hm hl hb (es.modify j fun e => { e with key := vk }) (l' := l.set j (k, a')) (by
              have e1 : (es.modify j fun e => { e with key := vk }).toList = es.toList.set j ⟨vk, en2.val, en2.born⟩ := by
                apply List.ext_getElem?
                intro i
                rw [List.getElem?_set, Array.getElem?_toList, Array.getElem?_modify]
                by_cases hij : j = i
                · subst hij
                  have hen := (Array.getElem?_eq_some_iff.1 hjs).2
                  simp [hlt, hen]
                · simp [hij]
              rw [e1]
              exact hes.set j _ hk ha' (fun e he => by rw [hj] at he; cases he; rfl)) (born_modify hcl0 hbn (fun _ => rfl))
            refine ⟨.tuple #[en2.val, .int .i64 (j : Int)], _, ?_, ?_, h1, h2, hother _⟩
            · have hkts : (Instr.keyThatStays en2.key vk).run P w = .ok vk w := by simp [Instr.keyThatStays, hbits]
              simp [Instr.mapEntry, run_underlying hu, run_getObj_map _ _ _ _ hb, hck, Instr.findKey, run_underlying (hT.und hyk), hf, hjs, hkts, hset, goInt, hborn]
            · simp only [VR]
              refine ⟨[en2.val, .int .i64 (j : Int)], rfl, VRs.cons (by simp only [VR]; exact AR.on h2.on ha') (VRs.cons ?_ VRs.nil)⟩
              simp only [VR, AR, SR]
        · cases hr3
      · cases hr3
    · cases hr1
  · cases hr0
theorem run_aEntryStore (h : Rel m lb G w ob nx) {t : TypeId} {x s a : Va} {vx vs va : Value} {ob' : Nat → Obj} (hr0 : aEntryStore ob x s a = some ob') (hx : VR m lb G w x vx) (hs : VR m lb G w s vs) (ha : VR m lb G w a va) :
    ∃ w', (Instr.entryStore t vx vs va).run P w = .ok () w' ∧ Rel m lb G w' ob' nx ∧ Evo m lb G w m G w' ∧ ∀ i, m i = none → ob' i = ob i := by
  unfold aEntryStore at hr0
  split at hr0
  · rename_i id i a
    split at hr0
    · rename_i l hl
      split at hr0
      · rename_i hi0
        obtain ⟨⟨k, a0⟩, hk0, hr⟩ := Option.map_eq_some_iff.1 hr0
        cases hr
        simp only [VR, AR, SR] at hx hs ha
        obtain ⟨en, hm, rfl⟩ := hx
        subst hs
        obtain ⟨j, rfl⟩ : ∃ j : Nat, i = j := ⟨i.toNat, by omega⟩
        simp only [Int.toNat_natCast] at hk0 ⊢
        have ho := h.obj _ en hm
        rw [hl] at ho
        obtain ⟨es, clock, hb, hes, hcl0, hbn⟩ := ho
        obtain ⟨e, he, hek, hev⟩ := hes.get j k a0 hk0
        have hjs : es[j]? = some e := by simpa using he
        have hlt := (Array.getElem?_eq_some_iff.1 hjs).1
        have hset : ∀ (es' : Array MapEntry) (c' : Nat), (setObj en.b (.map es' c')).run P w = .ok () (w.putObj en.b (.map es' c')) := by
          intro es' c'
          simp only [setObj, Sem.run, hb, World.putObj]
        have hfi : es.findIdx? (fun e => (e.born : Int) == (j : Int)) = some j := by
          rw [Array.findIdx?_eq_some_iff_getElem]
          refine ⟨hlt, ?_, fun i hi => ?_⟩
          · have := hbn j es[j] (Array.getElem?_eq_getElem hlt)
            simp [this]
          · have := hbn i es[i] (Array.getElem?_eq_getElem (by omega))
            simp [this]
            omega
        obtain ⟨h1, h2⟩ := h.putMap (clock' := clock) hm hl hb (es.modify j fun e => { e with val := va }) (l' := l.set j (k, a)) (by
          have e1 : (es.modify j fun e => { e with val := va }).toList = es.toList.set j ⟨e.key, va, e.born⟩ := by
            apply List.ext_getElem?
            intro i
            rw [List.getElem?_set, Array.getElem?_toList, Array.getElem?_modify]
            by_cases hij : j = i
            · subst hij
              have hen := (Array.getElem?_eq_some_iff.1 hjs).2
              simp [hlt, hen]
            · simp [hij]
          rw [e1]
          exact hes.set j _ hek ha (fun e' he' => by rw [he] at he'; cases he'; rfl)) (born_modify hcl0 hbn (fun _ => rfl))
        refine ⟨_, ?_, h1, h2, fun i hi => ?_⟩
        · simp [Instr.entryStore, run_getObj_map _ _ _ _ hb, asInt, asIntOf, hset, hfi]
        · rw [upd_ne]
          intro hh
          subst hh
          rw [hm] at hi
          cases hi
      · cases hr0
    · cases hr0
  · cases hr0

/-- The code points of a text. -/
def runesL (s : ByteArray) : Nat → Nat → List Int
  | 0, _ => []
  | b + 1, i => if i < s.size then ((Utf8.decode s i).1 : Int) :: runesL s b (i + (Utf8.decode s i).2) else []
theorem runesL_of (s : ByteArray) : ∀ (b i : Nat) (acc : Array Value), Conv.runesFrom s b i acc = acc ++ ((runesL s b i).map (Value.int .i32)).toArray
  | 0, i, acc => by simp [Conv.runesFrom, runesL]
  | b + 1, i, acc => by
    unfold Conv.runesFrom runesL
    split
    · show Conv.runesFrom s b (i + (Utf8.decode s i).2) (acc.push (.int .i32 (Int.ofNat (Utf8.decode s i).1))) = _
      rw [runesL_of s b]
      simp
    · simp
theorem runesL_len (s : ByteArray) : ∀ (b i : Nat), (runesL s b i).length ≤ b
  | 0, _ => by simp [runesL]
  | b + 1, i => by
    unfold runesL
    split
    · have := runesL_len s b (i + (Utf8.decode s i).2)
      simp only [List.length_cons]
      omega
    · simp
def aRunes (T : TypeId → Option Ty) (ob : Nat → Obj) (nid : Nat) (src dst : TypeId) (x : Va) : Option (Va × (Nat → Obj)) :=
  match x with
  | .av (.sc (.str s)) => (T src).bind fun z => (T dst).bind fun y => match z.d, y.d with
    | .string, .slice e => (T e).bind fun q => match q.d with
      | .int .i32 => if s.size ≤ 1099511627776 ∧ q.size = 1 then some (.av (.own nid 0 (runesL s s.size 0).length 1), upd ob nid (.cs ((runesL s s.size 0).map fun n => .sc (.int .i32 n)) 0)) else none
      | _ => none
    | _, _ => none
  | _ => none
theorem run_aRunes (hT : TOk P T) (h : Rel m lb G w ob nx) {nid : Nat} (hn : m nid = none) (hnx : nid < nx) {src dst : TypeId} {x r : Va} {u : Value} {ob' : Nat → Obj} (hr0 : aRunes T ob nid src dst x = some (r, ob')) (hu : VR m lb G w x u) :
    ∃ v w', (convert src dst u).run P w = .ok v w' ∧ Ok1 m lb G w ob nx nid r ob' v w' := by
  unfold aRunes at hr0
  split at hr0
  · rename_i s
    obtain ⟨z, hz, hr1⟩ := Option.bind_eq_some_iff.1 hr0
    obtain ⟨y, hy, hr2⟩ := Option.bind_eq_some_iff.1 hr1
    split at hr2
    · rename_i e hzd hyd
      obtain ⟨q, hq, hr3⟩ := Option.bind_eq_some_iff.1 hr2
      split at hr3
      · rename_i hqd
        split at hr3
        · rename_i hc
          cases hr3
          simp only [VR, AR, SR] at hu
          subst hu
          have h1 := hT.und hz
          rw [hzd] at h1
          have h2 := hT.und hy
          rw [hyd] at h2
          have h3 := hT.und hq
          rw [hqd] at h3
          have hlen := runesL_len s s.size 0
          have hsz : (Conv.runesFrom s s.size 0 #[]).size = (runesL s s.size 0).length := by rw [runesL_of]; simp
          have hrun := run_runes_of_string (P := P) w src dst e s h1 h2 h3 (by rw [hsz]; omega)
          refine ⟨_, _, hrun, ?_⟩
          have hge := grownCap_ge w (runesL s s.size 0).length 0 e
          have hcm : grownCap w (runesL s s.size 0).length 0 e ≤ maxLen := grownCap_le_maxLen w _ 0 e (by simp only [maxLen]; omega)
          have hars : ∀ l : List Int, ARs m lb G w (l.map fun n => .sc (.int .i32 n)) (l.map (Value.int .i32)) := by
            intro l
            induction l with
            | nil => exact ARs.nil
            | cons a l ih => exact ARs.cons (by simp only [AR, SR]) ih
          refine Ok1.new (w' := w.drew.alloc (.cells _ e)) h hn hnx e _ _ ((runesL s s.size 0).map (Value.int .i32)) (hars _) (fun j v hj => ?_) rfl rfl rfl rfl _ _ fun m' hm' => ?_
          · have hjl := (List.getElem?_eq_some_iff.1 hj).1
            rw [runesL_of, Array.getElem?_append_left (by simpa using hjl)]
            simpa using hj
          · simp only [VR, AR]
            refine ⟨_, hm', .inl ⟨grownCap w (runesL s s.size 0).length 0 e, by rw [hsz], hge, hcm, ?_⟩⟩
            rw [runesL_of]
            simp
            omega
        · cases hr3
      · cases hr3
    · cases hr2
  · cases hr0
def aConvE (T : TypeId → Option Ty) (ob : Nat → Obj) (nid : Nat) (src dst : TypeId) (x : Va) : Option (Va × (Nat → Obj)) :=
  match aConv T src dst x with
  | some r => some (r, ob)
  | none => aRunes T ob nid src dst x
theorem run_part (hT : TOk P T) {t : TypeId} {y : Ty} (hy : T t = some y) {cs : List Av} {off : Nat} {r : Va} {vs : List Value} (hr : aPart y cs off = some r) (hvs : ARs m lb G w cs vs) :
    ∃ u, (part t vs.toArray off).run P w = .ok u w ∧ VR m lb G w r u := by
  unfold aPart at hr
  split at hr
  · rename_i hle
    have hl := hvs.length
    have hseg := (hvs.drop off).take y.size
    refine ⟨flatV y ((vs.drop off).take y.size), ?_, unflat_VR hr hseg⟩
    unfold part flatV
    simp only [Sem.run_bind, run_isAgg hT hy, Result.andThen_ok]
    cases ha : isAggD y.d with
    | true =>
      simp [run_sizeOf hT hy]
    | false =>
      have h1 := unflat_len hr ha
      simp at h1
      have hlt : off < vs.length := by omega
      simp [List.getElem?_eq_getElem hlt]
      rw [List.take_eq_take_iff |>.2 (show min y.size (vs.drop off).length = min 1 (vs.drop off).length by simp; omega)]
      rw [List.drop_eq_getElem_cons hlt]
      rfl
  · cases hr
theorem run_aExtract {x r : Va} {i : Nat} {v : Value} (hr : aExtract x i = some r) (hv : VR m lb G w x v) : ∃ u, (Instr.extract v i).run P w = .ok u w ∧ VR m lb G w r u := by
  unfold aExtract at hr
  split at hr
  · simp only [VR] at hv
    obtain ⟨vs, rfl, hvs⟩ := hv
    obtain ⟨u, hu, hvu⟩ := hvs.get i r hr
    exact ⟨u, by simp [Instr.extract, hu], hvu⟩
  · cases hr
theorem run_aFieldV (hT : TOk P T) {t : TypeId} {x r : Va} {f : Nat} {v : Value} (hr : aFieldV T t x f = some r) (hv : VR m lb G w x v) : ∃ u, (Instr.field t v f).run P w = .ok u w ∧ VR m lb G w r u := by
  unfold aFieldV at hr
  split at hr
  · obtain ⟨p, hp, hr⟩ := Option.bind_eq_some_iff.1 hr
    unfold fieldOf at hp
    obtain ⟨y, hy, hp⟩ := Option.bind_eq_some_iff.1 hp
    split at hp
    · rename_i fs hd
      obtain ⟨fd, hfd, hp⟩ := Option.bind_eq_some_iff.1 hp
      obtain ⟨z, hz, hp⟩ := Option.bind_eq_some_iff.1 hp
      split at hp
      · cases hp
      · cases hp
        have hu := hT.und hy
        rw [hd] at hu
        simp only [VR] at hv
        obtain ⟨vs, rfl, hvs⟩ := hv
        obtain ⟨u, h1, h2⟩ := run_part (P := P) hT hz hr hvs
        exact ⟨u, by simp [Instr.field, run_underlying hu, hfd, asAgg, h1], h2⟩
    · cases hp
  · cases hr
theorem run_aIndexV (hT : TOk P T) {t : TypeId} {x i r : Va} {v vi : Value} (hr : aIndexV T t x i = some r) (hv : VR m lb G w x v) (hi : VR m lb G w i vi) : ∃ u, (Instr.index t v vi).run P w = .ok u w ∧ VR m lb G w r u := by
  unfold aIndexV at hr
  split at hr
  · obtain ⟨y, hy, hr⟩ := Option.bind_eq_some_iff.1 hr
    split at hr
    · rename_i n e hd
      obtain ⟨z, hz, hr⟩ := Option.bind_eq_some_iff.1 hr
      split at hr
      · rename_i hc
        have hu := hT.und hy
        rw [hd] at hu
        simp only [VR, AR, SR] at hv hi
        subst hi
        obtain ⟨vs, rfl, hvs⟩ := hv
        obtain ⟨u, h1, h2⟩ := run_part (P := P) hT hz hr hvs
        exact ⟨u, by simp [Instr.index, run_underlying hu, asIntOf, hc, run_sizeOf hT hz, h1], h2⟩
      · cases hr
    · cases hr
  · obtain ⟨y, hy, hr⟩ := Option.bind_eq_some_iff.1 hr
    split at hr
    · rename_i hd
      split at hr
      · rename_i h0
        obtain ⟨b, hb, rfl⟩ := Option.map_eq_some_iff.1 hr
        have hu := hT.und hy
        rw [hd] at hu
        simp only [VR, AR, SR] at hv hi
        subst hi hv
        exact ⟨.int .u8 b.toNat, by simp [Instr.index, run_underlying hu, asIntOf, h0, hb], by simp only [VR, AR, SR]⟩
      · cases hr
    · cases hr
  · cases hr
/-- A slice against nil; bools. -/
theorem run_aEqNil (hT : TOk P T) (h : Rel m lb G w ob nx) {t : TypeId} {x y : Va} {b : Bool} {u v : Value} (hr : aEqNil T t x y = some b) (hu : VR m lb G w x u) (hv : VR m lb G w y v) : (Op.equal t u v).run P w = .ok b w := by
  unfold aEqNil at hr
  obtain ⟨q, hq, hr2⟩ := Option.bind_eq_some_iff.1 hr
  clear hr
  rename _ = some b => hr
  have hund := hT.und hq
  split at hr
  · rename_i hd
    cases hr
    rw [hd] at hund
    simp only [VR, AR, SR] at hu hv
    subst hu hv
    exact run_equal_slice_nil w t _ none 0 0 hund
  · rename_i hd
    rw [hd] at hund
    split at hr
    · cases hr
    · rename_i hn
      cases hr
      simp only [VR, AR, SR] at hu hv
      subst hv
      obtain ⟨e, _, hu⟩ := hu
      rcases hu with ⟨c, rfl, _⟩ | ⟨h0, _⟩
      · exact run_equal_slice_nil w t _ _ _ c hund
      · exact absurd h0 hn
  · rename_i hd
    rw [hd] at hund
    split at hr
    · cases hr
    · rename_i hn
      cases hr
      simp only [VR, AR, SR] at hu hv
      subst hv
      obtain ⟨A, c, rfl, _, hm⟩ := hu
      rcases hm with rfl | ⟨b, o, vs, rfl, _⟩
      · simp at hn
      · exact run_equal_slice_nil w t _ _ _ c hund
  · rename_i hd
    cases hr
    rw [hd] at hund
    simp only [VR, AR, SR] at hu hv
    subst hu hv
    exact run_equal_bool w t _ _ hund
  · cases hr
end
end Go.Am
/-
  Am, part J: what is frozen into plain data; one operation that calls no function of the program.
-/
namespace Go.Am

def purL (f : (Nat → Obj) → Av → Option (Sc × (Nat → Obj))) : (Nat → Obj) → List Av → Option (List Sc × (Nat → Obj))
  | ob, [] => some ([], ob)
  | ob, a :: l => (f ob a).bind fun p => (purL f p.2 l).map fun q => (p.1 :: q.1, q.2)
/-- A cell as plain data: what it leads to is turned no more. -/
def pur : Nat → (Nat → Obj) → Av → Option (Sc × (Nat → Obj))
  | _, ob, .sc s => some (s, ob)
  | d + 1, ob, .own id o n es => match ob id with
    | .cs l fz => if o + n * es ≤ l.length then
        (purL (pur d) (upd ob id (.cs l (max fz (o + n * es)))) ((l.drop o).take (n * es))).map fun q => (.sl n q.1, q.2) else none
    | _ => none
  | _, _, _ => none
def purD : Nat := 4
def purV (ob : Nat → Obj) : Va → Option (Va × (Nat → Obj))
  | .av a => (pur purD ob a).map fun p => (.av (.sc p.1), p.2)
  | .agg cs => (purL (pur purD) ob cs).map fun p => (.agg (p.1.map .sc), p.2)
  | _ => none
def purVs : (Nat → Obj) → List Va → Option (List Va × (Nat → Obj))
  | ob, [] => some ([], ob)
  | ob, x :: l => (purV ob x).bind fun p => (purVs p.2 l).map fun q => (p.1 :: q.1, q.2)
def purParts : (Nat → Obj) → List (Nat × Va) → Option (List (Nat × Va) × (Nat → Obj))
  | ob, [] => some ([], ob)
  | ob, (i, x) :: l => (purV ob x).bind fun p => (purParts p.2 l).map fun q => ((i, p.1) :: q.1, q.2)
section
variable {P : Program} {T : TypeId → Option Ty} {m : Nat → Option Ent} {lb : Nat → Option Nat} {G : Nat → Nat → Prop} {w : World} {ob : Nat → Obj} {nx : Nat}

/-- The store after something was frozen. -/
def Frz (m : Nat → Option Ent) (lb : Nat → Option Nat) (G : Nat → Nat → Prop) (w : World) (ob : Nat → Obj) (nx : Nat) (G' : Nat → Nat → Prop) (ob' : Nat → Obj) : Prop :=
  Rel m lb G' w ob' nx ∧ Evo m lb G w m G' w ∧ ∀ i, m i = none → ob' i = ob i
theorem Frz.refl (h : Rel m lb G w ob nx) : Frz m lb G w ob nx G ob := ⟨h, Evo.refl, fun _ _ => rfl⟩
theorem Frz.trans {G' G'' : Nat → Nat → Prop} {ob' ob'' : Nat → Obj} (h : Frz m lb G w ob nx G' ob') (k : Frz m lb G' w ob' nx G'' ob'') : Frz m lb G w ob nx G'' ob'' :=
  ⟨k.1, h.2.1.trans k.2.1, fun i hi => (k.2.2 i hi).trans (h.2.2 i hi)⟩
theorem purL_of {f : (Nat → Obj) → Av → Option (Sc × (Nat → Obj))}
    (hf : ∀ {G : Nat → Nat → Prop} {ob : Nat → Obj} {a : Av} {s : Sc} {ob' : Nat → Obj} {v : Value}, f ob a = some (s, ob') → Rel m lb G w ob nx → AR m lb G w a v → ∃ G', Frz m lb G w ob nx G' ob' ∧ SR G' w s v) :
    ∀ {l : List Av} {G : Nat → Nat → Prop} {ob : Nat → Obj} {ss : List Sc} {ob' : Nat → Obj} {vs : List Value}, purL f ob l = some (ss, ob') → Rel m lb G w ob nx → ARs m lb G w l vs → ∃ G', Frz m lb G w ob nx G' ob' ∧ SRs G' w ss vs
  | [], G, ob, ss, ob', vs, h, hr, hv => by
    simp only [purL] at h
    cases h
    simp only [ARs] at hv
    exact ⟨G, Frz.refl hr, by simpa only [SRs] using hv⟩
  | a :: l, G, ob, ss, ob', vs, h, hr, hv => by
    simp only [purL] at h
    obtain ⟨⟨s, ob1⟩, h1, h2⟩ := Option.bind_eq_some_iff.1 h
    obtain ⟨⟨ss', ob2⟩, h3, h4⟩ := Option.map_eq_some_iff.1 h2
    cases h4
    simp only [ARs] at hv
    obtain ⟨u, us, rfl, hu, hus⟩ := hv
    obtain ⟨G1, hz1, hs1⟩ := hf h1 hr hu
    obtain ⟨G2, hz2, hs2⟩ := purL_of hf h3 hz1.1 (ARs.on hz1.2.1.on hus)
    refine ⟨G2, hz1.trans hz2, ?_⟩
    simp only [SRs]
    exact ⟨u, us, rfl, SR.stays hz2.2.1.on.s hs1, hs2⟩
theorem pur_of : ∀ (d : Nat) {G : Nat → Nat → Prop} {ob : Nat → Obj} {a : Av} {s : Sc} {ob' : Nat → Obj} {v : Value}, pur d ob a = some (s, ob') → Rel m lb G w ob nx → AR m lb G w a v → ∃ G', Frz m lb G w ob nx G' ob' ∧ SR G' w s v := by
  intro d
  induction d with
  | zero =>
    intro G ob a s ob' v h hr hv
    cases a <;> simp only [pur] at h <;> cases h
    simp only [AR] at hv
    exact ⟨G, Frz.refl hr, hv⟩
  | succ d ih =>
    intro G ob a s ob' v h hr hv
    cases a with
    | sc s =>
      simp only [pur] at h
      cases h
      simp only [AR] at hv
      exact ⟨G, Frz.refl hr, hv⟩
    | own id o n es =>
      simp only [pur] at h
      split at h
      · rename_i l fz hl
        split at h
        · rename_i hle
          obtain ⟨⟨ss, ob2⟩, h1, h2⟩ := Option.map_eq_some_iff.1 h
          cases h2
          simp only [AR] at hv
          obtain ⟨en, hm, hv⟩ := hv
          obtain ⟨vs, hvs, hat⟩ := hr.cells hm hl
          have hvl := hvs.length
          obtain ⟨hz1, hz2⟩ := hr.freeze hm hl (o + n * es)
          have hz : Frz m lb G w ob nx _ (upd ob id (.cs l (max fz (o + n * es)))) := ⟨hz1, hz2, fun i hi => upd_ne _ _ (fun hh => by subst hh; rw [hm] at hi; cases hi)⟩
          obtain ⟨G2, hz3, hs⟩ := purL_of (fun h hr hv => ih h hr hv) h1 hz.1 (ARs.on hz.2.1.on ((hvs.drop o).take (n * es)))
          refine ⟨G2, hz.trans hz3, ?_⟩
          simp only [SR]
          rcases hv with ⟨c, rfl, hnc, _, _⟩ | ⟨rfl, A, rfl⟩
          · refine ⟨_, c, rfl, hnc, .inr ⟨_, _, _, rfl, hs, fun j u hj => ?_⟩⟩
            have hjl := (List.getElem?_eq_some_iff.1 hj).1
            simp only [List.length_take, List.length_drop] at hjl
            rw [List.getElem?_take] at hj
            split at hj
            · rw [List.getElem?_drop] at hj
              refine ⟨hz3.2.1.on.s.g _ _ (.inr ⟨rfl, by omega⟩), ?_⟩
              rw [Nat.add_assoc]
              exact hat _ _ hj
            · cases hj
          · refine ⟨A, 0, rfl, Nat.le_refl _, .inl ?_⟩
            have := hs.length
            simp at this
            exact List.eq_nil_of_length_eq_zero this.symm
        · cases h
      · cases h
    | ptr id o => simp only [pur] at h; cases h
    | fn f first caps => simp only [pur] at h; cases h
    | map id => simp only [pur] at h; cases h
    | yl l => simp only [pur] at h; cases h
theorem purV_of {x y : Va} {ob' : Nat → Obj} {v : Value} (h : purV ob x = some (y, ob')) (hr : Rel m lb G w ob nx) (hv : VR m lb G w x v) : ∃ G', Frz m lb G w ob nx G' ob' ∧ VR m lb G' w y v := by
  unfold purV at h
  split at h
  · obtain ⟨⟨s, ob1⟩, h1, h2⟩ := Option.map_eq_some_iff.1 h
    cases h2
    simp only [VR] at hv
    obtain ⟨G1, hz, hs⟩ := pur_of purD h1 hr hv
    exact ⟨G1, hz, by simp only [VR, AR]; exact hs⟩
  · obtain ⟨⟨ss, ob1⟩, h1, h2⟩ := Option.map_eq_some_iff.1 h
    cases h2
    simp only [VR] at hv
    obtain ⟨vs, rfl, hvs⟩ := hv
    obtain ⟨G1, hz, hs⟩ := purL_of (fun h hr hv => pur_of purD h hr hv) h1 hr hvs
    exact ⟨G1, hz, by simp only [VR]; exact ⟨vs, rfl, ARs.of_sc hs⟩⟩
  · cases h
theorem purVs_of : ∀ {l l' : List Va} {G : Nat → Nat → Prop} {ob ob' : Nat → Obj} {vs : List Value}, purVs ob l = some (l', ob') → Rel m lb G w ob nx → VRs m lb G w l vs → ∃ G', Frz m lb G w ob nx G' ob' ∧ VRs m lb G' w l' vs
  | [], l', G, ob, ob', vs, h, hr, hv => by
    simp only [purVs] at h
    cases h
    exact ⟨G, Frz.refl hr, hv⟩
  | x :: l, l', G, ob, ob', vs, h, hr, hv => by
    simp only [purVs] at h
    obtain ⟨⟨s, ob1⟩, h1, h2⟩ := Option.bind_eq_some_iff.1 h
    obtain ⟨⟨ss', ob2⟩, h3, h4⟩ := Option.map_eq_some_iff.1 h2
    cases h4
    simp only [VRs] at hv
    obtain ⟨u, us, rfl, hu, hus⟩ := hv
    obtain ⟨G1, hz1, hs1⟩ := purV_of h1 hr hu
    obtain ⟨G2, hz2, hs2⟩ := purVs_of h3 hz1.1 (VRs.on hz1.2.1.on hus)
    exact ⟨G2, hz1.trans hz2, VRs.cons (VR.on hz2.2.1.on hs1) hs2⟩
theorem PartsR.on {m' : Nat → Option Ent} {lb' : Nat → Option Nat} {G' : Nat → Nat → Prop} {w' : World} (hs : On m lb G w m' lb' G' w') : ∀ {l : List (Nat × Va)} {ps : List (Nat × Value)}, PartsR m lb G w l ps → PartsR m' lb' G' w' l ps
  | [], ps, h => by simpa only [PartsR] using h
  | (i, x) :: l, ps, h => by
    simp only [PartsR] at h ⊢
    obtain ⟨v, vs, rfl, h1, h2⟩ := h
    exact ⟨v, vs, rfl, VR.on hs h1, PartsR.on hs h2⟩
theorem purParts_of : ∀ {l l' : List (Nat × Va)} {G : Nat → Nat → Prop} {ob ob' : Nat → Obj} {ps : List (Nat × Value)}, purParts ob l = some (l', ob') → Rel m lb G w ob nx → PartsR m lb G w l ps → ∃ G', Frz m lb G w ob nx G' ob' ∧ PartsR m lb G' w l' ps
  | [], l', G, ob, ob', ps, h, hr, hv => by
    simp only [purParts] at h
    cases h
    exact ⟨G, Frz.refl hr, hv⟩
  | (i, x) :: l, l', G, ob, ob', ps, h, hr, hv => by
    simp only [purParts] at h
    obtain ⟨⟨s, ob1⟩, h1, h2⟩ := Option.bind_eq_some_iff.1 h
    obtain ⟨⟨ss', ob2⟩, h3, h4⟩ := Option.map_eq_some_iff.1 h2
    cases h4
    simp only [PartsR] at hv
    obtain ⟨u, us, rfl, hu, hus⟩ := hv
    obtain ⟨G1, hz1, hs1⟩ := purV_of h1 hr hu
    obtain ⟨G2, hz2, hs2⟩ := purParts_of h3 hz1.1 (PartsR.on hz1.2.1.on hus)
    refine ⟨G2, hz1.trans hz2, ?_⟩
    simp only [PartsR]
    exact ⟨u, us, rfl, VR.on hz2.2.1.on hs1, hs2⟩
theorem Frz.ok1 {G' : Nat → Nat → Prop} {ob' : Nat → Obj} (hz : Frz m lb G w ob nx G' ob') {nid : Nat} {r : Va} {ob'' : Nat → Obj} {v : Value} {w' : World} (h : Ok1 m lb G' w ob' nx nid r ob'' v w') : Ok1 m lb G w ob nx nid r ob'' v w' := by
  obtain ⟨m1, G1, h1, h2, h3, h4⟩ := h
  exact ⟨m1, G1, h1, h2, hz.2.1.trans h3, fun i hi hm => ⟨(h4 i hi hm).1, ((h4 i hi hm).2).trans (hz.2.2 i hm)⟩⟩
end
end Go.Am
/-
  Am, part K: the operations that call no function of the program, all of them: 'aop', and that the model does the same.
-/
namespace Go.Am

/-- Are rows of plain comparable cells the same? -/
def eqCells : List Av → List Av → Option Bool
  | [], [] => some true
  | .sc a :: l, .sc b :: r => (eqSc a b).bind fun p => (eqCells l r).map fun q => p && q
  | _, _ => none
/-- What the machine knows of the program: its types; which struct types compare cell by cell; which functions are called with plain data alone. -/
structure Cfg (P : Program) where
  T : TypeId → Option Ty
  tok : TOk P T
  hone : ∀ t y, T t = some y → isAggD y.d = false → y.size = 1
  E : TypeId → List Av → Bool
  eok : ∀ t xs ys, E t xs = true → E t ys = true → ∀ (m : Nat → Option Ent) (lb : Nat → Option Nat) (G : Nat → Nat → Prop) (w : World) (us vs : List Value) (b : Bool), eqCells xs ys = some b → ARs m lb G w xs us → ARs m lb G w ys vs →
    ∀ x y, ((eqGuard .eql t x y (.agg us.toArray) (.agg vs.toArray)).run P w = .ok () w ∧ (binOp .eql t (.agg us.toArray) (.agg vs.toArray)).run P w = .ok (.bool b) w) ∧
      ((eqGuard .neq t x y (.agg us.toArray) (.agg vs.toArray)).run P w = .ok () w ∧ (binOp .neq t (.agg us.toArray) (.agg vs.toArray)).run P w = .ok (.bool (!b)) w)
  mixed : P.follows .mixedOrders = true
  pure : FuncId → Bool
  keep : FuncId → Bool
def aEq {P : Program} (C : Cfg P) (t : TypeId) (x y : Va) : Option Bool :=
  match x, y with
  | .agg xs, .agg ys => if C.E t xs && C.E t ys then eqCells xs ys else none
  | _, _ => aEqNil C.T t x y
def aBinE {P : Program} (C : Cfg P) (op : BinOp) (t : TypeId) (x y : Va) : Option Va :=
  match aBin op x y with
  | some r => some r
  | none => match op with
    | .eql => (aEq C t x y).map fun b => .av (.sc (.bool b))
    | .neq => (aEq C t x y).map fun b => .av (.sc (.bool (!b)))
    | _ => none
def avs : List Va → Option (List Av)
  | [] => some []
  | .av a :: l => (avs l).map fun r => a :: r
  | _ :: _ => none
def aBuiltin {P : Program} (C : Cfg P) (ob : Nat → Obj) (nid : Nat) (b : Builtin) (ts : List TypeId) (xs : List Va) : Option (Va × (Nat → Obj)) :=
  match b, ts, xs with
  | .len, [t], [x] => (aLen C.T ob t x).map fun r => (r, ob)
  | .append, [t, t'], [s, x] => if t = t' then aAppend C.T ob nid t s x else aAppendZ C.T ob nid t t' s x
  | .cap, [t], [x] => (aCap C.T t x).map fun r => (r, ob)
  | .min, _, [x, y] => (aMin x y).map fun r => (r, ob)
  | .max, _, [x, y] => (aMax x y).map fun r => (r, ob)
  | _, _, _ => none
def aop {P : Program} (C : Cfg P) (pb : Bool) (ev : Operand → Va) (ob : Nat → Obj) (nid : Nat) (op : Op) : Option (Va × (Nat → Obj)) :=
  match op with
  | .move x => some (ev x, ob)
  | .assign x => some (ev x, ob)
  | .pick c a b => match ev c with
    | .av (.sc (.bool t)) => some (if t then ev a else ev b, ob)
    | _ => none
  | .alloc t => aAlloc C.T ob nid t
  | .box _ x => aBox ob nid (ev x)
  | .build t parts => (if pb then purParts ob (parts.toList.map fun p => (p.1, ev p.2)) else some (parts.toList.map fun p => (p.1, ev p.2), ob)).bind fun q => (aBuild C.T t q.1).map fun r => (r, q.2)
  | .buildSlice t len parts => (if pb then purParts ob (parts.toList.map fun p => (p.1, ev p.2)) else some (parts.toList.map fun p => (p.1, ev p.2), ob)).bind fun q => aBuildSlice C.T q.2 nid t len q.1
  | .load t a => (aLoad C.T ob t (ev a)).map fun r => (r, ob)
  | .store t a x => (aStore C.T ob t (ev a) (ev x)).map fun o => (.und, o)
  | .nilCheck x => match ev x with
    | .av (.ptr id o) => some (.av (.ptr id o), ob)
    | .av (.sc (.cptr cs)) => some (.av (.sc (.cptr cs)), ob)
    | .av (.fn f a b) => some (.av (.fn f a b), ob)
    | _ => none
  | .binOp op t x y _ => (aBinE C op t (ev x) (ev y)).map fun r => (r, ob)
  | .unOp op _ x => (aUn op (ev x)).map fun r => (r, ob)
  | .convert s d x => aConvE C.T ob nid s d (ev x)
  | .mapEntry t m k => aMapEntry C.T ob t (ev m) (ev k)
  | .entryStore t m s x => (aEntryStore ob (ev m) (ev s) (ev x)).map fun o => (.und, o)
  | .makeFunc (.func f) first caps => (avs (first.toList.map ev)).bind fun a => (avs (caps.toList.map ev)).map fun b => (.av (.fn f a b), ob)
  | .makeMap _ none => some (.av (.map nid), upd ob nid (.mp []))
  | .makeSlice t l c => aMake C.T ob nid t (ev l) (ev c)
  | .slice t x lo hi none => (aSlice C.T t (ev x) (lo.map ev) (hi.map ev)).map fun r => (r, ob)
  | .fieldAddr t x f => (aField C.T t f (ev x)).map fun r => (r, ob)
  | .field t x f => (aFieldV C.T t (ev x) f).map fun r => (r, ob)
  | .indexAddr t x i => (aIndex C.T t (ev x) (ev i)).map fun r => (r, ob)
  | .index t x i => (aIndexV C.T t (ev x) (ev i)).map fun r => (r, ob)
  | .lookup t m k ok => (aLookup C.T ob t (ev m) (ev k) ok).map fun r => (r, ob)
  | .mapUpdate t m k x => (aMapUpdate C.T ob t (ev m) (ev k) (ev x)).map fun o => (.und, o)
  | .extract x i => (aExtract (ev x) i).map fun r => (r, ob)
  | .call c => match c.callee with
    | .builtin b => aBuiltin C ob nid b c.argTypes.toList (c.args.toList.map ev)
    | _ => none
  | _ => none

section
variable {P : Program} {m : Nat → Option Ent} {lb : Nat → Option Nat} {G : Nat → Nat → Prop} {w : World} {ob : Nat → Obj} {nx : Nat}
theorem avs_of : ∀ {l : List Va} {r : List Av} {vs : List Value}, avs l = some r → VRs m lb G w l vs → ARs m lb G w r vs
  | [], r, vs, h, hv => by
    simp only [avs] at h
    cases h
    simpa only [VRs, ARs] using hv
  | .av a :: l, r, vs, h, hv => by
    simp only [avs] at h
    obtain ⟨r', h1, rfl⟩ := Option.map_eq_some_iff.1 h
    simp only [VRs, VR] at hv
    obtain ⟨u, us, rfl, h2, h3⟩ := hv
    exact ARs.cons h2 (avs_of h1 h3)
  | .agg _ :: l, r, vs, h, hv => by simp [avs] at h
  | .tup _ :: l, r, vs, h, hv => by simp [avs] at h
  | .und :: l, r, vs, h, hv => by simp [avs] at h
theorem VRs.map {ev : Operand → Va} {ρ : Operand → Value} (h : ∀ x, VR m lb G w (ev x) (ρ x)) : ∀ l : List Operand, VRs m lb G w (l.map ev) (l.map ρ)
  | [] => VRs.nil
  | x :: l => VRs.cons (h x) (VRs.map h l)
theorem PartsR.map {ev : Operand → Va} {ρ : Operand → Value} (h : ∀ x, VR m lb G w (ev x) (ρ x)) : ∀ l : List (Nat × Operand), PartsR m lb G w (l.map fun p => (p.1, ev p.2)) (l.map fun p => (p.1, ρ p.2))
  | [] => by simp [PartsR]
  | (i, x) :: l => by
    simp only [List.map_cons, PartsR]
    exact ⟨_, _, rfl, h x, PartsR.map h l⟩
/-- What the model's operation comes to. -/
def OpRun (P : Program) (s : Sem Next) (w : World) (v : Value) (w' : World) : Prop := s.run P w = .ok (.value v) w' ∨ (s.run P w = .ok .skip w' ∧ v = undef)
theorem bndR_of {ev : Operand → Va} {ρ : Operand → Value} (h : ∀ x, VR m lb G w (ev x) (ρ x)) (o : Option Operand) : bndR m lb G w (o.map ev) (o.map ρ) := by
  cases o with
  | none => simp [bndR]
  | some x => exact ⟨_, rfl, h x⟩
theorem run_eqGuard_plain {op : BinOp} {t : TypeId} {x y : Operand} {u v : Value} (hu : ∀ xs, u ≠ .agg xs) (hn : u ≠ .nilIface) : (eqGuard op t x y u v).run P w = .ok () w := by
  unfold eqGuard
  cases op <;> simp <;> (cases u <;> simp_all)
theorem run_aBinE (C : Cfg P) {op : BinOp} {t : TypeId} (x y : Operand) {a b r : Va} {u v : Value} (hr : aBinE C op t a b = some r) (h : Rel m lb G w ob nx) (hu : VR m lb G w a u) (hv : VR m lb G w b v) :
    ∃ q, (eqGuard op t x y u v).run P w = .ok () w ∧ (binOp op t u v).run P w = .ok q w ∧ VR m lb G w r q := by
  unfold aBinE at hr
  split at hr
  · rename_i r' hb
    cases hr
    obtain ⟨q, h1, h2⟩ := run_aBin hb t hu hv
    refine ⟨q, ?_, h1, h2⟩
    unfold aBin at hb
    split at hb
    · simp only [VR, AR, SR] at hu
      subst hu
      exact run_eqGuard_plain (by simp) (by simp)
    · simp only [VR, AR, SR] at hu
      subst hu
      exact run_eqGuard_plain (by simp) (by simp)
    · cases hb
  · have key : ∀ bb, aEq C t a b = some bb →
        ((eqGuard .eql t x y u v).run P w = .ok () w ∧ (binOp .eql t u v).run P w = .ok (.bool bb) w) ∧ ((eqGuard .neq t x y u v).run P w = .ok () w ∧ (binOp .neq t u v).run P w = .ok (.bool (!bb)) w) := by
      intro bb hbb
      unfold aEq at hbb
      split at hbb
      · split at hbb
        · rename_i hE
          simp only [VR] at hu hv
          obtain ⟨us, rfl, hus⟩ := hu
          obtain ⟨vs, rfl, hvs⟩ := hv
          rw [Bool.and_eq_true] at hE
          exact C.eok t _ _ hE.1 hE.2 m lb G w us vs bb hbb hus hvs x y
        · cases hbb
      · have he := run_aEqNil C.tok h hbb hu hv
        have hform : (∀ xs, u ≠ .agg xs) ∧ u ≠ .nilIface ∧ (∀ k n, u ≠ .int k n) ∧ (∀ k n, u ≠ .float k n) ∧ (∀ k n q, u ≠ .complex k n q) ∧ (∀ s, u ≠ .string s) := by
          unfold aEqNil at hbb
          obtain ⟨q, hq, hb2⟩ := Option.bind_eq_some_iff.1 hbb
          split at hb2
          · simp only [VR, AR, SR] at hu; subst hu; simp
          · simp only [VR, AR] at hu
            obtain ⟨e, _, hu⟩ := hu
            rcases hu with ⟨c, rfl, _⟩ | ⟨_, A, rfl⟩ <;> simp
          · simp only [VR, AR, SR] at hu
            obtain ⟨A, c, rfl, _⟩ := hu
            simp
          · simp only [VR, AR, SR] at hu; subst hu; simp
          · cases hb2
        obtain ⟨f1, f2, f3, f4, f5, f6⟩ := hform
        refine ⟨⟨run_eqGuard_plain f1 f2, ?_⟩, ⟨run_eqGuard_plain f1 f2, ?_⟩⟩
        · cases u <;> simp_all [binOp]
        · cases u <;> simp_all [binOp]
    split at hr
    · obtain ⟨bb, hbb, rfl⟩ := Option.map_eq_some_iff.1 hr
      obtain ⟨⟨h1, h2⟩, _⟩ := key bb hbb
      exact ⟨_, h1, h2, by simp only [VR, AR, SR]⟩
    · obtain ⟨bb, hbb, rfl⟩ := Option.map_eq_some_iff.1 hr
      obtain ⟨_, ⟨h1, h2⟩⟩ := key bb hbb
      exact ⟨_, h1, h2, by simp only [VR, AR, SR]⟩
    · cases hr
end
end Go.Am
/-
  Am, part L: what 'aop' tells, the model's operation does.
-/
namespace Go.Am
section
variable {P : Program} {m : Nat → Option Ent} {lb : Nat → Option Nat} {G : Nat → Nat → Prop} {w : World} {ob : Nat → Obj} {nx : Nat}

theorem Ok1.of_touch (h : Rel m lb G w ob nx) {nid : Nat} {ob' : Nat → Obj} {w' : World} (h1 : Rel m lb G w' ob' nx) (h2 : Evo m lb G w m G w') (h3 : ∀ i, m i = none → ob' i = ob i) : Ok1 m lb G w ob nx nid .und ob' undef w' :=
  ⟨m, G, by simp only [VR], h1, h2, fun i _ hm => ⟨hm, h3 i hm⟩⟩
theorem opRun_v {s : Sem Value} {v : Value} {w w' : World} (h : s.run P w = .ok v w') : OpRun P (do pure (.value (← s))) w v w' := .inl (by simp [h])
theorem opRun_u {s : Sem Unit} {w w' : World} (h : s.run P w = .ok () w') : OpRun P (do s; pure .skip) w undef w' := .inr ⟨by simp [h], rfl⟩
theorem VRs.two {x y : Va} {vs : List Value} (h : VRs m lb G w [x, y] vs) : ∃ u v, vs = [u, v] ∧ VR m lb G w x u ∧ VR m lb G w y v := by
  simp only [VRs] at h
  obtain ⟨u, us, rfl, h1, v, vs, rfl, h2, rfl⟩ := h
  exact ⟨u, v, rfl, h1, h2⟩
theorem VRs.one {x : Va} {vs : List Value} (h : VRs m lb G w [x] vs) : ∃ u, vs = [u] ∧ VR m lb G w x u := by
  simp only [VRs] at h
  obtain ⟨u, us, rfl, h1, rfl⟩ := h
  exact ⟨u, rfl, h1⟩
theorem parts_eta (ρ : Operand → Value) (parts : Array (Nat × Operand)) : (parts.map fun p => (p.1, ρ p.2)) = parts.map fun (i, x) => (i, ρ x) := by
  congr
theorem toArray_of_toList {α : Type} {a : Array α} {l : List α} (h : a.toList = l) : a = l.toArray := by rw [← h]

theorem aBuiltin_of (C : Cfg P) {b : Builtin} {ts : Array TypeId} {ty : TypeId} {cs : Array Bool} {xs : List Va} {vs : Array Value} {nid : Nat} {r : Va} {ob' : Nat → Obj} (hr : aBuiltin C ob nid b ts.toList xs = some (r, ob'))
    (h : Rel m lb G w ob nx) (hn : m nid = none) (hnx : nid < nx) (hv : VRs m lb G w xs vs.toList) : ∃ v w', OpRun P (builtin b ts ty cs vs) w v w' ∧ Ok1 m lb G w ob nx nid r ob' v w' := by
  unfold aBuiltin at hr
  split at hr
  · rename_i t x hts
    obtain ⟨r', h1, h2⟩ := Option.map_eq_some_iff.1 hr
    cases h2
    obtain ⟨u, hvs, hu⟩ := hv.one
    have e1 := toArray_of_toList hts
    have e2 := toArray_of_toList hvs
    subst e1 e2
    obtain ⟨q, h3, h4⟩ := run_aLen C.tok h ty h1 hu
    exact ⟨q, w, opRun_v (s := Builtin.len_ #[t] ty #[u]) h3, Ok1.same h nid h4⟩
  · rename_i t t' s x hts
    split at hr
    · rename_i htt
      subst htt
      obtain ⟨u, v, hvs, hu, hv2⟩ := hv.two
      have e1 := toArray_of_toList hts
      have e2 := toArray_of_toList hvs
      subst e1 e2
      obtain ⟨q, w', h3, h4⟩ := run_aAppend C.tok C.hone h hn hnx ty hr hu hv2
      exact ⟨q, w', opRun_v (s := Builtin.append_ #[t, t] ty #[u, v]) h3, h4⟩
    · obtain ⟨u, v, hvs, hu, hv2⟩ := hv.two
      have e1 := toArray_of_toList hts
      have e2 := toArray_of_toList hvs
      subst e1 e2
      obtain ⟨q, w', h3, h4⟩ := run_aAppendZ C.tok C.hone h hn hnx ty hr hu hv2
      exact ⟨q, w', opRun_v (s := Builtin.append_ #[t, t'] ty #[u, v]) h3, h4⟩
  · rename_i t x hts
    obtain ⟨r', h1, h2⟩ := Option.map_eq_some_iff.1 hr
    cases h2
    obtain ⟨u, hvs, hu⟩ := hv.one
    have e1 := toArray_of_toList hts
    have e2 := toArray_of_toList hvs
    subst e1 e2
    obtain ⟨q, h3, h4⟩ := run_aCap C.tok ty h1 hu
    exact ⟨q, w, opRun_v (s := Builtin.cap_ #[t] ty #[u]) h3, Ok1.same h nid h4⟩
  · obtain ⟨r', h1, h2⟩ := Option.map_eq_some_iff.1 hr
    cases h2
    obtain ⟨u, v, hvs, hu, hv2⟩ := hv.two
    have e2 := toArray_of_toList hvs
    subst e2
    obtain ⟨q, h3, h4⟩ := run_aMin (ts := ts) (P := P) ty h1 hu hv2
    exact ⟨q, w, opRun_v (s := Builtin.min_ ts ty #[u, v]) h3, Ok1.same h nid h4⟩
  · obtain ⟨r', h1, h2⟩ := Option.map_eq_some_iff.1 hr
    cases h2
    obtain ⟨u, v, hvs, hu, hv2⟩ := hv.two
    have e2 := toArray_of_toList hvs
    subst e2
    obtain ⟨q, h3, h4⟩ := run_aMax (ts := ts) (P := P) ty h1 hu hv2
    exact ⟨q, w, opRun_v (s := Builtin.max_ ts ty #[u, v]) h3, Ok1.same h nid h4⟩
  · cases hr

section
variable (C : Cfg P) {pb : Bool} {ev : Operand → Va} {ρ : Operand → Value} {nid : Nat} {r : Va} {ob' : Nat → Obj} (dst : Option Tmp) (ty : TypeId) (pos : String) (after : Array Edge) (guard : Option (Nat × Bool))
theorem aop_move (x : Operand) (hr : aop C pb ev ob nid (.move x) = some (r, ob')) (h : Rel m lb G w ob nx) (hn : m nid = none) (hnx : nid < nx) (hρ : ∀ x, VR m lb G w (ev x) (ρ x)) :
    ∃ v w', OpRun P (execOp ρ ⟨dst, .move x, ty, pos, after, guard⟩) w v w' ∧ Ok1 m lb G w ob nx nid r ob' v w' := by
    simp only [aop] at hr
    cases hr; exact ⟨ρ x, w, .inl rfl, Ok1.same h nid (hρ x)⟩
theorem aop_assign (x : Operand) (hr : aop C pb ev ob nid (.assign x) = some (r, ob')) (h : Rel m lb G w ob nx) (hn : m nid = none) (hnx : nid < nx) (hρ : ∀ x, VR m lb G w (ev x) (ρ x)) :
    ∃ v w', OpRun P (execOp ρ ⟨dst, .assign x, ty, pos, after, guard⟩) w v w' ∧ Ok1 m lb G w ob nx nid r ob' v w' := by
    simp only [aop] at hr
    cases hr; exact ⟨ρ x, w, .inl rfl, Ok1.same h nid (hρ x)⟩
theorem aop_pick (c a b : Operand) (hr : aop C pb ev ob nid (.pick c a b) = some (r, ob')) (h : Rel m lb G w ob nx) (hn : m nid = none) (hnx : nid < nx) (hρ : ∀ x, VR m lb G w (ev x) (ρ x)) :
    ∃ v w', OpRun P (execOp ρ ⟨dst, .pick c a b, ty, pos, after, guard⟩) w v w' ∧ Ok1 m lb G w ob nx nid r ob' v w' := by
    simp only [aop] at hr
    split at hr
    · rename_i t hc
      cases hr
      have h1 := hρ c
      rw [hc] at h1
      simp only [VR, AR, SR] at h1
      refine ⟨if t then ρ a else ρ b, w, .inl ?_, Ok1.same h nid ?_⟩
      · cases t <;> simp [execOp, h1, asBool]
      · cases t
        · exact hρ b
        · exact hρ a
    · cases hr
theorem aop_alloc (t : TypeId) (hr : aop C pb ev ob nid (.alloc t) = some (r, ob')) (h : Rel m lb G w ob nx) (hn : m nid = none) (hnx : nid < nx) (hρ : ∀ x, VR m lb G w (ev x) (ρ x)) :
    ∃ v w', OpRun P (execOp ρ ⟨dst, .alloc t, ty, pos, after, guard⟩) w v w' ∧ Ok1 m lb G w ob nx nid r ob' v w' := by
    simp only [aop] at hr
    obtain ⟨v, w', h1, h2⟩ := run_aAlloc C.tok C.hone h hn hnx hr
    exact ⟨v, w', opRun_v h1, h2⟩
theorem aop_box (t : TypeId) (x : Operand) (hr : aop C pb ev ob nid (.box t x) = some (r, ob')) (h : Rel m lb G w ob nx) (hn : m nid = none) (hnx : nid < nx) (hρ : ∀ x, VR m lb G w (ev x) (ρ x)) :
    ∃ v w', OpRun P (execOp ρ ⟨dst, .box t x, ty, pos, after, guard⟩) w v w' ∧ Ok1 m lb G w ob nx nid r ob' v w' := by
    simp only [aop] at hr
    obtain ⟨v, w', h1, h2⟩ := run_aBox (P := P) h hn hnx t hr (hρ x)
    exact ⟨v, w', opRun_v h1, h2⟩
theorem aop_build (t : TypeId) (parts : Array (Nat × Operand)) (hr : aop C pb ev ob nid (.build t parts) = some (r, ob')) (h : Rel m lb G w ob nx) (hn : m nid = none) (hnx : nid < nx) (hρ : ∀ x, VR m lb G w (ev x) (ρ x)) :
    ∃ v w', OpRun P (execOp ρ ⟨dst, .build t parts, ty, pos, after, guard⟩) w v w' ∧ Ok1 m lb G w ob nx nid r ob' v w' := by
    simp only [aop] at hr
    obtain ⟨⟨ps, ob1⟩, h1, h2⟩ := Option.bind_eq_some_iff.1 hr
    obtain ⟨r', h3, h4⟩ := Option.map_eq_some_iff.1 h2
    cases h4
    have hp := PartsR.map hρ parts.toList
    have key : ∃ G', Frz m lb G w ob nx G' ob1 ∧ PartsR m lb G' w ps (parts.toList.map fun p => (p.1, ρ p.2)) := by
      split at h1
      · exact purParts_of h1 h hp
      · cases h1; exact ⟨G, Frz.refl h, hp⟩
    obtain ⟨G', hz, hps⟩ := key
    obtain ⟨u, h5, h6⟩ := run_aBuild (P := P) C.tok h3 (ps := parts.map fun p => (p.1, ρ p.2)) (by simpa using hps)
    rw [parts_eta] at h5
    exact ⟨u, w, opRun_v h5, hz.ok1 (Ok1.same hz.1 nid h6)⟩
theorem aop_buildSlice (t : TypeId) (len : Nat) (parts : Array (Nat × Operand)) (hr : aop C pb ev ob nid (.buildSlice t len parts) = some (r, ob')) (h : Rel m lb G w ob nx) (hn : m nid = none) (hnx : nid < nx) (hρ : ∀ x, VR m lb G w (ev x) (ρ x)) :
    ∃ v w', OpRun P (execOp ρ ⟨dst, .buildSlice t len parts, ty, pos, after, guard⟩) w v w' ∧ Ok1 m lb G w ob nx nid r ob' v w' := by
    simp only [aop] at hr
    obtain ⟨⟨ps, ob1⟩, h1, h2⟩ := Option.bind_eq_some_iff.1 hr
    have hp := PartsR.map hρ parts.toList
    have key : ∃ G', Frz m lb G w ob nx G' ob1 ∧ PartsR m lb G' w ps (parts.toList.map fun p => (p.1, ρ p.2)) := by
      split at h1
      · exact purParts_of h1 h hp
      · cases h1; exact ⟨G, Frz.refl h, hp⟩
    obtain ⟨G', hz, hps⟩ := key
    obtain ⟨u, w', h5, h6⟩ := run_aBuildSlice (P := P) C.tok C.hone hz.1 hn hnx h2 (ps := parts.map fun p => (p.1, ρ p.2)) (by simpa using hps)
    rw [parts_eta] at h5
    exact ⟨u, w', opRun_v h5, hz.ok1 h6⟩
theorem aop_load (t : TypeId) (a : Operand) (hr : aop C pb ev ob nid (.load t a) = some (r, ob')) (h : Rel m lb G w ob nx) (hn : m nid = none) (hnx : nid < nx) (hρ : ∀ x, VR m lb G w (ev x) (ρ x)) :
    ∃ v w', OpRun P (execOp ρ ⟨dst, .load t a, ty, pos, after, guard⟩) w v w' ∧ Ok1 m lb G w ob nx nid r ob' v w' := by
    simp only [aop] at hr
    obtain ⟨r', h1, h2⟩ := Option.map_eq_some_iff.1 hr
    cases h2
    obtain ⟨u, h3, h4⟩ := run_aLoad C.tok h h1 (hρ a)
    exact ⟨u, w, opRun_v h3, Ok1.same h nid h4⟩
theorem aop_store (t : TypeId) (a x : Operand) (hr : aop C pb ev ob nid (.store t a x) = some (r, ob')) (h : Rel m lb G w ob nx) (hn : m nid = none) (hnx : nid < nx) (hρ : ∀ x, VR m lb G w (ev x) (ρ x)) :
    ∃ v w', OpRun P (execOp ρ ⟨dst, .store t a x, ty, pos, after, guard⟩) w v w' ∧ Ok1 m lb G w ob nx nid r ob' v w' := by
    simp only [aop] at hr
    obtain ⟨o', h1, h2⟩ := Option.map_eq_some_iff.1 hr
    cases h2
    obtain ⟨w', h3, h4, h5, h6⟩ := run_aStore C.tok h h1 (hρ a) (hρ x)
    exact ⟨undef, w', opRun_u h3, Ok1.of_touch h h4 h5 h6⟩
theorem aop_nilCheck (x : Operand) (hr : aop C pb ev ob nid (.nilCheck x) = some (r, ob')) (h : Rel m lb G w ob nx) (hn : m nid = none) (hnx : nid < nx) (hρ : ∀ x, VR m lb G w (ev x) (ρ x)) :
    ∃ v w', OpRun P (execOp ρ ⟨dst, .nilCheck x, ty, pos, after, guard⟩) w v w' ∧ Ok1 m lb G w ob nx nid r ob' v w' := by
    simp only [aop] at hr
    have hx := hρ x
    split at hr
    · rename_i id o hc
      cases hr
      rw [hc] at hx
      have hx2 := hx
      simp only [VR, AR] at hx2
      obtain ⟨e, hm, hx2⟩ := hx2
      exact ⟨ρ x, w, .inl (by simp [execOp, hx2]), Ok1.same h nid hx⟩
    · rename_i cs hc
      cases hr
      rw [hc] at hx
      have hx2 := hx
      simp only [VR, AR, SR] at hx2
      obtain ⟨b, o, vs, hx2, _⟩ := hx2
      exact ⟨ρ x, w, .inl (by simp [execOp, hx2]), Ok1.same h nid hx⟩
    · rename_i f a b hc
      cases hr
      rw [hc] at hx
      have hx2 := hx
      simp only [VR, AR] at hx2
      obtain ⟨us, vs, hx2, _⟩ := hx2
      exact ⟨ρ x, w, .inl (by simp [execOp, hx2]), Ok1.same h nid hx⟩
    · cases hr
theorem aop_binOp (op : BinOp) (t : TypeId) (x y : Operand) (t' : TypeId) (hr : aop C pb ev ob nid (.binOp op t x y t') = some (r, ob')) (h : Rel m lb G w ob nx) (hn : m nid = none) (hnx : nid < nx) (hρ : ∀ x, VR m lb G w (ev x) (ρ x)) :
    ∃ v w', OpRun P (execOp ρ ⟨dst, .binOp op t x y t', ty, pos, after, guard⟩) w v w' ∧ Ok1 m lb G w ob nx nid r ob' v w' := by
    simp only [aop] at hr
    obtain ⟨r', h1, h2⟩ := Option.map_eq_some_iff.1 hr
    cases h2
    obtain ⟨q, h3, h4, h5⟩ := run_aBinE C x y h1 h (hρ x) (hρ y)
    exact ⟨q, w, .inl (by simp [execOp, h3, h4]), Ok1.same h nid h5⟩
theorem aop_unOp (op : UnOp) (t : TypeId) (x : Operand) (hr : aop C pb ev ob nid (.unOp op t x) = some (r, ob')) (h : Rel m lb G w ob nx) (hn : m nid = none) (hnx : nid < nx) (hρ : ∀ x, VR m lb G w (ev x) (ρ x)) :
    ∃ v w', OpRun P (execOp ρ ⟨dst, .unOp op t x, ty, pos, after, guard⟩) w v w' ∧ Ok1 m lb G w ob nx nid r ob' v w' := by
    simp only [aop] at hr
    obtain ⟨r', h1, h2⟩ := Option.map_eq_some_iff.1 hr
    cases h2
    obtain ⟨q, h3, h4⟩ := run_aUn (P := P) h1 (hρ x)
    exact ⟨q, w, opRun_v h3, Ok1.same h nid h4⟩
theorem aop_convert (s d : TypeId) (x : Operand) (hr : aop C pb ev ob nid (.convert s d x) = some (r, ob')) (h : Rel m lb G w ob nx) (hn : m nid = none) (hnx : nid < nx) (hρ : ∀ x, VR m lb G w (ev x) (ρ x)) :
    ∃ v w', OpRun P (execOp ρ ⟨dst, .convert s d x, ty, pos, after, guard⟩) w v w' ∧ Ok1 m lb G w ob nx nid r ob' v w' := by
    simp only [aop, aConvE] at hr
    split at hr
    · rename_i r' h1
      cases hr
      obtain ⟨q, h3, h4⟩ := run_aConv (P := P) C.tok h1 (hρ x)
      exact ⟨q, w, opRun_v h3, Ok1.same h nid h4⟩
    · obtain ⟨q, w', h3, h4⟩ := run_aRunes (P := P) C.tok h hn hnx hr (hρ x)
      exact ⟨q, w', opRun_v h3, h4⟩
theorem aop_mapEntry (t : TypeId) (mp k : Operand) (hr : aop C pb ev ob nid (.mapEntry t mp k) = some (r, ob')) (h : Rel m lb G w ob nx) (hn : m nid = none) (hnx : nid < nx) (hρ : ∀ x, VR m lb G w (ev x) (ρ x)) :
    ∃ v w', OpRun P (execOp ρ ⟨dst, .mapEntry t mp k, ty, pos, after, guard⟩) w v w' ∧ Ok1 m lb G w ob nx nid r ob' v w' := by
    simp only [aop] at hr
    obtain ⟨v, w', h3, h4, h5, h6, h7⟩ := run_aMapEntry C.tok h hr (hρ mp) (hρ k)
    exact ⟨v, w', opRun_v h3, ⟨m, G, h4, h5, h6, fun i _ hm => ⟨hm, h7 i hm⟩⟩⟩
theorem aop_entryStore (t : TypeId) (mp s x : Operand) (hr : aop C pb ev ob nid (.entryStore t mp s x) = some (r, ob')) (h : Rel m lb G w ob nx) (hn : m nid = none) (hnx : nid < nx) (hρ : ∀ x, VR m lb G w (ev x) (ρ x)) :
    ∃ v w', OpRun P (execOp ρ ⟨dst, .entryStore t mp s x, ty, pos, after, guard⟩) w v w' ∧ Ok1 m lb G w ob nx nid r ob' v w' := by
    simp only [aop] at hr
    obtain ⟨o', h1, h2⟩ := Option.map_eq_some_iff.1 hr
    cases h2
    obtain ⟨w', h3, h4, h5, h6⟩ := run_aEntryStore (t := t) h h1 (hρ mp) (hρ s) (hρ x)
    exact ⟨undef, w', opRun_u h3, Ok1.of_touch h h4 h5 h6⟩
theorem aop_makeFunc (f : FuncId) (first caps : Array Operand) (hr : aop C pb ev ob nid (.makeFunc (.func f) first caps) = some (r, ob')) (h : Rel m lb G w ob nx) (hn : m nid = none) (hnx : nid < nx) (hρ : ∀ x, VR m lb G w (ev x) (ρ x)) :
    ∃ v w', OpRun P (execOp ρ ⟨dst, .makeFunc (.func f) first caps, ty, pos, after, guard⟩) w v w' ∧ Ok1 m lb G w ob nx nid r ob' v w' := by
    simp only [aop] at hr
    obtain ⟨a, h1, h2⟩ := Option.bind_eq_some_iff.1 hr
    obtain ⟨b, h3, h4⟩ := Option.map_eq_some_iff.1 h2
    cases h4
    refine ⟨.func (.func f) (first.map ρ) (caps.map ρ), w, opRun_v rfl, Ok1.same h nid ?_⟩
    simp only [VR, AR]
    exact ⟨first.toList.map ρ, caps.toList.map ρ, by rw [← Array.toList_map, ← Array.toList_map], avs_of h1 (VRs.map hρ _), avs_of h3 (VRs.map hρ _)⟩
theorem aop_makeMap (t : TypeId) (hr : aop C pb ev ob nid (.makeMap t none) = some (r, ob')) (h : Rel m lb G w ob nx) (hn : m nid = none) (hnx : nid < nx) (hρ : ∀ x, VR m lb G w (ev x) (ρ x)) :
    ∃ v w', OpRun P (execOp ρ ⟨dst, .makeMap t none, ty, pos, after, guard⟩) w v w' ∧ Ok1 m lb G w ob nx nid r ob' v w' := by
    simp only [aop] at hr
    cases hr
    obtain ⟨h1, h2⟩ := h.newMap (w' := w.alloc (.map #[] 0)) nid hn (Nat.le_refl _) hnx rfl rfl rfl rfl
    refine ⟨.map (some w.heap.size), w.alloc (.map #[] 0), opRun_v (s := Instr.makeMap t none) rfl, ⟨_, G, ?_, h1, h2, fun i hi hm => ⟨by rw [upd_ne _ _ hi]; exact hm, upd_ne _ _ hi⟩⟩⟩
    simp only [VR, AR]
    exact ⟨_, upd_same _ _ _, rfl⟩
theorem aop_makeSlice (t : TypeId) (l c : Operand) (hr : aop C pb ev ob nid (.makeSlice t l c) = some (r, ob')) (h : Rel m lb G w ob nx) (hn : m nid = none) (hnx : nid < nx) (hρ : ∀ x, VR m lb G w (ev x) (ρ x)) :
    ∃ v w', OpRun P (execOp ρ ⟨dst, .makeSlice t l c, ty, pos, after, guard⟩) w v w' ∧ Ok1 m lb G w ob nx nid r ob' v w' := by
    simp only [aop] at hr
    obtain ⟨v, w', h1, h2⟩ := run_aMake C.tok C.hone h hn hnx hr (hρ l) (hρ c)
    exact ⟨v, w', opRun_v h1, h2⟩
theorem aop_slice (t : TypeId) (x : Operand) (lo hi : Option Operand) (hr : aop C pb ev ob nid (.slice t x lo hi none) = some (r, ob')) (h : Rel m lb G w ob nx) (hn : m nid = none) (hnx : nid < nx) (hρ : ∀ x, VR m lb G w (ev x) (ρ x)) :
    ∃ v w', OpRun P (execOp ρ ⟨dst, .slice t x lo hi none, ty, pos, after, guard⟩) w v w' ∧ Ok1 m lb G w ob nx nid r ob' v w' := by
    simp only [aop] at hr
    obtain ⟨r', h1, h2⟩ := Option.map_eq_some_iff.1 hr
    cases h2
    obtain ⟨q, h3, h4⟩ := run_aSlice (P := P) C.tok h1 (hρ x) (bndR_of hρ lo) (bndR_of hρ hi)
    exact ⟨q, w, opRun_v h3, Ok1.same h nid h4⟩
theorem aop_fieldAddr (t : TypeId) (x : Operand) (f : Nat) (hr : aop C pb ev ob nid (.fieldAddr t x f) = some (r, ob')) (h : Rel m lb G w ob nx) (hn : m nid = none) (hnx : nid < nx) (hρ : ∀ x, VR m lb G w (ev x) (ρ x)) :
    ∃ v w', OpRun P (execOp ρ ⟨dst, .fieldAddr t x f, ty, pos, after, guard⟩) w v w' ∧ Ok1 m lb G w ob nx nid r ob' v w' := by
    simp only [aop] at hr
    obtain ⟨r', h1, h2⟩ := Option.map_eq_some_iff.1 hr
    cases h2
    obtain ⟨q, h3, h4⟩ := run_aField (P := P) C.tok h1 (hρ x)
    exact ⟨q, w, opRun_v h3, Ok1.same h nid h4⟩
theorem aop_field (t : TypeId) (x : Operand) (f : Nat) (hr : aop C pb ev ob nid (.field t x f) = some (r, ob')) (h : Rel m lb G w ob nx) (hn : m nid = none) (hnx : nid < nx) (hρ : ∀ x, VR m lb G w (ev x) (ρ x)) :
    ∃ v w', OpRun P (execOp ρ ⟨dst, .field t x f, ty, pos, after, guard⟩) w v w' ∧ Ok1 m lb G w ob nx nid r ob' v w' := by
    simp only [aop] at hr
    obtain ⟨r', h1, h2⟩ := Option.map_eq_some_iff.1 hr
    cases h2
    obtain ⟨q, h3, h4⟩ := run_aFieldV (P := P) C.tok h1 (hρ x)
    exact ⟨q, w, opRun_v h3, Ok1.same h nid h4⟩
theorem aop_indexAddr (t : TypeId) (x i : Operand) (hr : aop C pb ev ob nid (.indexAddr t x i) = some (r, ob')) (h : Rel m lb G w ob nx) (hn : m nid = none) (hnx : nid < nx) (hρ : ∀ x, VR m lb G w (ev x) (ρ x)) :
    ∃ v w', OpRun P (execOp ρ ⟨dst, .indexAddr t x i, ty, pos, after, guard⟩) w v w' ∧ Ok1 m lb G w ob nx nid r ob' v w' := by
    simp only [aop] at hr
    obtain ⟨r', h1, h2⟩ := Option.map_eq_some_iff.1 hr
    cases h2
    obtain ⟨q, h3, h4⟩ := run_aIndex (P := P) C.tok h1 (hρ x) (hρ i)
    exact ⟨q, w, opRun_v h3, Ok1.same h nid h4⟩
theorem aop_index (t : TypeId) (x i : Operand) (hr : aop C pb ev ob nid (.index t x i) = some (r, ob')) (h : Rel m lb G w ob nx) (hn : m nid = none) (hnx : nid < nx) (hρ : ∀ x, VR m lb G w (ev x) (ρ x)) :
    ∃ v w', OpRun P (execOp ρ ⟨dst, .index t x i, ty, pos, after, guard⟩) w v w' ∧ Ok1 m lb G w ob nx nid r ob' v w' := by
    simp only [aop] at hr
    obtain ⟨r', h1, h2⟩ := Option.map_eq_some_iff.1 hr
    cases h2
    obtain ⟨q, h3, h4⟩ := run_aIndexV (P := P) C.tok h1 (hρ x) (hρ i)
    exact ⟨q, w, opRun_v h3, Ok1.same h nid h4⟩
theorem aop_lookup (t : TypeId) (mp k : Operand) (ok : Bool) (hr : aop C pb ev ob nid (.lookup t mp k ok) = some (r, ob')) (h : Rel m lb G w ob nx) (hn : m nid = none) (hnx : nid < nx) (hρ : ∀ x, VR m lb G w (ev x) (ρ x)) :
    ∃ v w', OpRun P (execOp ρ ⟨dst, .lookup t mp k ok, ty, pos, after, guard⟩) w v w' ∧ Ok1 m lb G w ob nx nid r ob' v w' := by
    simp only [aop] at hr
    obtain ⟨r', h1, h2⟩ := Option.map_eq_some_iff.1 hr
    cases h2
    obtain ⟨q, h3, h4⟩ := run_aLookup C.tok h h1 (hρ mp) (hρ k)
    exact ⟨q, w, opRun_v h3, Ok1.same h nid h4⟩
theorem aop_mapUpdate (t : TypeId) (mp k x : Operand) (hr : aop C pb ev ob nid (.mapUpdate t mp k x) = some (r, ob')) (h : Rel m lb G w ob nx) (hn : m nid = none) (hnx : nid < nx) (hρ : ∀ x, VR m lb G w (ev x) (ρ x)) :
    ∃ v w', OpRun P (execOp ρ ⟨dst, .mapUpdate t mp k x, ty, pos, after, guard⟩) w v w' ∧ Ok1 m lb G w ob nx nid r ob' v w' := by
    simp only [aop] at hr
    obtain ⟨o', h1, h2⟩ := Option.map_eq_some_iff.1 hr
    cases h2
    obtain ⟨w', h3, h4, h5, h6⟩ := run_aMapUpdate C.tok h h1 (hρ mp) (hρ k) (hρ x)
    exact ⟨undef, w', opRun_u h3, Ok1.of_touch h h4 h5 h6⟩
theorem aop_extract (x : Operand) (i : Nat) (hr : aop C pb ev ob nid (.extract x i) = some (r, ob')) (h : Rel m lb G w ob nx) (hn : m nid = none) (hnx : nid < nx) (hρ : ∀ x, VR m lb G w (ev x) (ρ x)) :
    ∃ v w', OpRun P (execOp ρ ⟨dst, .extract x i, ty, pos, after, guard⟩) w v w' ∧ Ok1 m lb G w ob nx nid r ob' v w' := by
    simp only [aop] at hr
    obtain ⟨r', h1, h2⟩ := Option.map_eq_some_iff.1 hr
    cases h2
    obtain ⟨q, h3, h4⟩ := run_aExtract (P := P) h1 (hρ x)
    exact ⟨q, w, opRun_v h3, Ok1.same h nid h4⟩
theorem aop_call (c : Call) (hr : aop C pb ev ob nid (.call c) = some (r, ob')) (h : Rel m lb G w ob nx) (hn : m nid = none) (hnx : nid < nx) (hρ : ∀ x, VR m lb G w (ev x) (ρ x)) :
    ∃ v w', OpRun P (execOp ρ ⟨dst, .call c, ty, pos, after, guard⟩) w v w' ∧ Ok1 m lb G w ob nx nid r ob' v w' := by
    simp only [aop] at hr
    split at hr
    · rename_i b hb
      have hargs := VRs.map hρ c.args.toList
      obtain ⟨v, w', h1, h2⟩ := aBuiltin_of C (ty := ty) (cs := c.args.map fun | .const _ => true | _ => false) (vs := c.args.map ρ) hr h hn hnx (by simpa using hargs)
      refine ⟨v, w', ?_, h2⟩
      have e : ∀ w, (execOp ρ ⟨dst, .call c, ty, pos, after, guard⟩).run P w = (builtin b c.argTypes ty (c.args.map fun | .const _ => true | _ => false) (c.args.map ρ)).run P w := by
        intro w
        simp only [execOp, resolve, hb, invoke, Sem.run_bind, Sem.run_pure, Result.andThen_ok]
        rfl
      unfold OpRun
      rw [e]
      exact h1
    · cases hr
end
theorem aop_of (C : Cfg P) {pb : Bool} {o : Oper} {ev : Operand → Va} {ρ : Operand → Value} {nid : Nat} {r : Va} {ob' : Nat → Obj} (hr : aop C pb ev ob nid o.op = some (r, ob'))
    (h : Rel m lb G w ob nx) (hn : m nid = none) (hnx : nid < nx) (hρ : ∀ x, VR m lb G w (ev x) (ρ x)) : ∃ v w', OpRun P (execOp ρ o) w v w' ∧ Ok1 m lb G w ob nx nid r ob' v w' := by
  obtain ⟨dst, op, ty, pos, after, guard⟩ := o
  simp only at hr
  cases op with
  | move x => exact aop_move C dst ty pos after guard x hr h hn hnx hρ
  | assign x => exact aop_assign C dst ty pos after guard x hr h hn hnx hρ
  | pick c a b => exact aop_pick C dst ty pos after guard c a b hr h hn hnx hρ
  | alloc t => exact aop_alloc C dst ty pos after guard t hr h hn hnx hρ
  | box t x => exact aop_box C dst ty pos after guard t x hr h hn hnx hρ
  | build t parts => exact aop_build C dst ty pos after guard t parts hr h hn hnx hρ
  | buildSlice t len parts => exact aop_buildSlice C dst ty pos after guard t len parts hr h hn hnx hρ
  | load t a => exact aop_load C dst ty pos after guard t a hr h hn hnx hρ
  | store t a x => exact aop_store C dst ty pos after guard t a x hr h hn hnx hρ
  | nilCheck x => exact aop_nilCheck C dst ty pos after guard x hr h hn hnx hρ
  | binOp op t x y t' => exact aop_binOp C dst ty pos after guard op t x y t' hr h hn hnx hρ
  | unOp op t x => exact aop_unOp C dst ty pos after guard op t x hr h hn hnx hρ
  | convert s d x => exact aop_convert C dst ty pos after guard s d x hr h hn hnx hρ
  | makeSlice t l c => exact aop_makeSlice C dst ty pos after guard t l c hr h hn hnx hρ
  | fieldAddr t x f => exact aop_fieldAddr C dst ty pos after guard t x f hr h hn hnx hρ
  | field t x f => exact aop_field C dst ty pos after guard t x f hr h hn hnx hρ
  | indexAddr t x i => exact aop_indexAddr C dst ty pos after guard t x i hr h hn hnx hρ
  | index t x i => exact aop_index C dst ty pos after guard t x i hr h hn hnx hρ
  | lookup t mp k ok => exact aop_lookup C dst ty pos after guard t mp k ok hr h hn hnx hρ
  | mapUpdate t mp k x => exact aop_mapUpdate C dst ty pos after guard t mp k x hr h hn hnx hρ
  | mapEntry t mp k => exact aop_mapEntry C dst ty pos after guard t mp k hr h hn hnx hρ
  | entryStore t mp s x => exact aop_entryStore C dst ty pos after guard t mp s x hr h hn hnx hρ
  | extract x i => exact aop_extract C dst ty pos after guard x i hr h hn hnx hρ
  | call c => exact aop_call C dst ty pos after guard c hr h hn hnx hρ
  | makeFunc fn first caps =>
    cases fn with
    | func f => exact aop_makeFunc C dst ty pos after guard f first caps hr h hn hnx hρ
    | _ => simp only [aop] at hr; cases hr
  | makeMap t q =>
    cases q with
    | none => exact aop_makeMap C dst ty pos after guard t hr h hn hnx hρ
    | some x => simp only [aop] at hr; cases hr
  | slice t x lo hi mx =>
    cases mx with
    | none => exact aop_slice C dst ty pos after guard t x lo hi hr h hn hnx hρ
    | some y => simp only [aop] at hr; cases hr
  | _ => simp only [aop] at hr; cases hr
end
end Go.Am
/-
  Am, part M: a frame's state, and what a piece of code does to it (AW): the rules for the control forms.
-/
namespace Go.Am

/-- The loops over functions that are under way: where their records lie, and what does not turn in them. -/
structure Loops where
  lb : Nat → Option Nat
  rc : Nat → Loop
  sl : Nat → Slots
  nm : ∀ l b, lb l = some b → b = l
inductive LSt where
  | ready | busy | over (c : Code)
/-- The store, the next name, and how it stands with each loop. -/
structure Me where
  ob : Nat → Obj
  nx : Nat
  ls : Nat → LSt
def LSt.rec' (r : Loop) : LSt → Loop
  | .ready => { r with state := .ready, pending := none }
  | .busy => { r with state := .busy, pending := none }
  | .over c => { r with state := .done, pending := some c }
def Loops.at (L : Loops) (ls : Nat → LSt) (l : Nat) : Loop := (ls l).rec' (L.rc l)

structure WR (L : Loops) (m : Nat → Option Ent) (G : Nat → Nat → Prop) (w : World) (s : Me) : Prop where
  rel : Rel m L.lb G w s.ob s.nx
  loops : ∀ l b, L.lb l = some b → w.heap[b]? = some (.loop (L.at s.ls l))
  tm : ∀ l b, L.lb l = some b → ∀ t, VR m L.lb G w (get (L.sl l) t) ((L.rc l).tmps.getD t undef)

/-- The memory has gone on; what is neither ours nor a loop's lies as it lay. -/
structure Ev (L : Loops) (m : Nat → Option Ent) (G : Nat → Nat → Prop) (w : World) (m' : Nat → Option Ent) (G' : Nat → Nat → Prop) (w' : World) : Prop where
  on : On m L.lb G w m' L.lb G' w'
  os : w'.os = w.os
  tape : w'.tape = w.tape
  output : w'.output = w.output
  size : w.heap.size ≤ w'.heap.size
  old : ∀ b : Nat, b < w.heap.size → (∀ id e, m id = some e → e.b ≠ b) → (∀ l, L.lb l ≠ some b) → w'.heap[b]? = w.heap[b]?
  new : ∀ id e, m' id = some e → (∃ i f, m i = some f ∧ f.b = e.b) ∨ w.heap.size ≤ e.b

section
variable {L : Loops} {m m' m'' : Nat → Option Ent} {G G' G'' : Nat → Nat → Prop} {w w' w'' : World} {s s' : Me}
theorem Ev.refl : Ev L m G w m G w := ⟨On.refl, rfl, rfl, rfl, Nat.le_refl _, fun _ _ _ _ => rfl, fun id e h => .inl ⟨id, e, h, rfl⟩⟩
theorem Ev.trans (h : Ev L m G w m' G' w') (k : Ev L m' G' w' m'' G'' w'') : Ev L m G w m'' G'' w'' := by
  refine ⟨h.on.trans k.on, k.os.trans h.os, k.tape.trans h.tape, k.output.trans h.output, Nat.le_trans h.size k.size, fun b hb hm hl => ?_, fun id e he => ?_⟩
  · refine (k.old b (Nat.lt_of_lt_of_le hb h.size) (fun id e he => ?_) hl).trans (h.old b hb hm hl)
    rcases h.new id e he with ⟨i, f, hf, hfb⟩ | hge
    · exact hfb ▸ hm i f hf
    · omega
  · rcases k.new id e he with ⟨i, f, hf, hfb⟩ | hge
    · rcases h.new i f hf with ⟨i2, f2, hf2, hfb2⟩ | hge
      · exact .inl ⟨i2, f2, hf2, hfb2.trans hfb⟩
      · exact .inr (by omega)
    · exact .inr (Nat.le_trans h.size hge)
theorem Evo.ev (h : Evo m L.lb G w m' G' w') : Ev L m G w m' G' w' := ⟨h.on, h.os, h.tape, h.output, h.size, fun b hb hm _ => h.old b hb hm, h.new⟩
theorem WR.evo (h : WR L m G w s) (hr : Rel m' L.lb G' w' s'.ob s'.nx) (he : Evo m L.lb G w m' G' w') (hls : s'.ls = s.ls) : WR L m' G' w' s' :=
  ⟨hr, fun l b hl => by rw [hls]; exact (he.old b (h.rel.ll l b hl).1 (fun id e hm => (h.rel.ll l b hl).2 id e hm)).trans (h.loops l b hl), fun l b hl t => VR.on he.on (h.tm l b hl t)⟩
/-- Objects that are not there may be told of in any way. -/
theorem Rel.agree {lb : Nat → Option Nat} {ob ob' : Nat → Obj} {nx nx' : Nat} (h : Rel m lb G w ob nx) (hb : ∀ i, m i ≠ none → ob' i = ob i) (hn : nx ≤ nx') : Rel m lb G w ob' nx' :=
  ⟨fun id e he => by rw [hb id (by simp [he])]; exact h.obj id e he,
   fun i j e f he hf hi hj hef => h.inj i j e f he hf (by rwa [hb i (by simp [he])] at hi) (by rwa [hb j (by simp [hf])] at hj) hef,
   h.glt, h.mlt, fun id hi => h.fresh id (by omega), h.ll⟩
theorem WR.agree (h : WR L m G w s) (hb : ∀ i, m i ≠ none → s'.ob i = s.ob i) (hn : s.nx ≤ s'.nx) (hl : s'.ls = s.ls) : WR L m G w s' :=
  ⟨h.rel.agree hb hn, by rw [hl]; exact h.loops, h.tm⟩
theorem WR.loopsAs (h : WR L m G w s) (hb : s'.ob = s.ob) (hn : s'.nx = s.nx) (hl : ∀ l b, L.lb l = some b → s'.ls l = s.ls l) : WR L m G w s' :=
  ⟨by rw [hb, hn]; exact h.rel, fun l b hlb => by have := h.loops l b hlb; simpa only [Loops.at, hl l b hlb] using this, h.tm⟩
theorem WR.lt (h : WR L m G w s) {i : Nat} (hi : m i ≠ none) : i < s.nx := by
  rcases Nat.lt_or_ge i s.nx with hl | hl
  · exact hl
  · exact absurd (h.rel.fresh i hl) hi

/-- The marks of this frame's loops over functions. -/
def DR (D0 : Nat) (L : Loops) (m : Nat → Option Ent) (w : World) : List Deferred → Prop
  | [] => True
  | d :: ds => (∃ D, d.target = .collected D ∧ D0 ≤ D ∧ w.heap[D]? = some (.deferred (some [])) ∧ (∀ id e, m id = some e → e.b ≠ D) ∧ (∀ l, L.lb l ≠ some D) ∧
      ∀ d' ∈ ds, d'.target ≠ .collected D) ∧ DR D0 L m w ds
theorem DR.ev {D0 : Nat} (he : Ev L m G w m' G' w') : ∀ {ds : List Deferred}, DR D0 L m w ds → DR D0 L m' w' ds
  | [], _ => trivial
  | d :: ds, ⟨⟨D, h1, h2, h3, h4, h5, h6⟩, h7⟩ => by
    have hlt : D < w.heap.size := (Array.getElem?_eq_some_iff.1 h3).1
    refine ⟨⟨D, h1, h2, (he.old D hlt h4 h5).trans h3, fun id e hm => ?_, h5, h6⟩, DR.ev he h7⟩
    rcases he.new id e hm with ⟨i, f, hf, hfb⟩ | hge
    · exact hfb ▸ h4 i f hf
    · omega

/-- What does not turn in a frame: the round's loop, how many temporaries, the first block and the first name of its own, the loops about. -/
structure Fr where
  r : Option Nat
  nt : Nat
  D0 : Nat
  n0 : Nat
  L : Loops
structure FS (X : Fr) (m : Nat → Option Ent) (G : Nat → Nat → Prop) (sl : Slots) (s : Me) (a : Act) (w : World) : Prop where
  size : a.tmps.size = X.nt
  slots : ∀ t, VR m X.L.lb G w (get sl t) (a.tmps.getD t undef)
  wr : WR X.L m G w s
  dr : DR X.D0 X.L m w a.defers
  d0 : X.D0 ≤ w.heap.size
  n0 : X.n0 ≤ s.nx
end

theorem constA_of {m : Nat → Option Ent} {lb : Nat → Option Nat} {G : Nat → Nat → Prop} {w : World} (v : Value) : VR m lb G w (constA v) v := by
  unfold constA
  split <;> simp [VR, AR, SR]
theorem evA_of {m : Nat → Option Ent} {lb : Nat → Option Nat} {G : Nat → Nat → Prop} {w : World} {sl : Slots} {a : Act} (h : ∀ t, VR m lb G w (get sl t) (a.tmps.getD t undef)) (x : Operand) :
    VR m lb G w (evA sl x) (a.eval x) := by
  cases x with
  | tmp t => exact h t
  | const v => exact constA_of v
  | global g => simp [evA, VR]
  | func f =>
    simp only [evA, Act.eval, VR, AR, ARs]
    exact ⟨[], [], rfl, rfl, rfl⟩

/-- The fence: none but for the loop whose round this is. -/
def Fw (r : Option Nat) : Fence := { fn := fun _ => True, depth := none, alive := false, round := r }
theorem Fw_none : Fw none = Fence.wide := rfl
theorem Fw_fn (r : Option Nat) (f : FuncId) : (Fw r).fn f := trivial
theorem Fw_round (r : Option Nat) : (Fw r).round = r := rfl
theorem Fw_inRound (l : Nat) : (Fw none).inRound l = Fw (some l) := rfl

def Post (X : Fr) (m : Nat → Option Ent) (G : Nat → Nat → Prop) (w : World) (Q : Exit → Slots → Me → Prop) : Exit → Act → World → Prop := fun e a' w' =>
  ∃ sl' s' m' G', Q e sl' s' ∧ FS X m' G' sl' s' a' w' ∧ Ev X.L m G w m' G' w' ∧ ∀ i, i < X.n0 → m i = none → m' i = none
/-- What a piece of code does. -/
def AW (P : Program) (X : Fr) (c : Code) (Q : Exit → Slots → Me → Prop) (sl : Slots) (s : Me) : Prop :=
  ∀ m G a w, FS X m G sl s a w → c.wpIn (Fw X.r) 0 P (Post X m G w Q) a w
/-- What is left as it is known at least. -/
def thenA (K : Slots → Me → Prop) (Q : Exit → Slots → Me → Prop) : Exit → Slots → Me → Prop
  | .normal, sl, s => K sl s
  | e, sl, s => Q e sl s
def blockA (id : Nat) (Q : Exit → Slots → Me → Prop) : Exit → Slots → Me → Prop
  | .exit i, sl, s => if i = id then Q .normal sl s else Q (.exit i) sl s
  | e, sl, s => Q e sl s
@[simp] theorem thenA_normal {K : Slots → Me → Prop} {Q} {sl s} : thenA K Q .normal sl s = K sl s := rfl
@[simp] theorem thenA_ret {K : Slots → Me → Prop} {Q} {sl s} : thenA K Q .ret sl s = Q .ret sl s := rfl
@[simp] theorem thenA_exit {K : Slots → Me → Prop} {Q} {sl s} {i : Nat} : thenA K Q (.exit i) sl s = Q (.exit i) sl s := rfl
@[simp] theorem blockA_normal {i : Nat} {Q} {sl s} : blockA i Q .normal sl s = Q .normal sl s := rfl
@[simp] theorem blockA_ret {i : Nat} {Q} {sl s} : blockA i Q .ret sl s = Q .ret sl s := rfl
@[simp] theorem blockA_exit {i j : Nat} {Q} {sl s} : blockA i Q (.exit j) sl s = if j = i then Q .normal sl s else Q (.exit j) sl s := rfl

section
variable {P : Program} {X : Fr} {Q : Exit → Slots → Me → Prop} {sl : Slots} {s : Me}
theorem Post.mono {m : Nat → Option Ent} {G : Nat → Nat → Prop} {w : World} {Q Q' : Exit → Slots → Me → Prop} (h : ∀ e sl s, Q e sl s → Q' e sl s) {e : Exit} {a : Act} {w' : World} (hp : Post X m G w Q e a w') : Post X m G w Q' e a w' :=
  let ⟨sl', s', m', G', h1, h2, h3⟩ := hp; ⟨sl', s', m', G', h _ _ _ h1, h2, h3⟩
theorem Post.trans {m m' : Nat → Option Ent} {G G' : Nat → Nat → Prop} {w w' : World} (he : Ev X.L m G w m' G' w' ∧ ∀ i, i < X.n0 → m i = none → m' i = none) {e : Exit} {a : Act} {w'' : World} (hp : Post X m' G' w' Q e a w'') : Post X m G w Q e a w'' :=
  let ⟨sl', s', m'', G'', h1, h2, h3⟩ := hp; ⟨sl', s', m'', G'', h1, h2, he.1.trans h3.1, fun i hi hm => h3.2 i hi (he.2 i hi hm)⟩
theorem AW.mono {c : Code} {Q' : Exit → Slots → Me → Prop} (h : AW P X c Q sl s) (hq : ∀ e sl s, Q e sl s → Q' e sl s) : AW P X c Q' sl s :=
  fun m G a w hs => wpIn_mono (h m G a w hs) fun _ _ _ hp => hp.mono hq
theorem aw_skip (h : Q .normal sl s) : AW P X .skip Q sl s := fun m G a w hs => wpIn_skip ⟨sl, s, m, G, h, hs, Ev.refl, fun _ _ h => h⟩
theorem aw_label {l : Nat} (h : Q .normal sl s) : AW P X (.label l) Q sl s := fun m G a w hs => wpIn_label ⟨sl, s, m, G, h, hs, Ev.refl, fun _ _ h => h⟩
theorem aw_ret (h : Q .ret sl s) : AW P X .ret Q sl s := fun m G a w hs => wpIn_ret ⟨sl, s, m, G, h, hs, Ev.refl, fun _ _ h => h⟩
theorem aw_exit {id : Nat} (h : Q (.exit id) sl s) : AW P X (.exit id) Q sl s := fun m G a w hs => wpIn_exit ⟨sl, s, m, G, h, hs, Ev.refl, fun _ _ h => h⟩
theorem aw_seq {x y : Code} (h : AW P X x (thenA (fun sl s => AW P X y Q sl s) Q) sl s) : AW P X (x.seq y) Q sl s := fun m G a w hs => by
  refine wpIn_seq (wpIn_mono (h m G a w hs) fun e a' w' hp => ?_)
  obtain ⟨sl', s', m', G', h1, h2, h3⟩ := hp
  cases e with
  | normal => exact wpIn_mono (h1 m' G' a' w' h2) fun _ _ _ hp => hp.trans h3
  | _ => exact ⟨sl', s', m', G', h1, h2, h3⟩
theorem aw_cond {c : Operand} {x y : Code} {t : Bool} (hc : evA sl c = .av (.sc (.bool t))) (h1 : t = true → AW P X x Q sl s) (h2 : t = false → AW P X y Q sl s) :
    AW P X (.cond c x y) Q sl s := fun m G a w hs => by
  have := evA_of hs.slots c
  rw [hc] at this
  simp only [VR, AR, SR] at this
  exact wpIn_cond_split this (fun ht => h1 ht m G a w hs) (fun ht => h2 ht m G a w hs)
theorem aw_block {id : Nat} {c : Code} (h : AW P X c (blockA id Q) sl s) : AW P X (.block id c) Q sl s := fun m G a w hs => by
  refine wpIn_block (wpIn_mono (h m G a w hs) fun e a' w' hp => ?_)
  obtain ⟨sl', s', m', G', h1, h2, h3⟩ := hp
  cases e with
  | exit i =>
    simp only [blockA] at h1
    simp only [Exit.inBlock]
    split
    · rename_i hi; rw [if_pos hi] at h1; exact ⟨sl', s', m', G', h1, h2, h3⟩
    · rename_i hi; rw [if_neg hi] at h1; exact ⟨sl', s', m', G', h1, h2, h3⟩
  | _ => exact ⟨sl', s', m', G', h1, h2, h3⟩
/-- Slots of which less is known. -/
def Less (sl' sl : Slots) : Prop := ∀ t, get sl' t = .und ∨ get sl' t = get sl t
theorem FS.less {m : Nat → Option Ent} {G : Nat → Nat → Prop} {a : Act} {w : World} {sl' : Slots} (h : FS X m G sl s a w) (hl : Less sl' sl) : FS X m G sl' s a w :=
  ⟨h.size, fun t => by
    rcases hl t with h1 | h1
    · rw [h1]; simp [VR]
    · rw [h1]; exact h.slots t, h.wr, h.dr, h.d0, h.n0⟩
theorem AW.less {c : Code} {sl' : Slots} (hl : Less sl' sl) (h : AW P X c Q sl' s) : AW P X c Q sl s := fun m G a w hs => h m G a w (hs.less hl)
theorem AW.weaken {c : Code} (h : AW P X c (fun e sl' s' => ∃ sl'', Less sl'' sl' ∧ Q e sl'' s') sl s) : AW P X c Q sl s := fun m G a w hs =>
  wpIn_mono (h m G a w hs) fun e a' w' hp => by
    obtain ⟨sl', s', m', G', ⟨sl'', h0, h1⟩, h2, h3⟩ := hp
    exact ⟨sl'', s', m', G', h1, h2.less h0, h3⟩
/-- All that is told of slots, holds. -/
def AllIn (sl : Slots) : Slots → Prop
  | [] => True
  | (t, v) :: l => get sl t = v ∧ AllIn sl l
theorem AllIn.less {sl : Slots} : ∀ {sl' : Slots}, AllIn sl sl' → Less sl' sl
  | [], _, t => .inl rfl
  | (k, v) :: l, ⟨h1, h2⟩, t => by
    simp only [get]
    split
    · rename_i hk; subst hk; exact .inr h1.symm
    · exact AllIn.less h2 t
theorem rounds_more {F : Fence} {n : Nat} {c : Code} {Q : Exit → Act → World → Prop} (d : Nat) : ∀ k a w, Code.roundsIn F n P c Q k a w → Code.roundsIn F n P c Q (k + d) a w
  | 0, _, _, h => h.elim
  | k + 1, a, w, h => by
    rw [show k + 1 + d = (k + d) + 1 by omega]
    simp only [Code.roundsIn] at h ⊢
    refine wpIn_mono h fun e a' w' hp => ?_
    cases e with
    | normal => exact rounds_more d k a' w' hp
    | _ => exact hp
/-- A loop, by an invariant whose number falls. -/
theorem aw_loop {c : Code} (I : Nat → Slots → Me → Prop) {k : Nat} (h0 : I k sl s)
    (h : ∀ k sl s, I k sl s → AW P X c (thenA (fun sl' s' => ∃ k' sl'', k' < k ∧ Less sl'' sl' ∧ I k' sl'' s') Q) sl s) : AW P X (.loop c) Q sl s := fun m G a w hs => by
  let J : Nat → Act → World → Prop := fun k a' w' => ∃ sl' s' m' G', I k sl' s' ∧ FS X m' G' sl' s' a' w' ∧ Ev X.L m G w m' G' w' ∧ ∀ i, i < X.n0 → m i = none → m' i = none
  have key : ∀ k a' w', J k a' w' → Code.roundsIn (Fw X.r) 0 P c (Post X m G w Q) (k + 1) a' w' := by
    intro k
    induction k using Nat.strongRecOn with
    | _ k ih =>
      rintro a' w' ⟨sl', s', m', G', h1, h2, h3⟩
      simp only [Code.roundsIn]
      refine wpIn_mono (h k sl' s' h1 m' G' a' w' h2) fun e a'' w'' hp => ?_
      obtain ⟨sl3, s3, m3, G3, h4, h5, h6⟩ := hp
      cases e with
      | normal =>
        obtain ⟨k', sl'', h7, h8, h9⟩ := h4
        have := ih k' h7 a'' w'' ⟨sl'', s3, m3, G3, h9, h5.less h8, h3.1.trans h6.1, fun i hi hm => h6.2 i hi (h3.2 i hi hm)⟩
        simp only [Exit.then]
        obtain ⟨d, rfl⟩ : ∃ d, k = k' + 1 + d := ⟨k - (k' + 1), by omega⟩
        exact rounds_more d _ _ _ this
      | _ => exact ⟨sl3, s3, m3, G3, h4, h5, h3.1.trans h6.1, fun i hi hm => h6.2 i hi (h3.2 i hi hm)⟩
  exact wpIn_loop_rounds (_ + 1) (key _ a w ⟨sl, s, m, G, h0, hs, Ev.refl, fun _ _ h => h⟩)
end
end Go.Am
/-
  Am, part N: one operation, calls and all (OpT); a function's contract (Fn); a region in the text's order.
-/
namespace Go.Am

/-- A function's contract. -/
def FnL (P : Program) (L : Loops) (f : FuncId) (args : List Va) (s : Me) (R : Va → Me → Prop) : Prop :=
  ∀ m G w vs, VRs m L.lb G w args vs → WR L m G w s → CallsIn (Fw none) 0 P f vs.toArray w fun e w' =>
    ∃ v r s' m' G', e = .returned v ∧ R r s' ∧ VR m' L.lb G' w' r v ∧ WR L m' G' w' s' ∧ Ev L m G w m' G' w' ∧ s.nx ≤ s'.nx ∧ ∀ i, i < s.nx → m i = none → m' i = none
theorem FnL.mono {P : Program} {L : Loops} {f : FuncId} {args : List Va} {s : Me} {R R' : Va → Me → Prop} (h : FnL P L f args s R) (hr : ∀ r s, R r s → R' r s) : FnL P L f args s R' :=
  fun m G w vs h1 h2 => CallsIn.mono (h m G w vs h1 h2) fun e w' ⟨v, r, s', m', G', h3, h4, h5⟩ => ⟨v, r, s', m', G', h3, hr _ _ h4, h5⟩

def OpT (P : Program) (ro : Option Nat) (L : Loops) (o : Oper) (nid : Nat) (ev : Operand → Va) (s : Me) (K : Va → Me → Prop) : Prop :=
  ∀ m G (a : Act) w, (∀ x, VR m L.lb G w (ev x) (a.eval x)) → WR L m G w s → m nid = none → nid < s.nx →
    ∀ (next : Act → World → Prop) (Q : Exit → Act → World → Prop),
      (∀ u w' m' G' v s', K v s' → VR m' L.lb G' w' v u → WR L m' G' w' s' → Ev L m G w m' G' w' → s.nx ≤ s'.nx → (∀ i, i ≠ nid → i < s.nx → m i = none → m' i = none) → next (a.put o.dst u) w') →
      o.wpIn (Fw ro) 0 P a w next Q

section
variable {P : Program} {ro : Option Nat} {L : Loops}
theorem OpT.mono {o : Oper} {nid : Nat} {ev : Operand → Va} {s : Me} {K K' : Va → Me → Prop} (h : OpT P ro L o nid ev s K) (hk : ∀ v s, K v s → K' v s) : OpT P ro L o nid ev s K' :=
  fun m G a w h1 h2 h3 h4 next Q h5 => h m G a w h1 h2 h3 h4 next Q fun u w' m' G' v s' h6 => h5 u w' m' G' v s' (hk _ _ h6)

theorem aop_not_defer {C : Cfg P} {pb : Bool} {ev : Operand → Va} {ob : Nat → Obj} {nid : Nat} {op : Op} {x : Va × (Nat → Obj)} (h : aop C pb ev ob nid op = some x) : ∀ c, op ≠ .defer c := by
  intro c hc
  subst hc
  simp [aop] at h

theorem opT_aop (C : Cfg P) {pb : Bool} {o : Oper} {nid : Nat} {ev : Operand → Va} {s : Me} {v : Va} {ob' : Nat → Obj} (h : aop C pb ev s.ob nid o.op = some (v, ob')) :
    OpT P ro L o nid ev s fun v' s' => v' = v ∧ s' = { s with ob := ob' } := by
  intro m G a w h1 h2 h3 h4 next Q h5
  refine ⟨fun _ _ => trivial, ?_⟩
  rw [Oper.semAt_eq _ _ _ (aop_not_defer h)]
  obtain ⟨u, w', h6, m', G', h7, h8, h9, h10⟩ := aop_of C h h2.rel h3 h4 h1
  have hn : next (a.put o.dst u) w' := h5 u w' m' G' v { s with ob := ob' } ⟨rfl, rfl⟩ h7 (h2.evo h8 h9 rfl) h9.ev (Nat.le_refl _) fun i hi _ hm => (h10 i hi hm).1
  rcases h6 with h6 | ⟨h6, rfl⟩
  · rw [h6]; exact hn
  · rw [h6]; exact hn

/-- A function that can be called. -/
def Callable (P : Program) (f : FuncId) : Prop := ∀ args w, (callFunc f args).run P w = .ok (.enter f args) w
theorem callable_of {f : FuncId} {fn : Func} (h : P.funcs[f]? = some fn) (hn : (fn.name == "runtime.NumGoroutine") = false) (hb : fn.body.isNone = false) : Callable P f := by
  intro args w
  have hn' : ¬ (fn.name = "runtime.NumGoroutine") := by simpa using hn
  cases hbb : fn.body with
  | none => rw [hbb] at hb; simp at hb
  | some c => simp [callFunc, Sem.run_bind, program, Sem.run, Result.andThen, h, hn', hbb]

theorem VRs.append {m : Nat → Option Ent} {lb : Nat → Option Nat} {G : Nat → Nat → Prop} {w : World} : ∀ {xs ys : List Va} {us vs : List Value}, VRs m lb G w xs us → VRs m lb G w ys vs → VRs m lb G w (xs ++ ys) (us ++ vs)
  | [], _, _, _, h, k => by simp only [VRs] at h; subst h; exact k
  | x :: xs, _, _, _, h, k => by
    simp only [VRs] at h
    obtain ⟨u, us, rfl, h1, h2⟩ := h
    exact VRs.cons h1 (VRs.append h2 k)
theorem VRs.of_ars {m : Nat → Option Ent} {lb : Nat → Option Nat} {G : Nat → Nat → Prop} {w : World} : ∀ {xs : List Av} {us : List Value}, ARs m lb G w xs us → VRs m lb G w (xs.map .av) us
  | [], _, h => by simpa only [ARs, List.map_nil, VRs] using h
  | x :: xs, _, h => by
    simp only [ARs] at h
    obtain ⟨u, us, rfl, h1, h2⟩ := h
    exact VRs.cons (by simpa only [VR] using h1) (VRs.of_ars h2)

/-- A call of a function. -/
theorem opT_call {o : Oper} {c : Call} {g : Operand} {nid : Nat} {ev : Operand → Va} {s : Me} {f : FuncId} {first caps : List Av} {R : Va → Me → Prop} (ho : o.op = .call c) (hc : c.callee = .value g)
    (hg : ev g = .av (.fn f first caps)) (hf : Callable P f) (h : FnL P L f (first.map .av ++ c.args.toList.map ev ++ caps.map .av) s R) : OpT P ro L o nid ev s R := by
  intro m G a w h1 h2 h3 h4 next Q h5
  refine ⟨fun _ _ => trivial, ?_⟩
  rw [Oper.semAt_eq _ _ _ (by rw [ho]; simp)]
  have hgv := h1 g
  rw [hg] at hgv
  simp only [VR, AR] at hgv
  obtain ⟨us, vs, hv, hus, hvs⟩ := hgv
  have e : (execOp a.eval o).run P w = .ok (.enter f (us.toArray ++ c.args.map a.eval ++ vs.toArray)) w := by
    simp only [execOp, ho, resolve, hc, hv, Deferred.ofValue, invoke, Sem.run_bind, Sem.run_pure, Result.andThen_ok]
    rw [hf]
  rw [e]
  have hargs := ((VRs.of_ars hus).append (VRs.map h1 c.args.toList)).append (VRs.of_ars hvs)
  have := h m G w _ hargs h2
  rw [show ((us ++ c.args.toList.map a.eval ++ vs).toArray : Array Value) = us.toArray ++ c.args.map a.eval ++ vs.toArray by
    apply Array.toList_inj.1; simp] at this
  refine ⟨by simp [Fw], CallsIn.mono (F := Fw ro) (n := 0) this fun e w' he => ?_⟩
  obtain ⟨v, r, s', m', G', rfl, h6, h7, h8, h9, h10, h11⟩ := he
  exact h5 v w' m' G' r s' h6 h7 h8 h9 h10 fun i _ hi hm => h11 i hi hm

/-- One round of the loop l, on what is yielded. -/
def RoundL (P : Program) (L : Loops) (l : Nat) (xs : List Va) (s : Me) (K : Va → Me → Prop) : Prop :=
  ∀ m G w vs, VRs m L.lb G w xs vs → WR L m G w s → L.lb l = some l →
    RoundIn (Fw none) 0 P l (L.rc l).fn (((L.rc l).params.zip vs.toArray).foldl (fun tmps (t, a) => tmps.setIfInBounds t a) (L.rc l).tmps) (L.rc l).assign (L.rc l).body w fun e w' =>
      ∃ v r s' m' G', e = .returned v ∧ K r s' ∧ VR m' L.lb G' w' r v ∧ WR L m' G' w' s' ∧ Ev L m G w m' G' w' ∧ s.nx ≤ s'.nx ∧ ∀ i, i < s.nx → m i = none → m' i = none
theorem RoundL.mono {l : Nat} {xs : List Va} {s : Me} {K K' : Va → Me → Prop} (h : RoundL P L l xs s K) (hk : ∀ r s, K r s → K' r s) : RoundL P L l xs s K' :=
  fun m G w vs h1 h2 h3 => RoundIn.mono (h m G w vs h1 h2 h3) fun e w' ⟨v, r, s', m', G', h4, h5, h6⟩ => ⟨v, r, s', m', G', h4, hk _ _ h5, h6⟩
theorem at_params (ls : Nat → LSt) (l : Nat) : (L.at ls l).params = (L.rc l).params ∧ (L.at ls l).fn = (L.rc l).fn ∧ (L.at ls l).tmps = (L.rc l).tmps ∧ (L.at ls l).assign = (L.rc l).assign ∧ (L.at ls l).body = (L.rc l).body := by
  unfold Loops.at LSt.rec'
  split <;> exact ⟨rfl, rfl, rfl, rfl, rfl⟩
/-- A call of yield. -/
theorem opT_yield {ro : Option Nat} {o : Oper} {c : Call} {g : Operand} {nid : Nat} {ev : Operand → Va} {s : Me} {l : Nat} {K : Va → Me → Prop} (ho : o.op = .call c) (hc : c.callee = .value g)
    (hg : ev g = .av (.yl l)) (hn : c.args.size = (L.rc l).params.size) (h : RoundL P L l (c.args.toList.map ev) s K) : OpT P ro L o nid ev s K := by
  intro m G a w h1 h2 h3 h4 next Q h5
  refine ⟨fun _ _ => trivial, ?_⟩
  rw [Oper.semAt_eq _ _ _ (by rw [ho]; simp)]
  have hgv := h1 g
  rw [hg] at hgv
  simp only [VR, AR] at hgv
  obtain ⟨b, hb, hv⟩ := hgv
  have hbl := L.nm l b hb
  subst hbl
  obtain ⟨e1, e2, e3, e4, e5⟩ := at_params (L := L) s.ls b
  have hy := run_yield (P := P) (args := c.args.map a.eval) (h2.loops b b hb) (by rw [e1]; simpa using hn)
  rw [e1, e2, e3, e4, e5] at hy
  have e : (execOp a.eval o).run P w = .ok (.round b (L.rc b).fn (((L.rc b).params.zip (c.args.map a.eval)).foldl (fun tmps (t, a) => tmps.setIfInBounds t a) (L.rc b).tmps) (L.rc b).assign (L.rc b).body) w := by
    simp only [execOp, ho, resolve, hc, hv, Deferred.ofValue, invoke, Sem.run_bind, Sem.run_pure, Result.andThen_ok, Array.empty_append]
    exact hy
  rw [e]
  have := h m G w _ (VRs.map h1 c.args.toList) h2 hb
  rw [show (c.args.toList.map a.eval).toArray = c.args.map a.eval by apply Array.toList_inj.1; simp] at this
  refine ⟨by simp [Fw], RoundIn.mono (F := Fw ro) (n := 0) this fun e w' he => ?_⟩
  obtain ⟨v, r, s', m', G', rfl, h6, h7, h8, h9, h10, h11⟩ := he
  exact h5 v w' m' G' r s' h6 h7 h8 h9 h10 fun i _ hi hm => h11 i hi hm


/-- Arguments, some of them turned into plain data. -/
def PurArgs : (Nat → Obj) → List Va → List Va → (Nat → Obj) → Prop
  | ob, [], ys, ob' => ys = [] ∧ ob' = ob
  | ob, x :: xs, ys, ob' => ∃ y ys' ob1, ys = y :: ys' ∧ ((y = x ∧ ob1 = ob) ∨ purV ob x = some (y, ob1)) ∧ PurArgs ob1 xs ys' ob'
theorem PurArgs.refl : ∀ (ob : Nat → Obj) (xs : List Va), PurArgs ob xs xs ob
  | ob, [] => ⟨rfl, rfl⟩
  | ob, x :: xs => ⟨x, xs, ob, rfl, .inl ⟨rfl, rfl⟩, PurArgs.refl ob xs⟩
theorem PurArgs.keep {ob ob' : Nat → Obj} {x : Va} {xs ys : List Va} (h : PurArgs ob xs ys ob') : PurArgs ob (x :: xs) (x :: ys) ob' := ⟨x, ys, ob, rfl, .inl ⟨rfl, rfl⟩, h⟩
theorem PurArgs.pur {ob ob1 ob' : Nat → Obj} {x y : Va} {xs ys : List Va} (hp : purV ob x = some (y, ob1)) (h : PurArgs ob1 xs ys ob') : PurArgs ob (x :: xs) (y :: ys) ob' := ⟨y, ys, ob1, rfl, .inr hp, h⟩
theorem PurArgs.nil {ob : Nat → Obj} : PurArgs ob [] [] ob := ⟨rfl, rfl⟩
theorem purArgs_of {m : Nat → Option Ent} {lb : Nat → Option Nat} {w : World} {nx : Nat} : ∀ {xs ys : List Va} {G : Nat → Nat → Prop} {ob ob' : Nat → Obj} {us : List Value}, PurArgs ob xs ys ob' → Rel m lb G w ob nx → VRs m lb G w xs us →
    ∃ G', Frz m lb G w ob nx G' ob' ∧ VRs m lb G' w ys us
  | [], ys, G, ob, ob', us, ⟨h1, h2⟩, hr, hv => by subst h1 h2; exact ⟨G, Frz.refl hr, hv⟩
  | x :: xs, ys, G, ob, ob', us, ⟨y, ys', ob1, h1, h2, h3⟩, hr, hv => by
    subst h1
    simp only [VRs] at hv
    obtain ⟨u, us', rfl, hu, hus⟩ := hv
    have key : ∃ G1, Frz m lb G w ob nx G1 ob1 ∧ VR m lb G1 w y u := by
      rcases h2 with ⟨rfl, rfl⟩ | h2
      · exact ⟨G, Frz.refl hr, hu⟩
      · exact purV_of h2 hr hu
    obtain ⟨G1, hz, hy⟩ := key
    obtain ⟨G2, hz2, hys⟩ := purArgs_of h3 hz.1 (VRs.on hz.2.1.on hus)
    exact ⟨G2, hz.trans hz2, VRs.cons (VR.on hz2.2.1.on hy) hys⟩
theorem FnL.pur {f : FuncId} {xs ys : List Va} {s : Me} {ob' : Nat → Obj} {R : Va → Me → Prop} (hp : PurArgs s.ob xs ys ob') (h : FnL P L f ys ⟨ob', s.nx, s.ls⟩ R) : FnL P L f xs s R := by
  intro m G w vs hv hw
  obtain ⟨G', ⟨h1, h2, h3⟩, h4⟩ := purArgs_of hp hw.rel hv
  refine CallsIn.mono (h m G' w vs h4 (hw.evo (s' := ⟨ob', s.nx, s.ls⟩) h1 h2 rfl)) fun e w' he => ?_
  obtain ⟨v, r, s', m', G'', rfl, h5, h6, h7, h8, h9⟩ := he
  exact ⟨v, r, s', m', G'', rfl, h5, h6, h7, h2.ev.trans h8, h9⟩

/-- A call, by what its callee is. -/
def CallT (P : Program) (L : Loops) (op : Op) (ev : Operand → Va) (s : Me) (K : Va → Me → Prop) : Prop := match op with
  | .call c => match c.callee with
    | .value g => match ev g with
      | .av (.fn f first caps) => Callable P f ∧ FnL P L f (first.map .av ++ c.args.toList.map ev ++ caps.map .av) s K
      | .av (.yl l) => c.args.size = (L.rc l).params.size ∧ RoundL P L l (c.args.toList.map ev) s K
      | _ => False
    | _ => False
  | _ => False
theorem callT_mono {L : Loops} {ev : Operand → Va} {s : Me} {K K' : Va → Me → Prop} {op : Op} (h : CallT P L op ev s K) (hk : ∀ v s, K v s → K' v s) : CallT P L op ev s K' := by
  unfold CallT at h ⊢
  split at h
  · split at h
    · split at h
      · exact ⟨h.1, h.2.mono hk⟩
      · exact ⟨h.1, h.2.mono hk⟩
      · exact h.elim
    · exact h.elim
  · exact h.elim
theorem callT_of {ro : Option Nat} {o : Oper} {nid : Nat} {ev : Operand → Va} {s : Me} {K : Va → Me → Prop} (h : CallT P L o.op ev s K) : OpT P ro L o nid ev s K := by
  unfold CallT at h
  split at h
  · rename_i c ho
    split at h
    · rename_i g hc
      split at h
      · rename_i f first caps hg
        exact opT_call ho hc hg h.1 h.2
      · rename_i l hg
        exact opT_yield ho hc hg h.1 h.2
      · exact h.elim
    · exact h.elim
  · exact h.elim

/-! ### A region in the text's order -/
def push (d : Option Tmp) (v : Va) (sl : Slots) : Slots := match d with
  | some t => (t, v) :: sl
  | none => sl
def isCall : Op → Bool
  | .call c => match c.callee with
    | .builtin _ => false
    | _ => true
  | _ => false
/-- Is an operation's turn? -/
inductive Turn where
  | yes | no | lost
def turn (gd : Nat → Option Tmp) (sl : Slots) : Option (Nat × Bool) → Turn
  | none => .yes
  | some (j, want) => match gd j with
    | some d => match get sl d with
      | .av (.sc (.bool b)) => if b = want then .yes else .no
      | .tup [] => .no
      | _ => .lost
    | none => .lost
/-- First what is asked is found out; nothing behind it is looked at before. -/
def tThen (t : Turn) (A B : Prop) : Prop := match t with
  | .yes => A
  | .no => B
  | .lost => False
def bThen (b : Bool) (A B : Prop) : Prop := match b with
  | true => A
  | false => B
def oThen (x : Option (Va × (Nat → Obj))) (K : Va → (Nat → Obj) → Prop) : Prop := match x with
  | some (v, ob') => K v ob'
  | none => False
@[congr] theorem tThen_congr {t t' : Turn} {A B : Prop} (h : t = t') : tThen t A B = tThen t' A B := by rw [h]
@[congr] theorem bThen_congr {t t' : Bool} {A B : Prop} (h : t = t') : bThen t A B = bThen t' A B := by rw [h]
@[congr] theorem oThen_congr {x x' : Option (Va × (Nat → Obj))} {K : Va → (Nat → Obj) → Prop} (h : x = x') : oThen x K = oThen x' K := by rw [h]
@[congr] theorem FnL_congr {f : FuncId} {args args' : List Va} {s : Me} {K : Va → Me → Prop} (h : args = args') : FnL P L f args s K = FnL P L f args' s K := by rw [h]
@[congr] theorem RoundL_congr {l : Nat} {args args' : List Va} {s : Me} {K : Va → Me → Prop} (h : args = args') : RoundL P L l args s K = RoundL P L l args' s K := by rw [h]
theorem tThen_yes {A B : Prop} : tThen .yes A B = A := rfl
theorem tThen_no {A B : Prop} : tThen .no A B = B := rfl
theorem tThen_lost {A B : Prop} : tThen .lost A B = False := rfl
theorem bThen_true {A B : Prop} : bThen true A B = A := rfl
theorem bThen_false {A B : Prop} : bThen false A B = B := rfl
theorem oThen_some {v : Va} {ob : Nat → Obj} {K : Va → (Nat → Obj) → Prop} : oThen (some (v, ob)) K = K v ob := rfl
theorem oThen_none {K : Va → (Nat → Obj) → Prop} : oThen none K = False := rfl
def AwOps (C : Cfg P) (X : Fr) (pb : Bool) (gd : Nat → Option Tmp) (Q : Slots → Me → Prop) : List Oper → Slots → Me → Prop
  | [], sl, s => Q sl s
  | o :: rest, sl, s => tThen (turn gd sl o.guard)
    (bThen (isCall o.op) (CallT P X.L o.op (evA sl) ⟨s.ob, s.nx + 1, s.ls⟩ fun v s' => AwOps C X pb gd Q rest (push o.dst v sl) s')
      (oThen (aop C pb (evA sl) s.ob s.nx o.op) fun v ob' => AwOps C X pb gd Q rest (push o.dst v sl) ⟨ob', s.nx + 1, s.ls⟩))
    (AwOps C X pb gd Q rest (push o.dst (.tup []) sl) s)
section
variable {C : Cfg P} {X : Fr} {pb : Bool} {gd : Nat → Option Tmp} {Q : Slots → Me → Prop} {o : Oper} {rest : List Oper} {sl : Slots} {s : Me} {ob : Nat → Obj} {nx : Nat} {ls : Nat → LSt}
theorem awOps_nil (h : Q sl s) : AwOps C X pb gd Q [] sl s := h
theorem awOps_yes {v : Va} {ob' : Nat → Obj} {t : Tmp} (ht : turn gd sl o.guard = .yes) (hc : isCall o.op = false) (hd : o.dst = some t) (ha : aop C pb (evA sl) ob nx o.op = some (v, ob')) (h : AwOps C X pb gd Q rest ((t, v) :: sl) ⟨ob', nx + 1, ls⟩) :
    AwOps C X pb gd Q (o :: rest) sl ⟨ob, nx, ls⟩ := by
  simp only [AwOps, ht, hc, ha, tThen, bThen, oThen, hd]
  exact h
theorem awOps_yes0 {v : Va} {ob' : Nat → Obj} (ht : turn gd sl o.guard = .yes) (hc : isCall o.op = false) (hd : o.dst = none) (ha : aop C pb (evA sl) ob nx o.op = some (v, ob')) (h : AwOps C X pb gd Q rest sl ⟨ob', nx + 1, ls⟩) :
    AwOps C X pb gd Q (o :: rest) sl ⟨ob, nx, ls⟩ := by
  simp only [AwOps, ht, hc, ha, tThen, bThen, oThen, hd]
  exact h
theorem awOps_no {t : Tmp} (ht : turn gd sl o.guard = .no) (hd : o.dst = some t) (h : AwOps C X pb gd Q rest ((t, .tup []) :: sl) s) : AwOps C X pb gd Q (o :: rest) sl s := by
  simp only [AwOps, ht, tThen, hd]
  exact h
theorem awOps_no0 (ht : turn gd sl o.guard = .no) (hd : o.dst = none) (h : AwOps C X pb gd Q rest sl s) : AwOps C X pb gd Q (o :: rest) sl s := by
  simp only [AwOps, ht, tThen, hd]
  exact h
theorem awOps_call {K : Va → Me → Prop} {t : Tmp} (ht : turn gd sl o.guard = .yes) (hc : isCall o.op = true) (hd : o.dst = some t) (ha : CallT P X.L o.op (evA sl) ⟨ob, nx + 1, ls⟩ K) (h : ∀ v s', K v s' → AwOps C X pb gd Q rest ((t, v) :: sl) s') :
    AwOps C X pb gd Q (o :: rest) sl ⟨ob, nx, ls⟩ := by
  simp only [AwOps, ht, hc, tThen, bThen, hd]
  exact callT_mono ha h
end
def dstOk (nt : Nat) (ops : List Oper) : Bool := ops.all fun o => match o.dst with
  | some d => decide (d < nt)
  | none => true

variable {X : Fr} {m : Nat → Option Ent} {G : Nat → Nat → Prop} {sl : Slots} {s : Me} {a : Act} {w : World}
theorem getD_setIf (A : Array Value) (d t : Nat) (u x : Value) (hd : d < A.size) : (A.setIfInBounds d u).getD t x = if d = t then u else A.getD t x := by
  simp only [Array.getD_eq_getD_getElem?, Array.getElem?_setIfInBounds]
  split
  · simp [hd]
  · rfl
theorem slots_put {m' : Nat → Option Ent} {G' : Nat → Nat → Prop} {w' : World} {d : Option Tmp} {v : Va} {u : Value} (hsz : a.tmps.size = X.nt) (hs : ∀ t, VR m X.L.lb G w (get sl t) (a.tmps.getD t undef)) (he : On m X.L.lb G w m' X.L.lb G' w')
    (hv : VR m' X.L.lb G' w' v u) (hd : ∀ t, d = some t → t < X.nt) : ∀ t, VR m' X.L.lb G' w' (get (push d v sl) t) ((a.put d u).tmps.getD t undef) := by
  intro t
  cases d with
  | none => exact VR.on he (hs t)
  | some k =>
    simp only [push, get, Act.put]
    rw [getD_setIf _ _ _ _ _ (by rw [hsz]; exact hd k rfl)]
    split
    · exact hv
    · exact VR.on he (hs t)
theorem put_size {d : Option Tmp} {u : Value} : (a.put d u).tmps.size = a.tmps.size := by cases d <;> simp [Act.put]
theorem put_defers {d : Option Tmp} {u : Value} : (a.put d u).defers = a.defers := by cases d <;> simp [Act.put]
theorem FS.put {m' : Nat → Option Ent} {G' : Nat → Nat → Prop} {w' : World} {s' : Me} {d : Option Tmp} {v : Va} {u : Value} (h : FS X m G sl s a w) (hw : WR X.L m' G' w' s') (he : Ev X.L m G w m' G' w') (hv : VR m' X.L.lb G' w' v u)
    (hd : ∀ t, d = some t → t < X.nt) (hn : X.n0 ≤ s'.nx) : FS X m' G' (push d v sl) s' (a.put d u) w' :=
  ⟨by rw [put_size]; exact h.size, slots_put h.size h.slots he.on hv hd, hw, by rw [put_defers]; exact DR.ev he h.dr, Nat.le_trans h.d0 he.size, hn⟩
theorem turn_of {ops : Array Oper} {o : Oper} (h : ∀ t, VR m X.L.lb G w (get sl t) (a.tmps.getD t undef)) :
    (turn (fun j => (ops[j]?).bind (·.dst)) sl o.guard = .yes → Region.wanted o (yielded ops a.tmps) = true) ∧ (turn (fun j => (ops[j]?).bind (·.dst)) sl o.guard = .no → Region.wanted o (yielded ops a.tmps) = false) := by
  unfold turn Region.wanted
  cases hg : o.guard with
  | none => simp
  | some p =>
    obtain ⟨j, want⟩ := p
    simp only
    cases hd : (ops[j]?).bind (·.dst) with
    | none => simp
    | some d =>
      simp only
      have h1 := h d
      have key : ∀ b, a.tmps.getD d undef = .bool b → yielded ops a.tmps j = some b := by
        intro b hb
        have : a.tmps[d]? = some (.bool b) := by
          rw [Array.getD_eq_getD_getElem?] at hb
          cases hx : a.tmps[d]? with
          | none => rw [hx] at hb; simp [undef] at hb
          | some y => rw [hx] at hb; simpa using hb
        simp [yielded, hd, this]
      split
      · rename_i b hb
        rw [hb] at h1
        simp only [VR, AR, SR] at h1
        rw [key b h1]
        split <;> rename_i hbw <;> simp [hbw]
      · rename_i hb
        rw [hb] at h1
        simp only [VR, VRs] at h1
        obtain ⟨vs, h1, rfl⟩ := h1
        refine ⟨by simp, fun _ => ?_⟩
        simp only [yielded, hd, Option.bind_some]
        have : a.tmps[d]? = none ∨ a.tmps[d]? = some (.tuple #[]) := by
          rw [Array.getD_eq_getD_getElem?] at h1
          cases hx : a.tmps[d]? with
          | none => exact .inl rfl
          | some y => rw [hx] at h1; exact .inr (by simpa using h1)
        rcases this with h2 | h2 <;> simp [h2]
      · simp
theorem undA {m : Nat → Option Ent} {lb : Nat → Option Nat} {G : Nat → Nat → Prop} {w : World} : VR m lb G w (.tup []) undef := by
  simp only [VR, VRs]
  exact ⟨[], rfl, rfl⟩
theorem WR.bump {L : Loops} (h : WR L m G w s) (k : Nat) : WR L m G w { s with nx := s.nx + k } := h.agree (fun _ _ => rfl) (by simp) rfl

/-- The state's next name never falls below where the frame began: an operation's K must say so. -/
theorem awOps_of (C : Cfg P) {pb : Bool} {ops : Array Oper} {Q : Slots → Me → Prop} {Q' : Exit → Act → World → Prop} : ∀ (l : List Oper) {sl : Slots} {s : Me} {m : Nat → Option Ent} {G : Nat → Nat → Prop} {a : Act} {w : World}, dstOk X.nt l = true → FS X m G sl s a w →
    AwOps C X pb (fun j => (ops[j]?).bind (·.dst)) Q l sl s →
    (∀ sl' s' m' G' a' w', Q sl' s' → FS X m' G' sl' s' a' w' → Ev X.L m G w m' G' w' → (∀ i, i < X.n0 → m i = none → m' i = none) → Q' .normal a' w') →
    wpListIn (Fw X.r) 0 P ops Q' l a w
  | [], sl, s, m, G, a, w, _, hf, h, hq => hq sl s m G a w h hf Ev.refl fun _ _ h => h
  | o :: l, sl, s, m, G, a, w, hd, hf, h, hq => by
    simp only [dstOk, List.all_cons, Bool.and_eq_true] at hd
    have hdo : ∀ t, o.dst = some t → t < X.nt := fun t ht => by have := hd.1; rw [ht] at this; simpa using this
    simp only [AwOps] at h
    simp only [wpListIn]
    have ht := turn_of (X := X) (ops := ops) (o := o) hf.slots
    have h0 : m s.nx = none := hf.wr.rel.fresh _ (Nat.le_refl _)
    have step : ∀ {u w' m' G' v} {s' : Me}, AwOps C X pb (fun j => (ops[j]?).bind (·.dst)) Q l (push o.dst v sl) s' → VR m' X.L.lb G' w' v u → WR X.L m' G' w' s' → Ev X.L m G w m' G' w' → (∀ i, i < X.n0 → m i = none → m' i = none) → X.n0 ≤ s'.nx →
        wpListIn (Fw X.r) 0 P ops Q' l (a.put o.dst u) w' := fun h1 h2 h3 h4 h5 h6 => by
      refine awOps_of C l hd.2 (hf.put h3 h4 h2 hdo h6) h1 fun sl' s' m' G' a' w' h7 h8 h9 h10 => ?_
      exact hq sl' s' m' G' a' w' h7 h8 (h4.trans h9) fun i hi hm => h10 i hi (h5 i hi hm)
    unfold tThen at h
    split at h
    · rename_i hy
      rw [ht.1 hy, if_pos rfl]
      unfold bThen at h
      split at h
      · refine callT_of h m G a w (evA_of hf.slots) (hf.wr.bump 1) h0 (by simp) _ _ fun u w' m' G' v s' h1 h2 h3 h4 h6 h5 => ?_
        have hn : X.n0 ≤ s'.nx := by have := hf.n0; simp only at h6; omega
        exact step h1 h2 h3 h4 (fun i hi hm => h5 i (by have := hf.n0; omega) (by have := hf.n0; simp; omega) hm) hn
      · unfold oThen at h
        split at h
        · rename_i v ob' hop
          refine opT_aop C (s := { s with nx := s.nx + 1 }) hop m G a w (evA_of hf.slots) (hf.wr.bump 1) h0 (by simp) _ _ fun u w' m' G' v s' h1 h2 h3 h4 h6 h5 => ?_
          obtain ⟨rfl, rfl⟩ := h1
          exact step h h2 h3 h4 (fun i hi hm => h5 i (by have := hf.n0; omega) (by have := hf.n0; simp; omega) hm) (by have := hf.n0; simp; omega)
        · exact h.elim
    · rename_i hy
      rw [ht.2 hy, if_neg (by simp)]
      exact ⟨fun _ _ => trivial, step h undA hf.wr Ev.refl (fun _ _ h => h) hf.n0⟩
    · exact h.elim
def nthO : List (Option Tmp) → Nat → Option Tmp
  | [], _ => none
  | d :: _, 0 => d
  | _ :: l, j + 1 => nthO l j
theorem nthO_list : ∀ (l : List Oper) (j : Nat), nthO (l.map (·.dst)) j = (l[j]?).bind (·.dst)
  | [], j => by simp [nthO]
  | o :: l, 0 => by simp [nthO]
  | o :: l, j + 1 => by simp [nthO, nthO_list l j]
theorem nthO_of (ops : Array Oper) : nthO (ops.toList.map (·.dst)) = fun j => (ops[j]?).bind (·.dst) := by
  funext j
  rw [nthO_list]
  simp
/-- A region in the text's order, and what follows. -/
theorem aw_region_seq (C : Cfg P) {pb : Bool} {id : Nat} {ops : Array Oper} {y : Code} {Q : Exit → Slots → Me → Prop} (hd : dstOk X.nt ops.toList = true)
    (h : ∀ K : Slots → Me → Prop, (∀ sl s, AW P X y Q sl s → K sl s) → AwOps C X pb (nthO (ops.toList.map (·.dst))) K ops.toList sl s) : AW P X ((Code.region id ops false).seq y) Q sl s :=
  aw_seq fun m G a w hs => wpIn_region_list (awOps_of C ops.toList hd hs (nthO_of ops ▸ h _ fun _ _ h => h) fun sl' s' m' G' a' w' h1 h2 h3 h4 => ⟨sl', s', m', G', h1, h2, h3, h4⟩)
/-- A region in the text's order. -/
theorem aw_region (C : Cfg P) {pb : Bool} {id : Nat} {ops : Array Oper} {Q : Exit → Slots → Me → Prop} (hd : dstOk X.nt ops.toList = true)
    (h : AwOps C X pb (nthO (ops.toList.map (·.dst))) (fun sl s => Q .normal sl s) ops.toList sl s) : AW P X (.region id ops false) Q sl s := fun m G a w hs =>
  wpIn_region_list (awOps_of C ops.toList hd hs (nthO_of ops ▸ h) fun sl' s' m' G' a' w' h1 h2 h3 h4 => ⟨sl', s', m', G', h1, h2, h3, h4⟩)
end
end Go.Am
