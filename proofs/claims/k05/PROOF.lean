import PyProof.Rows.All
import Wide.All
import OpenK.AllK
import Wide.FinOn
import HandS.ForMost
import HandS.ForExc
import HandS.Wide
import HandS.WideBits
import HandS.Gcd
import HandS.CallSlots
import HandS.IsInst
import HandS.TupAny
import KE.KMathG
import HandS.TryOnly
import HandS.Style
import HandS.ExcSuper
import KE.KExcSuper
import KE.GoesComp
import KE.GoesRaise
import KE.KAsSuite
import KE.IntBitsLaws
import PySem.Challenge.RW_sumsproved_k05_all_answers_or_weights
section
set_option Elab.async false
set_option linter.all false
set_option maxRecDepth 100000
set_option maxHeartbeats 4000000
/-! Pure data over the hand layer: what a value is worth, the frame's slots as pure data, the ghost of a frame. -/
namespace Py
open PySem L2

inductive D where
  | non | bl (b : Bool) | int (i : Int) | str (x : Str) | lst (xs : List D) | frl (xs : List D) | tup (xs : List D) | obj (c : Addr) (ns : List Str) (xs : List D)

mutual
inductive Rp (K : PySem.W.Frag) (F : Hp) : V → D → Prop
  | non : Rp K F .non .non
  | bl (b : Bool) : Rp K F (.bl b) (.bl b)
  | int (i : Int) : Rp K F (.int i) (.int i)
  | str (x : Str) : Rp K F (.str x) (.str x)
  | lst {a : Addr} {vs : List V} {ds : List D} : F a = some (.lst vs) → RpL K F vs ds → Rp K F (.ref a) (.lst ds)
  | frl {a : Addr} {vs : List V} {ds : List D} : SqL K F a vs → RpL K F vs ds → Rp K F (.ref a) (.frl ds)
  | tup {a : Addr} {vs : List V} {ds : List D} : SqT K F a vs → RpL K F vs ds → Rp K F (.ref a) (.tup ds)
  | obj {a c dx : Addr} {ns : List Str} {vs : List V} {ds : List D} : F a = some (.ins c dx (ns.zip vs)) → F dx = some (.own a) → ns.length = vs.length → RpL K F vs ds → Rp K F (.ref a) (.obj c ns ds)
inductive RpL (K : PySem.W.Frag) (F : Hp) : List V → List D → Prop
  | nil : RpL K F [] []
  | cons {v : V} {vs : List V} {d : D} {ds : List D} : Rp K F v d → RpL K F vs ds → RpL K F (v :: vs) (d :: ds)
end

theorem rd_same {F F' : Hp} {a : Addr} {u : HO} (s : Same F F') (h : Rd F a u) : Rd F' a u := by
  rcases h with h | ⟨o, h⟩
  · exact .inl (s _ _ h)
  · exact .inr ⟨o, s _ _ h⟩
theorem sqL_same {K : PySem.W.Frag} {F F' : Hp} {a : Addr} {xs : List V} (s : Same F F') (h : SqL K F a xs) : SqL K F' a xs := h.imp (rd_same s) id
theorem sqT_same {K : PySem.W.Frag} {F F' : Hp} {a : Addr} {xs : List V} (s : Same F F') (h : SqT K F a xs) : SqT K F' a xs := h.imp (rd_same s) id

mutual
theorem Rp.mono {K : PySem.W.Frag} {F F' : Hp} (s : Same F F') : ∀ {v : V} {d : D}, Rp K F v d → Rp K F' v d
  | _, _, .non => .non
  | _, _, .bl b => .bl b
  | _, _, .int i => .int i
  | _, _, .str x => .str x
  | _, _, .lst h r => .lst (s _ _ h) (RpL.mono s r)
  | _, _, .frl h r => .frl (sqL_same s h) (RpL.mono s r)
  | _, _, .tup h r => .tup (sqT_same s h) (RpL.mono s r)
  | _, _, .obj h h2 l r => .obj (s _ _ h) (s _ _ h2) l (RpL.mono s r)
theorem RpL.mono {K : PySem.W.Frag} {F F' : Hp} (s : Same F F') : ∀ {vs : List V} {ds : List D}, RpL K F vs ds → RpL K F' vs ds
  | _, _, .nil => .nil
  | _, _, .cons h r => .cons (Rp.mono s h) (RpL.mono s r)
end
theorem RpL.length {K : PySem.W.Frag} {F : Hp} : ∀ {vs : List V} {ds : List D}, RpL K F vs ds → vs.length = ds.length
  | _, _, .nil => rfl
  | _, _, .cons _ r => congrArg (· + 1) (RpL.length r)
theorem RpL.get {K : PySem.W.Frag} {F : Hp} : ∀ {vs : List V} {ds : List D} {i : Nat} {d : D}, RpL K F vs ds → ds[i]? = some d → ∃ v, vs[i]? = some v ∧ Rp K F v d
  | _, _, _, _, .nil, e => by simp at e
  | _, _, 0, _, .cons h _, e => by simp at e; subst e; exact ⟨_, rfl, h⟩
  | _, _, i + 1, d, .cons _ r, e => by
    obtain ⟨v, h1, h2⟩ := RpL.get (i := i) (d := d) r (by simpa using e)
    exact ⟨v, by simpa using h1, h2⟩
theorem RpL.getV {K : PySem.W.Frag} {F : Hp} : ∀ {vs : List V} {ds : List D} {i : Nat} {v : V}, RpL K F vs ds → vs[i]? = some v → ∃ d, ds[i]? = some d ∧ Rp K F v d
  | _, _, _, _, .nil, e => by simp at e
  | _, _, 0, _, .cons h _, e => by simp at e; subst e; exact ⟨_, rfl, h⟩
  | _, _, i + 1, d, .cons _ r, e => by
    obtain ⟨v, h1, h2⟩ := RpL.getV (i := i) (v := d) r (by simpa using e)
    exact ⟨v, by simpa using h1, h2⟩
theorem RpL.append {K : PySem.W.Frag} {F : Hp} : ∀ {vs ws : List V} {ds es : List D}, RpL K F vs ds → RpL K F ws es → RpL K F (vs ++ ws) (ds ++ es)
  | _, _, _, _, .nil, s => s
  | _, _, _, _, .cons h r, s => .cons h (RpL.append r s)
theorem RpL.set {K : PySem.W.Frag} {F : Hp} {v : V} {d : D} (q : Rp K F v d) : ∀ {vs : List V} {ds : List D} (i : Nat), RpL K F vs ds → RpL K F (vs.set i v) (ds.set i d)
  | _, _, _, .nil => .nil
  | _, _, 0, .cons _ r => .cons q r
  | _, _, i + 1, .cons h r => .cons h (RpL.set q i r)
theorem RpL.take {K : PySem.W.Frag} {F : Hp} : ∀ {vs : List V} {ds : List D} (n : Nat), RpL K F vs ds → RpL K F (vs.take n) (ds.take n)
  | _, _, 0, _ => .nil
  | _, _, _ + 1, .nil => .nil
  | _, _, n + 1, .cons h r => .cons h (RpL.take n r)
theorem RpL.drop {K : PySem.W.Frag} {F : Hp} : ∀ {vs : List V} {ds : List D} (n : Nat), RpL K F vs ds → RpL K F (vs.drop n) (ds.drop n)
  | _, _, 0, r => r
  | _, _, _ + 1, .nil => .nil
  | _, _, n + 1, .cons _ r => RpL.drop n r
theorem RpL.dropLast {K : PySem.W.Frag} {F : Hp} {vs : List V} {ds : List D} (r : RpL K F vs ds) : RpL K F vs.dropLast ds.dropLast := by
  rw [List.dropLast_eq_take, List.dropLast_eq_take, r.length]
  exact r.take _
theorem RpL.reverse {K : PySem.W.Frag} {F : Hp} : ∀ {vs : List V} {ds : List D}, RpL K F vs ds → RpL K F vs.reverse ds.reverse
  | _, _, .nil => .nil
  | _, _, .cons h r => by
    rw [List.reverse_cons, List.reverse_cons]
    exact (RpL.reverse r).append (.cons h .nil)
theorem RpL.ints {K : PySem.W.Frag} {F : Hp} : ∀ (ns : List Int), RpL K F (ns.map V.int) (ns.map D.int)
  | [] => .nil
  | n :: r => .cons (.int n) (RpL.ints r)

/-! ### the frame -/
/-- an exception: its class, its fields -/
structure PX where
  C : Addr
  ns : List Str
  ds : List D
def ExR (K : PySem.W.Frag) (F : Hp) (x : PX) (d : Option Addr) : Prop := ∃ a vs, d = some a ∧ F a = some (.xd (x.ns.zip vs)) ∧ x.ns.length = vs.length ∧ RpL K F vs x.ds
theorem ExR.mono {K : PySem.W.Frag} {F F' : Hp} {x : PX} {d : Option Addr} (h : ExR K F x d) (s : Same F F') : ExR K F' x d := by
  obtain ⟨a, vs, h1, h2, h3, h4⟩ := h
  exact ⟨a, vs, h1, s _ _ h2, h3, h4.mono s⟩
inductive Slot where
  | un | dat (d : D) | own (ds : List D) | drw | exc (a : Addr) (d : Option Addr) (x : PX)
inductive Res where
  | dat (d : D) | own (ds : List D) | drw
@[simp] def Res.slot : Res → Slot
  | .dat d => .dat d
  | .own ds => .own ds
  | .drw => .drw
@[simp] def Res.toD : Res → Option D
  | .dat d => some d
  | .own ds => some (.lst ds)
  | .drw => none
@[simp] def Slot.frz : Slot → Slot
  | .own ds => .dat (.lst ds)
  | s => s
/-- what may be walked, measured, indexed -/
def D.seq : D → Option (List D)
  | .lst ds => some ds
  | .frl ds => some ds
  | .tup ds => some ds
  | _ => none
def Slot.seq : Slot → Option (List D)
  | .dat d => d.seq
  | .own ds => some ds
  | _ => none

/-- the ghost of a frame: the heap at its entry, what was frozen there, the draws' list -/
structure G where
  H0 : Hp
  F0 : Hp
  dr : Option Addr

structure Cor (g : G) (F : Hp) (S : List Int) (H : Hp) : Prop where
  f0 : Same g.F0 F
  fn : ∀ a o, F a = some o → g.F0 a ≠ none ∨ g.H0 a = none
  fh : Same F H
  h0 : ∀ a o, g.H0 a = some o → g.dr ≠ some a → H a = some o
  st : ∀ a, g.dr = some a → H a = some (.lst (S.map V.int)) ∧ F a = none ∧ g.H0 a ≠ none

def SlotOk (K : PySem.W.Frag) (g : G) (F H : Hp) : Slot → Option V → Prop
  | .un, _ => True
  | .dat d, o => ∃ v, o = some v ∧ Rp K F v d
  | .own ds, o => ∃ p vs, o = some (.ref p) ∧ H p = some (.lst vs) ∧ F p = none ∧ g.H0 p = none ∧ RpL K F vs ds
  | .drw, o => ∃ a, g.dr = some a ∧ o = some (.ref a)
  | .exc a d x, o => o = some (.ref a) ∧ ExR K F x d

structure Rel (K : PySem.W.Frag) (g : G) (F : Hp) (sl : List Slot) (S : List Int) (σ : L2.St) (H : Hp) : Prop where
  cor : Cor g F S H
  len : sl.length = σ.length
  ok : ∀ (i : Nat) (s : Slot), sl[i]? = some s → SlotOk K g F H s (σ[i]?).join
  sep : ∀ (i j : Nat) (di dj : List D) (p : Addr), i ≠ j → sl[i]? = some (Slot.own di) → sl[j]? = some (Slot.own dj) → (σ[i]?).join = some (.ref p) → (σ[j]?).join ≠ some (.ref p)

/-- a result -/
def RR (K : PySem.W.Frag) (g : G) (F H : Hp) : Res → V → Prop
  | .dat d, v => Rp K F v d
  | .own ds, v => ∃ p vs, v = .ref p ∧ H p = some (.lst vs) ∧ F p = none ∧ g.H0 p = none ∧ RpL K F vs ds
  | .drw, v => ∃ a, g.dr = some a ∧ v = .ref a
/-- .. that no slot owns -/
def Ap (sl : List Slot) (σ : L2.St) (r : Res) (v : V) : Prop :=
  match r with
  | .own _ => ∀ (i : Nat) (d : List D), sl[i]? = some (Slot.own d) → (σ[i]?).join ≠ some v
  | _ => True

/-- from one state of a frame to a later one, by an expression: what stood stands (but the draws) -/
structure Stp (g : G) (F H F' H' : Hp) : Prop where
  f : Same F F'
  k : ∀ a o, H a = some o → g.dr ≠ some a → H' a = some o
  n : ∀ a o, F' a = some o → F a = some o ∨ H a = none
  d : ∀ a, H' a = none → H a = none
theorem Stp.refl {g : G} {F H : Hp} : Stp g F H F H := ⟨Same.refl _, fun _ _ e _ => e, fun _ _ e => .inl e, fun _ e => e⟩
theorem Stp.trans {g : G} {F H F1 H1 F2 H2 : Hp} (a : Stp g F H F1 H1) (b : Stp g F1 H1 F2 H2) : Stp g F H F2 H2 :=
  ⟨a.f.trans b.f, fun x o e q => b.k x o (a.k x o e q) q, fun x o e => (b.n x o e).elim (a.n x o) fun z => .inr (a.d x z), fun x e => a.d x (b.d x e)⟩
/-- a new one -/
def Nw (H : Hp) (r : Res) (v : V) : Prop := match r with
  | .own _ => ∀ p, v = V.ref p → H p = none
  | _ => True
theorem Nw.back {g : G} {F H F1 H1 : Hp} {r : Res} {v : V} (s : Stp g F H F1 H1) (h : Nw H1 r v) : Nw H r v := by
  cases r with
  | own ds => exact fun p e => s.d p (h p e)
  | _ => trivial
theorem nw_new {H : Hp} {p : Addr} (h : H p = none) {ds : List D} : Nw H (.own ds) (.ref p) := fun q e => by cases e; exact h
section
variable {K : PySem.W.Frag} {g : G} {F F' H H' : Hp} {sl : List Slot} {S S' : List Int} {σ : L2.St}

theorem Same.upd_new {F : Hp} {p : Addr} {o : HO} (h : F p = none) : Same F (upd F p o) := fun b u e => by
  rw [upd_ne (ne_of_none e h)]
  exact e
theorem Cor.free (c : Cor g F S H) {p : Addr} (h : H p = none) : F p = none := by
  cases e : F p with
  | none => rfl
  | some o => rw [c.fh _ _ e] at h; cases h
theorem Cor.new (c : Cor g F S H) {p : Addr} (h : H p = none) : g.H0 p = none := by
  cases e : g.H0 p with
  | none => rfl
  | some o =>
    by_cases q : g.dr = some p
    · rw [(c.st p q).1] at h; cases h
    · rw [c.h0 _ _ e q] at h; cases h
theorem Stp.alloc {p : Addr} {o : HO} (h : H p = none) : Stp g F H F (upd H p o) :=
  ⟨Same.refl _, fun a u e _ => Same.upd_new h a u e, fun _ _ e => .inl e, fun a e => by
    by_cases q : a = p
    · rw [q]; exact h
    · rw [upd_ne q] at e; exact e⟩
theorem Stp.allocF {p : Addr} {o : HO} (h : H p = none) (hf : F p = none) : Stp g F H (upd F p o) (upd H p o) :=
  ⟨Same.upd_new hf, fun a u e _ => Same.upd_new h a u e, fun a u e => by
    by_cases q : a = p
    · rw [q]; exact .inr h
    · rw [upd_ne q] at e; exact .inl e, fun a e => by
    by_cases q : a = p
    · rw [q]; exact h
    · rw [upd_ne q] at e; exact e⟩
/-- a new object, not frozen -/
theorem Cor.alloc (c : Cor g F S H) {p : Addr} {o : HO} (h : H p = none) : Cor g F S (upd H p o) :=
  ⟨c.f0, c.fn, fun b u e => Same.upd_new h b u (c.fh b u e), fun b u e q => Same.upd_new h b u (c.h0 b u e q), fun a e => ⟨Same.upd_new h _ _ (c.st a e).1, (c.st a e).2⟩⟩
/-- what stands at p, new since the entry and not frozen, is frozen -/
theorem Cor.freeze (c : Cor g F S H) {p : Addr} {o : HO} (h : H p = some o) (hf : F p = none) (h0 : g.H0 p = none) : Cor g (upd F p o) S H := by
  refine ⟨fun b u e => Same.upd_new hf b u (c.f0 b u e), fun a u e => ?_, fun b u e => ?_, c.h0, fun a e => ?_⟩
  · by_cases q : a = p
    · subst q; exact .inr h0
    · rw [upd_ne q] at e; exact c.fn a u e
  · by_cases q : b = p
    · subst q; rw [upd_same] at e; rw [h]; exact e
    · rw [upd_ne q] at e; exact c.fh b u e
  · obtain ⟨h1, h2, h3⟩ := c.st a e
    refine ⟨h1, ?_, h3⟩
    rw [upd_ne (fun z => h3 (by rw [z]; exact h0))]
    exact h2
/-- a write to what is not frozen and new -/
theorem Cor.write (c : Cor g F S H) {p : Addr} {o : HO} (hf : F p = none) (h0 : g.H0 p = none) : Cor g F S (upd H p o) := by
  refine ⟨c.f0, c.fn, fun b u e => ?_, fun b u e q => ?_, fun a e => ?_⟩
  · rw [upd_ne (ne_of_none e hf)]; exact c.fh b u e
  · rw [upd_ne (ne_of_none e h0)]; exact c.h0 b u e q
  · obtain ⟨h1, h2, h3⟩ := c.st a e
    refine ⟨?_, h2, h3⟩
    rw [upd_ne (fun z => h3 (by rw [z]; exact h0))]
    exact h1
theorem SlotOk.mono {s : Slot} {o : Option V} (h : SlotOk K g F H s o) (sf : Same F F') (ow : ∀ ds p, s = .own ds → o = some (.ref p) → H' p = H p ∧ F' p = none) : SlotOk K g F' H' s o := by
  cases s with
  | un => trivial
  | dat d => obtain ⟨v, e, r⟩ := h; exact ⟨v, e, r.mono sf⟩
  | own ds =>
    obtain ⟨p, vs, e, h1, h2, h3, r⟩ := h
    obtain ⟨e1, e2⟩ := ow ds p rfl e
    exact ⟨p, vs, e, e1.trans h1, e2, h3, r.mono sf⟩
  | drw => exact h
  | exc a d x => exact ⟨h.1, h.2.mono sf⟩
theorem Rel.own (r : Rel K g F sl S σ H) {i : Nat} {ds : List D} (h : sl[i]? = some (.own ds)) : ∃ p vs, σ[i]? = some (some (.ref p)) ∧ H p = some (.lst vs) ∧ F p = none ∧ g.H0 p = none ∧ RpL K F vs ds := by
  obtain ⟨p, vs, e, q⟩ := r.ok i _ h
  refine ⟨p, vs, ?_, q⟩
  cases e2 : σ[i]? with
  | none => rw [e2] at e; cases e
  | some o => rw [e2] at e; exact congrArg some e
theorem Rel.dat (r : Rel K g F sl S σ H) {i : Nat} {d : D} (h : sl[i]? = some (.dat d)) : ∃ v, σ[i]? = some (some v) ∧ Rp K F v d := by
  obtain ⟨v, e, q⟩ := r.ok i _ h
  refine ⟨v, ?_, q⟩
  cases e2 : σ[i]? with
  | none => rw [e2] at e; cases e
  | some o => rw [e2] at e; exact congrArg some e
theorem Rel.drw (r : Rel K g F sl S σ H) {i : Nat} (h : sl[i]? = some .drw) : ∃ a, σ[i]? = some (some (.ref a)) ∧ g.dr = some a := by
  obtain ⟨a, e1, e⟩ := r.ok i _ h
  refine ⟨a, ?_, e1⟩
  cases e2 : σ[i]? with
  | none => rw [e2] at e; cases e
  | some o => rw [e2] at e; exact congrArg some e
theorem Rel.alloc (r : Rel K g F sl S σ H) {p : Addr} {o : HO} (h : H p = none) : Rel K g F sl S σ (upd H p o) :=
  ⟨r.cor.alloc h, r.len, fun i s e => (r.ok i s e).mono (Same.refl _) fun ds q e1 e2 => by
    subst e1
    obtain ⟨p', vs, e3, h1, h2, _⟩ := r.ok i _ e
    rw [e2] at e3
    cases e3
    exact ⟨upd_ne (ne_of_none h1 h), h2⟩, r.sep⟩
/-- freezing what no slot owns -/
theorem Rel.freeze (r : Rel K g F sl S σ H) {p : Addr} {o : HO} (h : H p = some o) (hf : F p = none) (h0 : g.H0 p = none) (ap : ∀ (i : Nat) (d : List D), sl[i]? = some (Slot.own d) → (σ[i]?).join ≠ some (.ref p)) : Rel K g (upd F p o) sl S σ H :=
  ⟨r.cor.freeze h hf h0, r.len, fun i s e => (r.ok i s e).mono (Same.upd_new hf) fun ds q e1 e2 => by
    subst e1
    obtain ⟨p', vs, e3, h1, h2, _⟩ := r.ok i _ e
    rw [e2] at e3
    cases e3
    refine ⟨rfl, ?_⟩
    rw [upd_ne fun z => ap i ds e (by rw [e2, z])]
    exact h2, r.sep⟩
/-- a new frozen object -/
theorem Rel.allocF (r : Rel K g F sl S σ H) {p : Addr} {o : HO} (h : H p = none) : Rel K g (upd F p o) sl S σ (upd H p o) :=
  (r.alloc (o := o) h).freeze upd_same (r.cor.free h) (r.cor.new h) fun i d e z => by
    obtain ⟨p', vs, e3, h1, _⟩ := r.ok i _ e
    rw [z] at e3
    cases e3
    rw [h] at h1; cases h1
theorem Rel.freshAp (r : Rel K g F sl S σ H) {p : Addr} (h : H p = none) : ∀ (i : Nat) (d : List D), sl[i]? = some (Slot.own d) → (σ[i]?).join ≠ some (.ref p) := fun i d e z => by
  obtain ⟨p', vs, e3, h1, _⟩ := r.ok i _ e
  rw [z] at e3
  cases e3
  rw [h] at h1; cases h1
theorem Rel.ap (r : Rel K g F sl S σ H) {x : Res} {v : V} (nw : Nw H x v) : Ap sl σ x v := by
  cases x with
  | own ds =>
    intro i d e z
    obtain ⟨p', vs, e3, h1, _⟩ := r.ok i _ e
    rw [z] at e3
    cases e3
    rw [nw p' rfl] at h1; cases h1
  | _ => trivial
/-- a result as plain data -/
theorem Rel.plain {F1 H1 : Hp} {S1 : List Int} (r : Rel K g F1 sl S1 σ H1) (r0 : Rel K g F sl S σ H) {x : Res} {v : V} {d : D} (q : RR K g F1 H1 x v) (s : Stp g F H F1 H1) (nw : Nw H x v) (e : x.toD = some d) :
    ∃ F', Same F1 F' ∧ Stp g F H F' H1 ∧ Rel K g F' sl S1 σ H1 ∧ Rp K F' v d := by
  cases x with
  | dat d' => cases e; exact ⟨F1, Same.refl _, s, r, q⟩
  | own ds =>
    cases e
    have ap := r0.ap nw
    obtain ⟨p, vs, rfl, h1, h2, h3, q⟩ := q
    have hn : H p = none := nw p rfl
    refine ⟨_, Same.upd_new h2, ⟨s.f.trans (Same.upd_new h2), s.k, fun a u e => ?_, s.d⟩, r.freeze h1 h2 h3 ap, .lst upd_same (q.mono (Same.upd_new h2))⟩
    by_cases z : a = p
    · rw [z]; exact .inr hn
    · rw [upd_ne z] at e; exact s.n a u e
  | drw => cases e
/-- a slot's own list is frozen -/
theorem Rel.frz (r : Rel K g F sl S σ H) (i : Nat) : ∃ F', Same F F' ∧ Rel K g F' (match sl[i]? with | some s => sl.set i s.frz | none => sl) S σ H := by
  cases e : sl[i]? with
  | none => exact ⟨F, Same.refl _, r⟩
  | some s =>
    cases s with
    | own ds =>
      obtain ⟨p, vs, e1, h1, h2, h3, q⟩ := r.own e
      have hi : i < sl.length := (List.getElem?_eq_some_iff.mp e).1
      refine ⟨upd F p (.lst vs), Same.upd_new h2, r.cor.freeze h1 h2 h3, by simpa using r.len, fun j s hj => ?_, fun j k dj dk p' hjk h4 h5 => ?_⟩
      · by_cases hij : i = j
        · subst hij
          rw [List.getElem?_set_self hi] at hj
          cases hj
          exact ⟨.ref p, by rw [e1]; rfl, .lst upd_same (q.mono (Same.upd_new h2))⟩
        · rw [List.getElem?_set_ne hij] at hj
          refine (r.ok j s hj).mono (Same.upd_new h2) fun ds' q' e4 e5 => ⟨rfl, ?_⟩
          subst e4
          obtain ⟨p'', vs'', e6, h7, h8, _⟩ := r.ok j _ hj
          rw [e5] at e6
          cases e6
          rw [upd_ne fun z => r.sep i j ds ds' p hij e hj (by rw [e1]; rfl) (by rw [e5, z])]
          exact h8
      · have n1 : i ≠ j := fun z => by subst z; rw [List.getElem?_set_self hi] at h4; cases h4
        have n2 : i ≠ k := fun z => by subst z; rw [List.getElem?_set_self hi] at h5; cases h5
        rw [List.getElem?_set_ne n1] at h4
        rw [List.getElem?_set_ne n2] at h5
        exact r.sep j k dj dk p' hjk h4 h5
    | un => exact ⟨F, Same.refl _, by
        have : sl.set i (Slot.frz .un) = sl := by
          apply List.ext_getElem?
          intro j
          by_cases hij : i = j
          · subst hij
            rw [List.getElem?_set_self ((List.getElem?_eq_some_iff.mp e).1), e]; rfl
          · rw [List.getElem?_set_ne hij]
        show Rel K g F (sl.set i (Slot.frz .un)) S σ H
        rw [this]; exact r⟩
    | dat d => exact ⟨F, Same.refl _, by
        have : sl.set i (Slot.frz (.dat d)) = sl := by
          apply List.ext_getElem?
          intro j
          by_cases hij : i = j
          · subst hij
            rw [List.getElem?_set_self ((List.getElem?_eq_some_iff.mp e).1), e]; rfl
          · rw [List.getElem?_set_ne hij]
        show Rel K g F (sl.set i (Slot.frz (.dat d))) S σ H
        rw [this]; exact r⟩
    | drw => exact ⟨F, Same.refl _, by
        have : sl.set i (Slot.frz .drw) = sl := by
          apply List.ext_getElem?
          intro j
          by_cases hij : i = j
          · subst hij
            rw [List.getElem?_set_self ((List.getElem?_eq_some_iff.mp e).1), e]; rfl
          · rw [List.getElem?_set_ne hij]
        show Rel K g F (sl.set i (Slot.frz .drw)) S σ H
        rw [this]; exact r⟩
    | exc a d x => exact ⟨F, Same.refl _, by
        have : sl.set i (Slot.frz (.exc a d x)) = sl := by
          apply List.ext_getElem?
          intro j
          by_cases hij : i = j
          · subst hij
            rw [List.getElem?_set_self ((List.getElem?_eq_some_iff.mp e).1), e]; rfl
          · rw [List.getElem?_set_ne hij]
        show Rel K g F (sl.set i (Slot.frz (.exc a d x))) S σ H
        rw [this]; exact r⟩
/-- a store into a slot -/
theorem Rel.store (r : Rel K g F sl S σ H) {i : Nat} {x : Res} {v : V} (q : RR K g F H x v) (ap : Ap sl σ x v) (hi : i < sl.length) : Rel K g F (sl.set i x.slot) S (σ.set i (some v)) H := by
  have hs : i < σ.length := by rw [← r.len]; exact hi
  refine ⟨r.cor, by simpa using r.len, fun j s hj => ?_, fun j k dj dk p hjk h4 h5 h6 h7 => ?_⟩
  · by_cases hij : i = j
    · subst hij
      rw [List.getElem?_set_self hi] at hj
      rw [List.getElem?_set_self hs]
      cases hj
      cases x with
      | dat d => exact ⟨v, rfl, q⟩
      | own ds =>
        obtain ⟨p, vs, rfl, q⟩ := q
        exact ⟨p, vs, rfl, q⟩
      | drw =>
        obtain ⟨a, e, rfl⟩ := q
        exact ⟨a, e, rfl⟩
    · rw [List.getElem?_set_ne hij] at hj
      rw [List.getElem?_set_ne hij]
      exact r.ok j s hj
  · by_cases n1 : i = j
    · subst n1
      have n2 : i ≠ k := hjk
      rw [List.getElem?_set_self hi] at h4
      rw [List.getElem?_set_self hs] at h6
      rw [List.getElem?_set_ne n2] at h5 h7
      cases x with
      | own ds =>
        cases h6
        exact ap k dk h5 h7
      | dat d => cases h4
      | drw => cases h4
    · rw [List.getElem?_set_ne n1] at h4 h6
      by_cases n2 : i = k
      · subst n2
        rw [List.getElem?_set_self hi] at h5
        rw [List.getElem?_set_self hs] at h7
        cases x with
        | own ds =>
          cases h7
          exact ap j dj h4 h6
        | dat d => cases h5
        | drw => cases h5
      · rw [List.getElem?_set_ne n2] at h5 h7
        exact r.sep j k dj dk p hjk h4 h5 h6 h7
/-- a slot's own list is written -/
theorem Rel.write (r : Rel K g F sl S σ H) {i : Nat} {ds es : List D} {p : Addr} {vs : List V} (h : sl[i]? = some (.own ds)) (hp : σ[i]? = some (some (.ref p))) (q : RpL K F vs es) : Rel K g F (sl.set i (.own es)) S σ (upd H p (.lst vs)) := by
  obtain ⟨p', vs', e1, h1, h2, h3, q'⟩ := r.own h
  rw [hp] at e1
  cases e1
  have hi : i < sl.length := (List.getElem?_eq_some_iff.mp h).1
  refine ⟨r.cor.write h2 h3, by simpa using r.len, fun j s hj => ?_, fun j k dj dk p' hjk h4 h5 h6 => ?_⟩
  · by_cases hij : i = j
    · subst hij
      rw [List.getElem?_set_self hi] at hj
      cases hj
      exact ⟨p, vs, by rw [hp]; rfl, upd_same, h2, h3, q⟩
    · rw [List.getElem?_set_ne hij] at hj
      refine (r.ok j s hj).mono (Same.refl _) fun ds' q' e4 e5 => ?_
      subst e4
      obtain ⟨p'', vs'', e6, h7, h8, _⟩ := r.ok j _ hj
      rw [e5] at e6
      cases e6
      exact ⟨upd_ne fun z => r.sep i j ds ds' p hij h hj (by rw [hp]; rfl) (by rw [e5, z]), h8⟩
  · have base : ∀ (m : Nat) (dm : List D), (sl.set i (Slot.own es))[m]? = some (Slot.own dm) → ∃ d', sl[m]? = some (Slot.own d') := fun m dm hm => by
      by_cases z : i = m
      · subst z; exact ⟨ds, h⟩
      · rw [List.getElem?_set_ne z] at hm; exact ⟨dm, hm⟩
    obtain ⟨d1, z1⟩ := base j dj h4
    obtain ⟨d2, z2⟩ := base k dk h5
    exact r.sep j k d1 d2 p' hjk z1 z2 h6
/-- the draws' list is written -/
theorem Rel.draw (r : Rel K g F sl S σ H) {a : Addr} (h : g.dr = some a) (S' : List Int) : Rel K g F sl S' σ (upd H a (.lst (S'.map V.int))) := by
  obtain ⟨h1, h2, h3⟩ := r.cor.st a h
  refine ⟨⟨r.cor.f0, r.cor.fn, fun b u e => ?_, fun b u e q => ?_, fun b e => ?_⟩, r.len, fun j s hj => (r.ok j s hj).mono (Same.refl _) fun ds p e1 e2 => ?_, r.sep⟩
  · rw [upd_ne (ne_of_none e h2)]; exact r.cor.fh b u e
  · rw [upd_ne (fun z => q (by rw [z]; exact h))]; exact r.cor.h0 b u e q
  · rw [h] at e; cases e
    exact ⟨upd_same, h2, h3⟩
  · subst e1
    obtain ⟨p', vs', e6, h7, h8, h9, _⟩ := r.ok j _ hj
    rw [e2] at e6
    cases e6
    exact ⟨upd_ne fun z => h3 (by rw [← z]; exact h9), h8⟩
end
end Py
end
section
set_option Elab.async false
set_option linter.all false
set_option maxRecDepth 100000
set_option maxHeartbeats 4000000
/-! Expressions over pure data. -/
namespace Py
open PySem L2

abbrev PQ := Res → List Int → Prop
abbrev PXQ := PX → List Int → Prop
abbrev PEx := List Slot → List Int → PQ → PXQ → Prop
abbrev PTx := List Slot → List Int → (Bool → List Int → Prop) → PXQ → Prop
abbrev PAx := List Slot → List Int → (List Res → List Int → Prop) → PXQ → Prop

def ExcE (K : PySem.W.Frag) (W : WX) (g : G) (F : Hp) (sl : List Slot) (σ : L2.St) (E' : PXQ) : Prop :=
  ∀ x S' d H' F', Same F F' → Rel K g F' sl S' σ H' → ExR K F' x d → E' x S' → W (.ref x.C) d σ H'
theorem ExcE.mono {K : PySem.W.Frag} {W : WX} {g : G} {F F' : Hp} {sl : List Slot} {σ : L2.St} {E' : PXQ} (h : ExcE K W g F sl σ E') (s : Same F F') : ExcE K W g F' sl σ E' :=
  fun x S' d H' F2 s2 => h x S' d H' F2 (s.trans s2)
def rdE (K : PySem.W.Frag) (W : WX) (p : PEx) : TE := fun σ H Q => ∃ g F sl S Q' E', Rel K g F sl S σ H ∧ p sl S Q' E' ∧
  (∀ r S' v H' F', Stp g F H F' H' → Rel K g F' sl S' σ H' → RR K g F' H' r v → Nw H r v → Q' r S' → Q v H') ∧ ExcE K W g F sl σ E'
def rdT (K : PySem.W.Frag) (W : WX) (p : PTx) : TT := fun σ H Q => ∃ g F sl S Q' E', Rel K g F sl S σ H ∧ p sl S Q' E' ∧
  (∀ b S' H' F', Stp g F H F' H' → Rel K g F' sl S' σ H' → Q' b S' → Q b H') ∧ ExcE K W g F sl σ E'
/-- an argument: plain data, or the draws -/
def RA (K : PySem.W.Frag) (g : G) (F : Hp) : Res → V → Prop
  | .dat d, v => Rp K F v d
  | .own _, _ => False
  | .drw, v => ∃ a, g.dr = some a ∧ v = .ref a
abbrev RAs (K : PySem.W.Frag) (g : G) (F : Hp) : List Res → List V → Prop := Paired (RA K g F)
@[simp] def Res.arg : Res → Res
  | .own ds => .dat (.lst ds)
  | r => r
def rdA (K : PySem.W.Frag) (W : WX) (p : PAx) : TA := fun σ H Q => ∃ g F sl S Q' E', Rel K g F sl S σ H ∧ p sl S Q' E' ∧
  (∀ rs S' vs H' F', Stp g F H F' H' → Rel K g F' sl S' σ H' → RAs K g F' rs vs → Q' rs S' → Q vs H') ∧ ExcE K W g F sl σ E'
structure SE (X : Cx) (W : WX) (e : Expr) (p : PEx) : Prop where
  pe : PE X e (rdE X.K W p)
structure ST (X : Cx) (W : WX) (e : Expr) (p : PTx) : Prop where
  pt : PT X e (rdT X.K W p)
structure SA (X : Cx) (W : WX) (es : List Expr) (p : PAx) : Prop where
  pa : PA X es (rdA X.K W p)

theorem PE.imp {X : Cx} {e : Expr} {t t' : TE} (h : PE X e t) (i : ∀ σ H Q, t' σ H Q → t σ H Q) : PE X e t' := ⟨fun pins s σ H Q I q => h.run pins s σ H Q I (i _ _ _ q)⟩
theorem PT.imp {X : Cx} {e : Expr} {t t' : TT} (h : PT X e t) (i : ∀ σ H Q, t' σ H Q → t σ H Q) : PT X e t' := ⟨fun pins s σ H Q I q => h.run pins s σ H Q I (i _ _ _ q)⟩
theorem PW.imp {X : Cx} {e : Expr} {t t' : TT} (h : PW X e t) (i : ∀ σ H Q, t' σ H Q → t σ H Q) : PW X e t' := ⟨fun w pins s σ H Q I q => h.run w pins s σ H Q I (i _ _ _ q)⟩
theorem PA.imp {X : Cx} {e : List Expr} {t t' : TA} (h : PA X e t) (i : ∀ σ H Q, t' σ H Q → t σ H Q) : PA X e t' := ⟨fun pos pins s σ H Q I q => h.run pos pins s σ H Q I (i _ _ _ q)⟩

/-- the plain data of p -/
@[simp] def dat (p : PEx) (sl : List Slot) (S : List Int) (Q : D → List Int → Prop) (E : PXQ) : Prop := p sl S (fun r S1 => match r with | .dat d => Q d S1 | .own ds => Q (.lst ds) S1 | .drw => False) E

section
variable {K : PySem.W.Frag} {W : WX} {g : G} {F H : Hp} {sl : List Slot} {S : List Int} {σ : L2.St} {p q : PEx} {E' : PXQ} {Q : VK}
theorem rdE_dat {Qd : D → List Int → Prop} (rel : Rel K g F sl S σ H) (hp : dat p sl S Qd E') (exc : ExcE K W g F sl σ E')
    (post : ∀ d S1 v H1 F1, Stp g F H F1 H1 → Rel K g F1 sl S1 σ H1 → Rp K F1 v d → Qd d S1 → Q v H1) : rdE K W p σ H Q :=
  ⟨g, F, sl, S, _, E', rel, hp, fun r S' v H' F' s rel' rr nw hq => by
    cases r with
    | dat d => exact post d S' v H' F' s rel' rr hq
    | own ds =>
      obtain ⟨F2, _, s2, rel2, rp⟩ := rel'.plain rel rr s nw rfl
      exact post _ S' v H' F2 s2 rel2 rp hq
    | drw => exact hq.elim, exc⟩
end

/-! ### names, constants -/
@[simp] def pVar (i : Nat) : PEx := fun sl S Q _ => match sl[i]? with
  | some (.dat d) => Q (.dat d) S
  | some .drw => Q .drw S
  | _ => False
@[simp] def pC (d : D) : PEx := fun _ S Q _ => Q (.dat d) S
section
variable {X : Cx} {W : WX}
theorem se_var (i : Nat) {x : Str} {pos : Pos} (hN : X.N[i]? = some x := by rfl) (hv : Vis X.env.scope x := by first | exact Or.inl rfl | exact Or.inr (Or.inl rfl) | exact Or.inr (Or.inr rfl)) (hd : (x == ("__debug__" : Str)) = false := by decide)
    (hcd : (x == ("__classdict__" : Str)) = false := by decide) : SE X W (.Name x pos) (pVar i) := ⟨PE.imp (pe_var hN hv hd hcd) fun σ H Q h => by
  obtain ⟨g, F, sl, S, Q', E', rel, hp, post, exc⟩ := h
  unfold pVar at hp
  cases e : sl[i]? with
  | none => rw [e] at hp; exact hp.elim
  | some s =>
    rw [e] at hp
    cases s with
    | dat d =>
      obtain ⟨v, h1, h2⟩ := rel.dat e
      exact ⟨v, h1, post (.dat d) S v H F Stp.refl rel h2 trivial hp⟩
    | drw =>
      obtain ⟨a, h1, h2⟩ := rel.drw e
      exact ⟨_, h1, post .drw S _ H F Stp.refl rel ⟨a, h2, rfl⟩ trivial hp⟩
    | un => exact hp.elim
    | own ds => exact hp.elim
    | exc a d x => exact hp.elim⟩
theorem rd_c {K : PySem.W.Frag} {d : D} {v : V} (r : ∀ F, Rp K F v d) (σ : L2.St) (H : Hp) (Q : VK) (h : rdE K W (pC d) σ H Q) : tC v σ H Q := by
  obtain ⟨g, F, sl, S, Q', E', rel, hp, post, exc⟩ := h
  exact post (.dat d) S v H F Stp.refl rel (r F) trivial hp
theorem se_int {i : Int} {j pos} : SE X W (.Constant (.int i) j pos) (pC (.int i)) := ⟨PE.imp pe_int (rd_c fun _ => .int i)⟩
theorem se_bl {b : Bool} {j pos} : SE X W (.Constant (.bool b) j pos) (pC (.bl b)) := ⟨PE.imp pe_bl (rd_c fun _ => .bl b)⟩
theorem se_non {j pos} : SE X W (.Constant .none j pos) (pC .non) := ⟨PE.imp pe_non (rd_c fun _ => .non)⟩
theorem se_str {x : Str} {j pos} : SE X W (.Constant (.str x) j pos) (pC (.str x)) := ⟨PE.imp pe_str (rd_c fun _ => .str x)⟩
theorem se_glob {x : Str} {i : Int} {t : Tok} {pos : Pos} (hm : X.mg x = some (.int i t)) (hg : Gl X x := by rfl) (hd : (x == ("__debug__" : Str)) = false := by decide) : SE X W (.Name x pos) (pC (.int i)) :=
  ⟨PE.imp (pe_glob (v := .int i) hg hm ⟨t, rfl⟩ hd) (rd_c fun _ => .int i)⟩
end

/-! ### two-place operations -/
abbrev PF2 := D → D → (Res → Prop) → Prop
@[simp] def pBin (f : PF2) (p q : PEx) : PEx := fun sl S Q E => dat p sl S (fun a S1 => dat q sl S1 (fun b S2 => f a b fun r => Q r S2) E) E
def OpSem (K : PySem.W.Frag) (r : R2) (f : PF2) : Prop := ∀ g F sl S σ H v1 v2 d1 d2 (Q : VK) (Qr : Res → Prop), Rel K g F sl S σ H → Rp K F v1 d1 → Rp K F v2 d2 → f d1 d2 Qr →
  (∀ res v H' F', Stp g F H F' H' → Rel K g F' sl S σ H' → RR K g F' H' res v → Nw H res v → Qr res → Q v H') → r v1 v2 H Q
theorem rd_bin {K : PySem.W.Frag} {W : WX} {r : R2} {f : PF2} {p q : PEx} (hs : OpSem K r f) (σ : L2.St) (H : Hp) (Q : VK) (h : rdE K W (pBin f p q) σ H Q) : tOp r (rdE K W p) (rdE K W q) σ H Q := by
  obtain ⟨g, F, sl, S, Q', E', rel, hp, post, exc⟩ := h
  refine rdE_dat rel hp exc fun d1 S1 v1 H1 F1 s1 rel1 r1 h1 => ?_
  refine rdE_dat rel1 h1 (exc.mono s1.f) fun d2 S2 v2 H2 F2 s2 rel2 r2 h2 => ?_
  exact hs g F2 sl S2 σ H2 v1 v2 d1 d2 Q _ rel2 (r1.mono s2.f) r2 h2 fun res v H' F' s rel' rr nw hq => post res S2 v H' F' ((s1.trans s2).trans s) rel' rr (nw.back (s1.trans s2)) hq
section
variable {X : Cx} {W : WX} {a b : Expr} {p q : PEx} {pos : Pos} {r : R2} {f : PF2}
theorem se_op {op : Operator} (ho : OpR X (binaryOp op) r) (hs : OpSem X.K r f) (ha : SE X W a p) (hb : SE X W b q) : SE X W (.BinOp a op b pos) (pBin f p q) := ⟨PE.imp (pe_op ho ha.pe hb.pe) (rd_bin hs)⟩
theorem se_cmp {op : CmpOp} (ho : OpR X (compareOp op) r) (hs : OpSem X.K r f) (ha : SE X W a p) (hb : SE X W b q) (hm : behindInMarks op b = false := by first | exact nomark _ | rfl) : SE X W (.Compare a [op] [b] pos) (pBin f p q) := ⟨PE.imp (pe_cmpR ho ha.pe hb.pe hm) (rd_bin hs)⟩
/-- a value that is a bool, as a test -/
@[simp] def pTst (p : PEx) : PTx := fun sl S Q E => p sl S (fun r S1 => match r with | .dat (.bl c) => Q c S1 | _ => False) E
theorem rd_tst {K : PySem.W.Frag} (σ : L2.St) (H : Hp) (Q : Bool → Hp → Prop) (h : rdT K W (pTst p) σ H Q) : rdE K W p σ H fun x H1 => ∃ c, x = .bl c ∧ Q c H1 := by
  obtain ⟨g, F, sl, S, Q', E', rel, hp, post, exc⟩ := h
  refine ⟨g, F, sl, S, _, E', rel, hp, fun r S' v H' F' s rel' rr ap hq => ?_, exc⟩
  cases r with
  | dat d =>
    cases d with
    | bl c =>
      cases rr
      exact ⟨c, rfl, post c S' H' F' s rel' hq⟩
    | _ => exact hq.elim
  | _ => exact hq.elim
theorem st_val {e : Expr} (h : SE X W e p) (he : ∀ whole, isTrue e X.env whole = (do let v ← whole; standAt e.pos; holding [v] (truthy v)) := by intro _; rfl) : ST X W e (pTst p) := ⟨PT.imp (pt_val h.pe he) rd_tst⟩
theorem st_cmp {op : CmpOp} (ho : OpR X (compareOp op) r) (hs : OpSem X.K r f) (ha : SE X W a p) (hb : SE X W b q) (hm : behindInMarks op b = false := by first | exact nomark _ | rfl) : ST X W (.Compare a [op] [b] pos) (pTst (pBin f p q)) :=
  ⟨PT.imp (pt_cmpR ho ha.pe hb.pe hm) fun σ H Q h => rd_bin hs _ _ _ (rd_tst (p := pBin f p q) σ H Q h)⟩
end

/-! ### results of operations -/
section
variable {K : PySem.W.Frag}
theorem OpSem.or {r r' : R2} {f f' : PF2} (h : OpSem K r f) (h' : OpSem K r' f') : OpSem K (fun x y H Q => r x y H Q ∨ r' x y H Q) (fun a b Q => f a b Q ∨ f' a b Q) := fun g F sl S σ H v1 v2 d1 d2 Q Qr rel r1 r2 hf post => by
  rcases hf with hf | hf
  · exact .inl (h g F sl S σ H v1 v2 d1 d2 Q Qr rel r1 r2 hf post)
  · exact .inr (h' g F sl S σ H v1 v2 d1 d2 Q Qr rel r1 r2 hf post)
/-- ints to an int or a bool -/
@[simp] def fII (C : Int → Int → Prop) (o : Int → Int → D) : PF2 := fun a b Q => match a, b with
  | .int i, .int j => C i j ∧ Q (.dat (o i j))
  | _, _ => False
theorem sem_II {C : Int → Int → Prop} {o : Int → Int → D} {gv : Int → Int → V} (hr : ∀ F i j, Rp K F (gv i j) (o i j)) : OpSem K (rI C gv) (fII C o) := fun g F sl S σ H v1 v2 d1 d2 Q Qr rel r1 r2 hf post => by
  cases r1 with
  | int i =>
    cases r2 with
    | int j =>
      obtain ⟨hc, hq⟩ := hf
      exact ⟨i, j, rfl, rfl, hc, post (.dat (o i j)) _ H F Stp.refl rel (hr F i j) trivial hq⟩
    | _ => exact hf.elim
  | _ => exact hf.elim
/-- .. without a condition -/
@[simp] def fI0 (o : Int → Int → D) : PF2 := fun a b Q => match a, b with
  | .int i, .int j => Q (.dat (o i j))
  | _, _ => False
theorem sem_I0 {o : Int → Int → D} {gv : Int → Int → V} (hr : ∀ F i j, Rp K F (gv i j) (o i j)) : OpSem K (rI0 gv) (fI0 o) := fun g F sl S σ H v1 v2 d1 d2 Q Qr rel r1 r2 hf post => by
  cases r1 with
  | int i =>
    cases r2 with
    | int j => exact ⟨i, j, rfl, rfl, post (.dat (o i j)) _ H F Stp.refl rel (hr F i j) trivial hf⟩
    | _ => exact hf.elim
  | _ => exact hf.elim
end
section
variable {X : Cx} {W : WX} {a b : Expr} {p q : PEx} {pos : Pos}
@[simp] def fSub : PF2 := fI0 fun i j => .int (i - j)
theorem se_sub (ha : SE X W a p) (hb : SE X W b q) : SE X W (.BinOp a .Sub b pos) (pBin fSub p q) := se_op op_sub (sem_I0 fun _ _ _ => .int _) ha hb
/-- // by anything below 2 ^ 9000 -/
def CDv (_ j : Int) : Prop := j ≠ 0 ∧ j.natAbs.log2 < 9000
@[simp] def fDiv : PF2 := fII CDv fun i j => .int (i.fdiv j)
theorem op_dv : OpR X (binaryOp .FloorDiv) (rI CDv fun i j => .int (i.fdiv j)) := opI fun _ _ _ _ _ _ _ hc q => PyProof.Rows.floordiv_int hc.1 q (.inl (PyProof.noPylong_of_log2 hc.2))
theorem se_div (ha : SE X W a p) (hb : SE X W b q) : SE X W (.BinOp a .FloorDiv b pos) (pBin fDiv p q) := se_op op_dv (sem_II fun _ _ _ => .int _) ha hb
@[simp] def fMod : PF2 := fII (fun _ j => j ≠ 0) fun i j => .int (i.fmod j)
theorem se_mod (ha : SE X W a p) (hb : SE X W b q) : SE X W (.BinOp a .Mod b pos) (pBin fMod p q) := se_op op_modN (sem_II fun _ _ _ => .int _) ha hb
@[simp] def fPow : PF2 := fII CPow fun i j => .int (i ^ j.toNat)
theorem se_pow (ha : SE X W a p) (hb : SE X W b q) : SE X W (.BinOp a .Pow b pos) (pBin fPow p q) := se_op op_pow (sem_II fun _ _ _ => .int _) ha hb
theorem opR_or {f : Value → Value → Sem Value} {r r' : R2} (h : OpR X f r) (h' : OpR X f r') : OpR X f (fun x y H Q => r x y H Q ∨ r' x y H Q) := fun pins s σ H x y v u Q I rx ry q => q.elim (h pins s σ H x y v u Q I rx ry) (h' pins s σ H x y v u Q I rx ry)

/-! + of ints, of lists, of tuples; * of ints, of a list and an int -/
@[simp] def fAdd : PF2 := fun a b Q => match a, b with
  | .int i, .int j => Q (.dat (.int (i + j)))
  | .lst xs, .lst ys => xs.length + ys.length ≤ sizeLine ∧ Q (.own (xs ++ ys))
  | _, _ => False
theorem sem_add {K : PySem.W.Frag} : OpSem K (fun x y H Q => rI0 (fun i j => .int (i + j)) x y H Q ∨ rCat x y H Q) fAdd := fun g F sl S σ H v1 v2 d1 d2 Q Qr rel r1 r2 hf post => by
  cases r1 with
  | int i =>
    cases r2 with
    | int j => exact .inl ⟨i, j, rfl, rfl, post (.dat (.int (i + j))) _ H F Stp.refl rel (.int _) trivial hf⟩
    | _ => exact hf.elim
  | lst h1 q1 =>
    cases r2 with
    | lst h2 q2 =>
      obtain ⟨hz, hq⟩ := hf
      refine .inr ⟨_, _, _, _, rfl, rfl, rel.cor.fh _ _ h1, rel.cor.fh _ _ h2, by rw [q1.length, q2.length]; exact hz, fun p hp => ?_⟩
      exact post (.own _) _ _ F (Stp.alloc hp) (rel.alloc hp) ⟨p, _, rfl, upd_same, rel.cor.free hp, rel.cor.new hp, q1.append q2⟩ (nw_new hp) hq
    | _ => exact hf.elim
  | _ => exact hf.elim
theorem se_add (ha : SE X W a p) (hb : SE X W b q) : SE X W (.BinOp a .Add b pos) (pBin fAdd p q) := se_op (opR_or op_add op_cat) sem_add ha hb
@[simp] def fMul : PF2 := fun a b Q => match a, b with
  | .int i, .int j => CMulW i j ∧ Q (.dat (.int (i * j)))
  | .lst xs, .int k => (-(2 ^ 63) ≤ k ∧ k < 2 ^ 63 ∧ xs.length * k.toNat ≤ sizeLine) ∧ Q (.own (List.replicate k.toNat xs).flatten)
  | _, _ => False
theorem RpL.rep {K : PySem.W.Frag} {F : Hp} {vs : List V} {ds : List D} (h : RpL K F vs ds) : ∀ n : Nat, RpL K F (List.replicate n vs).flatten (List.replicate n ds).flatten
  | 0 => .nil
  | n + 1 => by
    rw [List.replicate_succ, List.replicate_succ, List.flatten_cons, List.flatten_cons]
    exact h.append (RpL.rep h n)
theorem sem_mul {K : PySem.W.Frag} : OpSem K (fun x y H Q => rI CMulW (fun i j => .int (i * j)) x y H Q ∨ rRep x y H Q) fMul := fun g F sl S σ H v1 v2 d1 d2 Q Qr rel r1 r2 hf post => by
  cases r1 with
  | int i =>
    cases r2 with
    | int j => exact .inl ⟨i, j, rfl, rfl, hf.1, post (.dat (.int (i * j))) _ H F Stp.refl rel (.int _) trivial hf.2⟩
    | _ => exact hf.elim
  | lst h1 q1 =>
    cases r2 with
    | int k =>
      obtain ⟨⟨z1, z2, hz⟩, hq⟩ := hf
      refine .inr ⟨_, _, _, rfl, rfl, rel.cor.fh _ _ h1, z1, z2, by rw [q1.length]; exact hz, fun p hp => ?_⟩
      exact post (.own _) _ _ F (Stp.alloc hp) (rel.alloc hp) ⟨p, _, rfl, upd_same, rel.cor.free hp, rel.cor.new hp, q1.rep _⟩ (nw_new hp) hq
    | _ => exact hf.elim
  | _ => exact hf.elim
theorem se_mul (ha : SE X W a p) (hb : SE X W b q) : SE X W (.BinOp a .Mult b pos) (pBin fMul p q) := se_op (opR_or op_mulW op_rep) sem_mul ha hb
/-! order of ints -/
@[simp] abbrev fCmp (o : Int → Int → Bool) : PF2 := fI0 fun i j => .bl (o i j)
@[simp] def fLt : PF2 := fCmp fun i j => decide (i < j)
@[simp] def fLe : PF2 := fCmp fun i j => decide (i ≤ j)
@[simp] def fGt : PF2 := fCmp fun i j => decide (j < i)
@[simp] def fGe : PF2 := fCmp fun i j => decide (j ≤ i)
theorem se_lt (ha : SE X W a p) (hb : SE X W b q) : SE X W (.Compare a [.Lt] [b] pos) (pBin fLt p q) := se_cmp op_lt (sem_I0 fun _ _ _ => .bl _) ha hb
theorem se_le (ha : SE X W a p) (hb : SE X W b q) : SE X W (.Compare a [.LtE] [b] pos) (pBin fLe p q) := se_cmp op_le (sem_I0 fun _ _ _ => .bl _) ha hb
theorem se_gt (ha : SE X W a p) (hb : SE X W b q) : SE X W (.Compare a [.Gt] [b] pos) (pBin fGt p q) := se_cmp op_gt (sem_I0 fun _ _ _ => .bl _) ha hb
theorem se_ge (ha : SE X W a p) (hb : SE X W b q) : SE X W (.Compare a [.GtE] [b] pos) (pBin fGe p q) := se_cmp op_ge (sem_I0 fun _ _ _ => .bl _) ha hb
theorem st_lt (ha : SE X W a p) (hb : SE X W b q) : ST X W (.Compare a [.Lt] [b] pos) (pTst (pBin fLt p q)) := st_cmp op_lt (sem_I0 fun _ _ _ => .bl _) ha hb
theorem st_le (ha : SE X W a p) (hb : SE X W b q) : ST X W (.Compare a [.LtE] [b] pos) (pTst (pBin fLe p q)) := st_cmp op_le (sem_I0 fun _ _ _ => .bl _) ha hb
theorem st_gt (ha : SE X W a p) (hb : SE X W b q) : ST X W (.Compare a [.Gt] [b] pos) (pTst (pBin fGt p q)) := st_cmp op_gt (sem_I0 fun _ _ _ => .bl _) ha hb
theorem st_ge (ha : SE X W a p) (hb : SE X W b q) : ST X W (.Compare a [.GtE] [b] pos) (pTst (pBin fGe p q)) := st_cmp op_ge (sem_I0 fun _ _ _ => .bl _) ha hb
end

/-! ### == of data -/
mutual
def D.py : D → PyData
  | .non => .none
  | .bl b => .bool b
  | .int i => .int i
  | .str x => .str x
  | .lst ds => .list (D.pys ds)
  | .frl ds => .list (D.pys ds)
  | .tup ds => .tuple (D.pys ds)
  | .obj _ _ _ => .none
def D.pys : List D → List PyData
  | [] => []
  | d :: r => d.py :: D.pys r
/-- no instance within -/
def D.flat : D → Bool
  | .lst ds => D.flats ds
  | .frl ds => D.flats ds
  | .tup ds => D.flats ds
  | .obj _ _ _ => false
  | _ => true
def D.flats : List D → Bool
  | [] => true
  | d :: r => d.flat && D.flats r
end
mutual
theorem Rp.dp {K : PySem.W.Frag} {F : Hp} : ∀ {v : V} {d : D}, Rp K F v d → d.flat = true → Dp K F v d.py
  | _, _, .non, _ => .non
  | _, _, .bl b, _ => .bl b
  | _, _, .int i, _ => .int i
  | _, _, .str x, _ => .str x
  | _, _, .lst h r, e => .lst (SqL.of h) (RpL.dp r (by simpa only [D.flat] using e))
  | _, _, .frl h r, e => .lst h (RpL.dp r (by simpa only [D.flat] using e))
  | _, _, .tup h r, e => .tup h (RpL.dp r (by simpa only [D.flat] using e))
  | _, _, .obj _ _ _ _, e => by simp [D.flat] at e
theorem RpL.dp {K : PySem.W.Frag} {F : Hp} : ∀ {vs : List V} {ds : List D}, RpL K F vs ds → D.flats ds = true → DpAll K F vs (D.pys ds)
  | _, _, .nil, _ => .nil
  | _, _, .cons h r, e => by
    simp only [D.flats, Bool.and_eq_true] at e
    exact .cons (Rp.dp h e.1) (RpL.dp r e.2)
end
mutual
theorem dp_mono {K : PySem.W.Frag} {F F' : Hp} (s : Same F F') : ∀ {v : V} {d : PyData}, Dp K F v d → Dp K F' v d
  | _, _, .non => .non
  | _, _, .bl b => .bl b
  | _, _, .int i => .int i
  | _, _, .str x => .str x
  | _, _, .lst h r => .lst (sqL_same s h) (dps_mono s r)
  | _, _, .tup h r => .tup (sqT_same s h) (dps_mono s r)
theorem dps_mono {K : PySem.W.Frag} {F F' : Hp} (s : Same F F') : ∀ {vs : List V} {ds : List PyData}, DpAll K F vs ds → DpAll K F' vs ds
  | _, _, .nil => .nil
  | _, _, .cons h r => .cons (dp_mono s h) (dps_mono s r)
end
def shp (d : D) : Prop := d.flat = true ∧ SeqAt.shaped d.py = true
def fEqD : PF2 := fun a b Q => shp a ∧ shp b ∧ Q (.dat (.bl (PyData.eqv a.py b.py)))
def fNeD : PF2 := fun a b Q => shp a ∧ shp b ∧ Q (.dat (.bl (!PyData.eqv a.py b.py)))
theorem sem_eqD {K : PySem.W.Frag} : OpSem K (rEqD K) fEqD := fun g F sl S σ H v1 v2 d1 d2 Q Qr rel r1 r2 hf post =>
  ⟨_, _, dp_mono rel.cor.fh (r1.dp hf.1.1), dp_mono rel.cor.fh (r2.dp hf.2.1.1), hf.1.2, hf.2.1.2, post (.dat (.bl _)) _ H F Stp.refl rel (.bl _) trivial hf.2.2⟩
theorem sem_neD {K : PySem.W.Frag} : OpSem K (rNeD K) fNeD := fun g F sl S σ H v1 v2 d1 d2 Q Qr rel r1 r2 hf post =>
  ⟨_, _, dp_mono rel.cor.fh (r1.dp hf.1.1), dp_mono rel.cor.fh (r2.dp hf.2.1.1), hf.1.2, hf.2.1.2, post (.dat (.bl _)) _ H F Stp.refl rel (.bl _) trivial hf.2.2⟩
/-- of ints alone (the commonest) -/
def fEqI : PF2 := fCmp fun i j => decide (i = j)
def fNeI : PF2 := fCmp fun i j => !decide (i = j)
def rEqI : R2 := rI0 fun i j => .bl (decide (i = j))
def rNeI : R2 := rI0 fun i j => .bl (!decide (i = j))
section
variable {X : Cx} {W : WX} {a b : Expr} {p q : PEx} {pos : Pos}
theorem op_eqI : OpR X (compareOp .Eq) rEqI := opB0 fun _ _ _ _ _ _ _ h => PyProof.Rows.eq_int (by rw [Bool.beq_eq_decide_eq]; exact h)
theorem op_neI : OpR X (compareOp .NotEq) rNeI := opB0 fun _ _ _ _ _ _ _ h => PyProof.Rows.ne_int (by rw [bne, Bool.beq_eq_decide_eq]; exact h)
@[simp] def fEq : PF2 := fun a b Q => match a, b with
  | .int i, .int j => Q (.dat (.bl (decide (i = j))))
  | a, b => fEqD a b Q
@[simp] def fNe : PF2 := fun a b Q => match a, b with
  | .int i, .int j => Q (.dat (.bl (!decide (i = j))))
  | a, b => fNeD a b Q
theorem sem_eq {K : PySem.W.Frag} : OpSem K (fun x y H Q => rEqI x y H Q ∨ rEqD K x y H Q) fEq := fun g F sl S σ H v1 v2 d1 d2 Q Qr rel r1 r2 hf post => by
  unfold fEq at hf
  split at hf
  · exact .inl ((sem_I0 (K := K) (o := fun i j => .bl (decide (i = j))) fun _ _ _ => .bl _) g F sl S σ H v1 v2 _ _ Q Qr rel r1 r2 hf post)
  · exact .inr (sem_eqD g F sl S σ H v1 v2 _ _ Q Qr rel r1 r2 hf post)
theorem sem_ne {K : PySem.W.Frag} : OpSem K (fun x y H Q => rNeI x y H Q ∨ rNeD K x y H Q) fNe := fun g F sl S σ H v1 v2 d1 d2 Q Qr rel r1 r2 hf post => by
  unfold fNe at hf
  split at hf
  · exact .inl ((sem_I0 (K := K) (o := fun i j => .bl (!decide (i = j))) fun _ _ _ => .bl _) g F sl S σ H v1 v2 _ _ Q Qr rel r1 r2 hf post)
  · exact .inr (sem_neD g F sl S σ H v1 v2 _ _ Q Qr rel r1 r2 hf post)
theorem se_eq (hu : X.A.units + 64 < cLine) (ha : SE X W a p) (hb : SE X W b q) : SE X W (.Compare a [.Eq] [b] pos) (pBin fEq p q) := se_cmp (opR_or op_eqI (op_eqD hu)) sem_eq ha hb
theorem se_ne (hu : X.A.units + 64 < cLine) (ha : SE X W a p) (hb : SE X W b q) : SE X W (.Compare a [.NotEq] [b] pos) (pBin fNe p q) := se_cmp (opR_or op_neI (op_neD hu)) sem_ne ha hb
theorem st_eq (hu : X.A.units + 64 < cLine) (ha : SE X W a p) (hb : SE X W b q) : ST X W (.Compare a [.Eq] [b] pos) (pTst (pBin fEq p q)) := st_cmp (opR_or op_eqI (op_eqD hu)) sem_eq ha hb
theorem st_ne (hu : X.A.units + 64 < cLine) (ha : SE X W a p) (hb : SE X W b q) : ST X W (.Compare a [.NotEq] [b] pos) (pTst (pBin fNe p q)) := st_cmp (opR_or op_neI (op_neD hu)) sem_ne ha hb
/-! is None -/
@[simp] def fIsN : PF2 := fun a b Q => match b with
  | .non => match a with
    | .non => Q (.dat (.bl true))
    | _ => Q (.dat (.bl false))
  | _ => False
@[simp] def fNotN : PF2 := fun a b Q => match b with
  | .non => match a with
    | .non => Q (.dat (.bl false))
    | _ => Q (.dat (.bl true))
  | _ => False
theorem sem_isN {K : PySem.W.Frag} : OpSem K (fun x y H Q => y = .non ∧ Q (.bl (decide (x = .non))) H) fIsN := fun g F sl S σ H v1 v2 d1 d2 Q Qr rel r1 r2 hf post => by
  cases r2 with
  | non =>
    refine ⟨rfl, ?_⟩
    cases r1 <;> exact post (.dat (.bl _)) _ H F Stp.refl rel (by first | exact Rp.bl true | exact Rp.bl false) trivial hf
  | _ => exact hf.elim
theorem sem_notN {K : PySem.W.Frag} : OpSem K (fun x y H Q => y = .non ∧ Q (.bl (!decide (x = .non))) H) fNotN := fun g F sl S σ H v1 v2 d1 d2 Q Qr rel r1 r2 hf post => by
  cases r2 with
  | non =>
    refine ⟨rfl, ?_⟩
    cases r1 <;> exact post (.dat (.bl _)) _ H F Stp.refl rel (by first | exact Rp.bl true | exact Rp.bl false) trivial hf
  | _ => exact hf.elim
theorem se_isN (ha : SE X W a p) (hb : SE X W b q) : SE X W (.Compare a [.Is] [b] pos) (pBin fIsN p q) := se_cmp op_isN sem_isN ha hb
theorem se_notN (ha : SE X W a p) (hb : SE X W b q) : SE X W (.Compare a [.IsNot] [b] pos) (pBin fNotN p q) := se_cmp op_notN sem_notN ha hb
theorem st_isN (ha : SE X W a p) (hb : SE X W b q) : ST X W (.Compare a [.Is] [b] pos) (pTst (pBin fIsN p q)) := st_cmp op_isN sem_isN ha hb
theorem st_notN (ha : SE X W a p) (hb : SE X W b q) : ST X W (.Compare a [.IsNot] [b] pos) (pTst (pBin fNotN p q)) := st_cmp op_notN sem_notN ha hb
end
end Py
end
section
set_option Elab.async false
set_option linter.all false
set_option maxRecDepth 100000
set_option maxHeartbeats 4000000
/-! Arguments, calls of built-ins, sequences, displays, and, or, not. -/
namespace Py
open PySem L2

/-! ### arguments -/
@[simp] def pNil : PAx := fun _ S Q _ => Q [] S
@[simp] def pCons (p : PEx) (q : PAx) : PAx := fun sl S Q E => p sl S (fun r S1 => q sl S1 (fun rs S2 => Q (r.arg :: rs) S2) E) E
theorem RA.mono {K : PySem.W.Frag} {g : G} {F F' : Hp} (s : Same F F') {r : Res} {v : V} (h : RA K g F r v) : RA K g F' r v := by
  cases r with
  | dat d => exact Rp.mono s h
  | own ds => exact h
  | drw => exact h
section
variable {X : Cx} {W : WX} {e : Expr} {es : List Expr} {p : PEx} {q : PAx} {pos : Pos}
theorem sa_nil : SA X W [] pNil := ⟨PA.imp pa_nil fun σ H Q h => by
  obtain ⟨g, F, sl, S, Q', E', rel, hp, post, exc⟩ := h
  exact post [] S [] H F Stp.refl rel .nil hp⟩
theorem rd_cons {K : PySem.W.Frag} {W : WX} {p : PEx} {q : PAx} (σ : L2.St) (H : Hp) (Q : List V → Hp → Prop) (h : rdA K W (pCons p q) σ H Q) : tCons (rdE K W p) (rdA K W q) σ H Q := by
  obtain ⟨g, F, sl, S, Q', E', rel, hp, post, exc⟩ := h
  refine ⟨g, F, sl, S, _, E', rel, hp, fun r S1 v H1 F1 s1 rel1 rr nw h1 => ?_, exc⟩
  have key : ∃ F2, Stp g F H F2 H1 ∧ Rel K g F2 sl S1 σ H1 ∧ RA K g F2 r.arg v := by
    cases r with
    | dat d => exact ⟨F1, s1, rel1, rr⟩
    | own ds =>
      obtain ⟨F2, _, s2, q⟩ := rel1.plain rel rr s1 nw rfl
      exact ⟨F2, s2, q⟩
    | drw => exact ⟨F1, s1, rel1, rr⟩
  obtain ⟨F2, s2, rel2, ra⟩ := key
  exact ⟨g, F2, sl, S1, _, E', rel2, h1, fun rs S2 vs H2 F3 s3 rel3 ras h3 => post _ S2 _ H2 F3 (s2.trans s3) rel3 (.cons (ra.mono s3.f) ras) h3, exc.mono s2.f⟩
theorem sa_cons (h : SE X W e p) (hr : SA X W es q) (hs : starEach (e :: es) X.env = (false, eval e X.env) :: starEach es X.env := by rfl) : SA X W (e :: es) (pCons p q) := ⟨PA.imp (pa_cons h.pe hr.pa hs) rd_cons⟩
end

/-! ### displays -/
@[simp] def Res.ds : List Res → Option (List D)
  | [] => some []
  | .dat d :: r => match Res.ds r with
    | some ds => some (d :: ds)
    | none => none
  | _ :: _ => none
theorem ras_ds {K : PySem.W.Frag} {g : G} {F : Hp} : ∀ {rs : List Res} {vs : List V} {ds : List D}, RAs K g F rs vs → Res.ds rs = some ds → RpL K F vs ds
  | _, _, _, .nil, e => by cases e; exact .nil
  | .dat d :: r, _, _, .cons h t, e => by
    simp only [Res.ds] at e
    cases e2 : Res.ds r with
    | none => rw [e2] at e; cases e
    | some es =>
      rw [e2] at e
      cases e
      exact .cons h (ras_ds t e2)
  | .own d :: r, _, _, .cons h t, e => by cases h
  | .drw :: r, _, _, .cons h t, e => by cases e
@[simp] def dats (p : PAx) (sl : List Slot) (S : List Int) (Q : List D → List Int → Prop) (E : PXQ) : Prop := p sl S (fun rs S1 => match Res.ds rs with | some ds => Q ds S1 | none => False) E
theorem rdA_dats {K : PySem.W.Frag} {W : WX} {g : G} {F H : Hp} {sl : List Slot} {S : List Int} {σ : L2.St} {p : PAx} {E' : PXQ} {Q : List V → Hp → Prop} {Qd : List D → List Int → Prop} (rel : Rel K g F sl S σ H) (hp : dats p sl S Qd E') (exc : ExcE K W g F sl σ E')
    (post : ∀ ds S1 vs H1 F1, Stp g F H F1 H1 → Rel K g F1 sl S1 σ H1 → RpL K F1 vs ds → Qd ds S1 → Q vs H1) : rdA K W p σ H Q :=
  ⟨g, F, sl, S, _, E', rel, hp, fun rs S' vs H' F' s rel' ras hq => by
    cases e : Res.ds rs with
    | none => simp only [e] at hq
    | some ds =>
      simp only [e] at hq
      exact post ds S' vs H' F' s rel' (ras_ds ras e) hq, exc⟩
@[simp] def pTup (p : PAx) : PEx := fun sl S Q E => dats p sl S (fun ds S1 => ds.length ≤ sizeLine ∧ Q (.dat (.tup ds)) S1) E
@[simp] def pLst (p : PAx) : PEx := fun sl S Q E => dats p sl S (fun ds S1 => ds.length ≤ sizeLine ∧ Q (.own ds) S1) E
section
variable {X : Cx} {W : WX} {e : Expr} {es : List Expr} {p : PAx} {pos : Pos}
theorem se_tup {k} (h : SA X W es p) : SE X W (.Tuple es k pos) (pTup p) := ⟨PE.imp (pe_tup h.pa) fun σ H Q h => by
  obtain ⟨g, F, sl, S, Q', E', rel, hp, post, exc⟩ := h
  refine rdA_dats rel hp exc fun ds S1 vs H1 F1 s1 rel1 rl ⟨hz, h1⟩ => ⟨by rw [rl.length]; exact hz, fun a ha => ?_⟩
  have hf := rel1.cor.free ha
  exact post (.dat (.tup ds)) S1 _ _ _ (s1.trans (Stp.allocF ha hf)) (rel1.allocF ha) (.tup (SqT.of upd_same) (rl.mono (Same.upd_new hf))) trivial h1⟩
theorem se_lst (h : SA X W es p) : SE X W (.List es pos) (pLst p) := ⟨PE.imp (pe_lst h.pa) fun σ H Q h => by
  obtain ⟨g, F, sl, S, Q', E', rel, hp, post, exc⟩ := h
  refine rdA_dats rel hp exc fun ds S1 vs H1 F1 s1 rel1 rl ⟨hz, h1⟩ => ⟨by rw [rl.length]; exact hz, fun a ha => ?_⟩
  exact post (.own ds) S1 _ _ _ (s1.trans (Stp.alloc ha)) (rel1.alloc ha) ⟨a, vs, rfl, upd_same, rel1.cor.free ha, rel1.cor.new ha, rl⟩ (nw_new (s1.d a ha)) h1⟩
end

/-! ### sequences, read in place: true a list, false a tuple -/
abbrev PQx := List Slot → List Int → (Bool → List D → List Int → Prop) → PXQ → Prop
def SqK (K : PySem.W.Frag) (H : Hp) (a : Addr) (vs : List V) : Bool → Prop
  | true => SqL K H a vs
  | false => SqT K H a vs
theorem SqK.or {K : PySem.W.Frag} {H : Hp} {a : Addr} {vs : List V} {k : Bool} (h : SqK K H a vs k) : SqL K H a vs ∨ SqT K H a vs := by
  cases k with
  | true => exact .inl h
  | false => exact .inr h
theorem SqK.same {K : PySem.W.Frag} {F F' : Hp} {a : Addr} {vs : List V} {k : Bool} (s : Same F F') (h : SqK K F a vs k) : SqK K F' a vs k := by
  cases k with
  | true => exact sqL_same s h
  | false => exact sqT_same s h
def SV (K : PySem.W.Frag) (F : Hp) (sl : List Slot) (σ : L2.St) (v : V) (k : Bool) (ds : List D) : Prop :=
  (∃ (a : Addr) (vs : List V), v = V.ref a ∧ SqK K F a vs k ∧ RpL K F vs ds) ∨ ∃ (i : Nat) (a : Addr), k = true ∧ v = V.ref a ∧ sl[i]? = some (Slot.own ds) ∧ σ[i]? = some (some (V.ref a))
theorem SV.mono {K : PySem.W.Frag} {F F' : Hp} {sl : List Slot} {σ : L2.St} {v : V} {k : Bool} {ds : List D} (h : SV K F sl σ v k ds) (s : Same F F') : SV K F' sl σ v k ds := by
  rcases h with ⟨a, vs, e, h, r⟩ | h
  · exact .inl ⟨a, vs, e, h.same s, r.mono s⟩
  · exact .inr h
theorem SV.use {K : PySem.W.Frag} {g : G} {F H : Hp} {sl : List Slot} {S : List Int} {σ : L2.St} {v : V} {k : Bool} {ds : List D} (h : SV K F sl σ v k ds) (rel : Rel K g F sl S σ H) : ∃ a vs, v = V.ref a ∧ SqK K H a vs k ∧ RpL K F vs ds := by
  rcases h with ⟨a, vs, e, h, r⟩ | ⟨i, a, rfl, e, h, hs⟩
  · exact ⟨a, vs, e, h.same rel.cor.fh, r⟩
  · obtain ⟨p, vs, e1, h1, _, _, r⟩ := rel.own h
    rw [hs] at e1
    cases e1
    exact ⟨a, vs, e, SqL.of h1, r⟩
def rdQ (K : PySem.W.Frag) (W : WX) (p : PQx) : TE := fun σ H Q => ∃ g F sl S Q' E', Rel K g F sl S σ H ∧ p sl S Q' E' ∧
  (∀ k ds S' v H' F', Stp g F H F' H' → Rel K g F' sl S' σ H' → SV K F' sl σ v k ds → Q' k ds S' → Q v H') ∧ ExcE K W g F sl σ E'
structure SQ (X : Cx) (W : WX) (e : Expr) (p : PQx) : Prop where
  pe : PE X e (rdQ X.K W p)
/-- a value's items -/
def seqD (d : D) (Q : Bool → List D → Prop) : Prop := match d with
  | .lst ds => Q true ds
  | .frl ds => Q true ds
  | .tup ds => Q false ds
  | _ => False
@[simp] theorem seqD_lst (ds : List D) (Q : Bool → List D → Prop) : seqD (.lst ds) Q = Q true ds := rfl
@[simp] theorem seqD_frl (ds : List D) (Q : Bool → List D → Prop) : seqD (.frl ds) Q = Q true ds := rfl
@[simp] theorem seqD_tup (ds : List D) (Q : Bool → List D → Prop) : seqD (.tup ds) Q = Q false ds := rfl
@[simp] theorem seqD_int (i : Int) (Q : Bool → List D → Prop) : seqD (.int i) Q = False := rfl
@[simp] theorem seqD_non (Q : Bool → List D → Prop) : seqD .non Q = False := rfl
@[simp] def pQVar (i : Nat) : PQx := fun sl S Q _ => match sl[i]? with
  | some (.own ds) => Q true ds S
  | some (.dat d) => seqD d fun k ds => Q k ds S
  | _ => False
@[simp] def pQOf (p : PEx) : PQx := fun sl S Q E => dat p sl S (fun d S1 => seqD d fun k ds => Q k ds S1) E
theorem sv_of {K : PySem.W.Frag} {F : Hp} {sl : List Slot} {σ : L2.St} {v : V} {d : D} {Q : Bool → List D → Prop} (r : Rp K F v d) (e : seqD d Q) : ∃ k ds, SV K F sl σ v k ds ∧ Q k ds := by
  cases r with
  | lst h q => exact ⟨true, _, .inl ⟨_, _, rfl, SqL.of h, q⟩, e⟩
  | frl h q => exact ⟨true, _, .inl ⟨_, _, rfl, h, q⟩, e⟩
  | tup h q => exact ⟨false, _, .inl ⟨_, _, rfl, h, q⟩, e⟩
  | _ => exact e.elim
section
variable {X : Cx} {W : WX} {e b : Expr} {p : PEx} {q : PQx} {pos : Pos}
theorem sq_var (i : Nat) {x : Str} {pos : Pos} (hN : X.N[i]? = some x := by rfl) (hv : Vis X.env.scope x := by first | exact Or.inl rfl | exact Or.inr (Or.inl rfl) | exact Or.inr (Or.inr rfl)) (hd : (x == ("__debug__" : Str)) = false := by decide)
    (hcd : (x == ("__classdict__" : Str)) = false := by decide) : SQ X W (.Name x pos) (pQVar i) := ⟨PE.imp (pe_var hN hv hd hcd) fun σ H Q h => by
  obtain ⟨g, F, sl, S, Q', E', rel, hp, post, exc⟩ := h
  unfold pQVar at hp
  cases e : sl[i]? with
  | none => rw [e] at hp; exact hp.elim
  | some s =>
    rw [e] at hp
    cases s with
    | dat d =>
      obtain ⟨v, h1, h2⟩ := rel.dat e
      obtain ⟨k, ds, sv, hq⟩ := sv_of (sl := sl) (σ := σ) h2 hp
      exact ⟨v, h1, post k ds S v H F Stp.refl rel sv hq⟩
    | own ds =>
      obtain ⟨a, vs, h1, h2⟩ := rel.own e
      exact ⟨_, h1, post true ds S _ H F Stp.refl rel (.inr ⟨i, a, rfl, rfl, e, h1⟩) hp⟩
    | un => exact hp.elim
    | drw => exact hp.elim
    | exc a d x => exact hp.elim⟩
theorem sq_of (h : SE X W e p) : SQ X W e (pQOf p) := ⟨PE.imp h.pe fun σ H Q h => by
  obtain ⟨g, F, sl, S, Q', E', rel, hp, post, exc⟩ := h
  refine rdE_dat rel hp exc fun d S1 v H1 F1 s1 rel1 r1 h1 => ?_
  obtain ⟨k, ds, sv, hq⟩ := sv_of (sl := sl) (σ := σ) r1 h1
  exact post k ds S1 v H1 F1 s1 rel1 sv hq⟩
/-! len -/
@[simp] def pLen (q : PQx) : PEx := fun sl S Q E => q sl S (fun _ ds S1 => Q (.dat (.int ds.length)) S1) E
theorem se_len (hm : X.mg "len" = none) (h : SQ X W e q) {x : Pos} (hg : Gl X "len" := by rfl)
    (he : starEach (e :: []) X.env = (false, eval e X.env) :: starEach [] X.env := by rfl) : SE X W (.Call (.Name "len" x) [e] [] pos) (pLen q) := ⟨PE.imp (pe_callB call_len_seq hg hm PySem.boot_len (pa_cons h.pe pa_nil he) (he := he)) fun σ H Q h => by
  obtain ⟨g, F, sl, S, Q', E', rel, hp, post, exc⟩ := h
  refine ⟨g, F, sl, S, _, E', rel, hp, fun k ds S1 v H1 F1 s1 rel1 sv h1 => ?_, exc⟩
  obtain ⟨a, vs, rfl, hs, rl⟩ := sv.use rel1
  exact ⟨a, vs, rfl, hs.or, post (.dat (.int ds.length)) S1 _ H1 F1 s1 rel1 (by show Rp _ _ _ _; rw [rl.length]; exact .int _) trivial h1⟩⟩
/-! items -/
@[simp] def pIx (q : PQx) (p : PEx) : PEx := fun sl S Q E => q sl S (fun _ ds S1 => dat p sl S1 (fun i S2 => match i with
  | .int k => match atI ds k with
    | some d => Q (.dat d) S2
    | none => False
  | _ => False) E) E
theorem at_rp {K : PySem.W.Frag} {F : Hp} {vs : List V} {ds : List D} {k : Int} {d : D} (r : RpL K F vs ds) (e : atI ds k = some d) : ∃ v, atI vs k = some v ∧ Rp K F v d := by
  unfold atI at e ⊢
  rw [r.length]
  cases h : ixN ds.length k with
  | none => rw [h] at e; cases e
  | some j =>
    rw [h] at e
    exact r.get e
theorem se_ix (ha : SQ X W e q) (hb : SE X W b p) (hs : PlainIx b := by exact fun _ _ => rfl) : SE X W (.Subscript e b pos) (pIx q p) := ⟨PE.imp (pe_ix ix_seq ha.pe hb.pe hs) fun σ H Q h => by
  obtain ⟨g, F, sl, S, Q', E', rel, hp, post, exc⟩ := h
  refine ⟨g, F, sl, S, _, E', rel, hp, fun kk ds S1 v H1 F1 s1 rel1 sv h1 => ?_, exc⟩
  refine rdE_dat rel1 h1 (exc.mono s1.f) fun i S2 w H2 F2 s2 rel2 r2 h2 => ?_
  cases r2 with
  | int k =>
    dsimp only at h2
    cases e2 : atI ds k with
    | none => rw [e2] at h2; exact h2.elim
    | some d =>
      rw [e2] at h2
      obtain ⟨a, vs, rfl, hs, rl⟩ := (sv.mono s2.f).use rel2
      obtain ⟨z, hz, rz⟩ := at_rp rl e2
      have fin := post (.dat d) S2 z H2 F2 (s1.trans s2) rel2 rz trivial h2
      rcases hs.or with hs | hs
      · exact .inl ⟨a, vs, k, z, rfl, rfl, hs, hz, fin⟩
      · exact .inr (.inl ⟨a, vs, k, z, rfl, rfl, hs, hz, fin⟩)
  | _ => exact h2.elim⟩
end
/-! ### slices -/
def cutD (xs : List D) (lo hi : Option Int) : List D := (xs.drop (HT.sIx xs.length 0 lo)).take (HT.sIx xs.length xs.length hi - HT.sIx xs.length 0 lo)
abbrev POx := List Slot → List Int → (Option Int → List Int → Prop) → PXQ → Prop
def rdO (K : PySem.W.Frag) (W : WX) (p : POx) : TO := fun σ H Q => ∃ g F sl S Q' E', Rel K g F sl S σ H ∧ p sl S Q' E' ∧
  (∀ o S' H' F', Stp g F H F' H' → Rel K g F' sl S' σ H' → Q' o S' → Q o H') ∧ ExcE K W g F sl σ E'
structure SO (X : Cx) (W : WX) (e : Option Expr) (p : POx) : Prop where
  po : PO X e (rdO X.K W p)
@[simp] def pNo : POx := fun _ S Q _ => Q none S
@[simp] def pSo (p : PEx) : POx := fun sl S Q E => dat p sl S (fun d S1 => match d with | .int i => Q (some i) S1 | _ => False) E
theorem PO.imp {X : Cx} {e : Option Expr} {t t' : TO} (h : PO X e t) (i : ∀ σ H Q, t' σ H Q → t σ H Q) : PO X e t' := ⟨fun pins s σ H Q I q => h.run pins s σ H Q I (i _ _ _ q)⟩
section
variable {X : Cx} {W : WX} {e : Expr} {lo hi : Option Expr} {p : PEx} {q : PQx} {l h : POx} {pos p2 : Pos}
theorem so_none : SO X W none pNo := ⟨PO.imp po_none fun σ H Q h => by
  obtain ⟨g, F, sl, S, Q', E', rel, hp, post, exc⟩ := h
  exact post none S H F Stp.refl rel hp⟩
theorem so_some (h : SE X W e p) : SO X W (some e) (pSo p) := ⟨PO.imp (po_some h.pe) fun σ H Q h => by
  obtain ⟨g, F, sl, S, Q', E', rel, hp, post, exc⟩ := h
  refine rdE_dat rel hp exc fun d S1 v H1 F1 s1 rel1 r1 h1 => ?_
  cases r1 with
  | int i => exact ⟨i, rfl, post (some i) S1 H1 F1 s1 rel1 h1⟩
  | _ => exact h1.elim⟩
def pSl (q : PQx) (l h : POx) : PEx := fun sl S Q E => q sl S (fun k ds S1 => l sl S1 (fun a S2 => h sl S2 (fun b S3 => Q (if k then .own (cutD ds a b) else .dat (.tup (cutD ds a b))) S3) E) E) E
theorem RpL.cut {K : PySem.W.Frag} {F : Hp} {vs : List V} {ds : List D} (r : RpL K F vs ds) (a b : Option Int) : RpL K F (cutV vs a b) (cutD ds a b) := by
  unfold cutV cutD
  rw [r.length]
  exact (r.drop _).take _
theorem se_sl (ha : SQ X W e q) (hl : SO X W lo l) (hh : SO X W hi h) : SE X W (.Subscript e (.Slice lo hi none p2) pos) (pSl q l h) := ⟨PE.imp (pe_slice (sl_list.or sl_tupA) ha.pe hl.po hh.po) fun σ H Q h => by
  obtain ⟨g, F, sl, S, Q', E', rel, hp, post, exc⟩ := h
  refine ⟨g, F, sl, S, _, E', rel, hp, fun k ds S1 v H1 F1 s1 rel1 sv h1 => ?_, exc⟩
  refine ⟨g, F1, sl, S1, _, E', rel1, h1, fun a S2 H2 F2 s2 rel2 h2 => ?_, exc.mono s1.f⟩
  refine ⟨g, F2, sl, S2, _, E', rel2, h2, fun b S3 H3 F3 s3 rel3 h3 => ?_, exc.mono (s1.trans s2).f⟩
  have s03 := (s1.trans s2).trans s3
  cases k with
  | true =>
    obtain ⟨x, vs, rfl, hs, rl⟩ := (sv.mono (s2.trans s3).f).use rel3
    refine .inl ⟨x, vs, rfl, hs, fun p hp => ?_⟩
    exact post (.own _) S3 _ _ F3 (s03.trans (Stp.alloc hp)) (rel3.alloc hp) ⟨p, _, rfl, upd_same, rel3.cor.free hp, rel3.cor.new hp, rl.cut a b⟩ (nw_new (s03.d p hp)) h3
  | false =>
    rcases sv.mono (s2.trans s3).f with ⟨x, vs, rfl, hs, rl⟩ | ⟨_, _, z, _⟩
    · refine .inr ⟨x, vs, rfl, hs.same rel3.cor.fh, fun hw => ?_, fun hw p hp => ?_⟩
      · have ew : cutD ds a b = ds := by
          unfold cutD
          rw [← rl.length, hw.1, hw.2]
          simp [rl.length]
        have h4 : Q' (.dat (.tup (cutD ds a b))) S3 := h3
        rw [ew] at h4
        exact post (.dat (.tup ds)) S3 _ H3 F3 s03 rel3 (.tup hs rl) trivial h4
      · have hf := rel3.cor.free hp
        exact post (.dat (.tup _)) S3 _ _ _ (s03.trans (Stp.allocF hp hf)) (rel3.allocF hp) (.tup (SqT.of upd_same) ((rl.cut a b).mono (Same.upd_new hf))) trivial h3
    · cases z⟩
end

/-! ### built-ins of values -/
abbrev PF1 := D → (Res → Prop) → Prop
def CSem (K : PySem.W.Frag) (r : List V → Hp → VK → Prop) (f : List D → (Res → Prop) → Prop) : Prop := ∀ g F sl S σ H vs ds (Q : VK) (Qr : Res → Prop), Rel K g F sl S σ H → RpL K F vs ds → f ds Qr →
  (∀ res v H' F', Stp g F H F' H' → Rel K g F' sl S σ H' → RR K g F' H' res v → Nw H res v → Qr res → Q v H') → r vs H Q
@[simp] def pCB (f : List D → (Res → Prop) → Prop) (p : PAx) : PEx := fun sl S Q E => dats p sl S (fun ds S1 => f ds fun r => Q r S1) E
theorem rd_cb {K : PySem.W.Frag} {W : WX} {r : List V → Hp → VK → Prop} {f : List D → (Res → Prop) → Prop} {p : PAx} (hs : CSem K r f) (σ : L2.St) (H : Hp) (Q : VK) (h : rdE K W (pCB f p) σ H Q) : tCB r (rdA K W p) σ H Q := by
  obtain ⟨g, F, sl, S, Q', E', rel, hp, post, exc⟩ := h
  refine rdA_dats rel hp exc fun ds S1 vs H1 F1 s1 rel1 rl h1 => ?_
  exact hs g F1 sl S1 σ H1 vs ds Q _ rel1 rl h1 fun res v H' F' s rel' rr nw hq => post res S1 v H' F' (s1.trans s) rel' rr (nw.back s1) hq
section
variable {X : Cx} {W : WX} {e : Expr} {es : List Expr} {p : PAx} {pos xp : Pos} {x : Str} {id : String} {r : List V → Hp → VK → Prop} {f : List D → (Res → Prop) → Prop}
theorem se_cb (hc : CallR X (.builtin id) r) (hs : CSem X.K r f) (hm : X.mg x = none) (hv : bootBuiltins x = some (.builtin id)) (ha : SA X W (e :: es) p) (hg : Gl X x := by rfl) (hn : x ≠ "__name__" := by decide) (hdb : (x == ("__debug__" : Str)) = false := by decide)
    (he : starEach (e :: es) X.env = (false, eval e X.env) :: starEach es X.env := by rfl) (hpl : (backTo pos (starEach es X.env)).any (·.1) = false := by rfl) : SE X W (.Call (.Name x xp) (e :: es) [] pos) (pCB f p) :=
  ⟨PE.imp (pe_callB hc hg hm hv ha.pa hn hdb he hpl) (rd_cb hs)⟩
theorem se_cty {T : String} (hc : CallR X (.type T) r) (hs : CSem X.K r f) (hm : X.mg x = none) (hv : bootBuiltins x = some (.type T)) (ha : SA X W (e :: es) p) (hg : Gl X x := by rfl) (hn : x ≠ "__name__" := by decide) (hdb : (x == ("__debug__" : Str)) = false := by decide)
    (he : starEach (e :: es) X.env = (false, eval e X.env) :: starEach es X.env := by rfl) (hpl : (backTo pos (starEach es X.env)).any (·.1) = false := by rfl) : SE X W (.Call (.Name x xp) (e :: es) [] pos) (pCB f p) :=
  ⟨PE.imp (pe_callTy hc hg hm hv ha.pa hn hdb he hpl) (rd_cb hs)⟩
/-- a module's own name of a built-in -/
theorem se_cbf (hc : CallR X (.builtin id) r) (hs : CSem X.K r f) (hm : X.mg x = some (.builtin id)) (ha : SA X W (e :: es) p) (hg : Gl X x := by rfl) (hdb : (x == ("__debug__" : Str)) = false := by decide)
    (he : starEach (e :: es) X.env = (false, eval e X.env) :: starEach es X.env := by rfl) (hpl : (backTo pos (starEach es X.env)).any (·.1) = false := by rfl) : SE X W (.Call (.Name x xp) (e :: es) [] pos) (pCB f p) :=
  ⟨PE.imp (pe_callBfun hc hg hm ha.pa hdb he hpl) (rd_cb hs)⟩
@[simp] def f1I (o : Int → D) : List D → (Res → Prop) → Prop := fun ds Q => match ds with
  | [.int i] => Q (.dat (o i))
  | _ => False
@[simp] def f2I (C : Int → Int → Prop) (o : Int → Int → D) : List D → (Res → Prop) → Prop := fun ds Q => match ds with
  | [.int i, .int j] => C i j ∧ Q (.dat (o i j))
  | _ => False
theorem f1_inv {K : PySem.W.Frag} {F : Hp} {o : Int → D} {vs : List V} {ds : List D} {Q : Res → Prop} (r : RpL K F vs ds) (h : f1I o ds Q) : ∃ i, vs = [.int i] ∧ Q (.dat (o i)) := by
  unfold f1I at h
  split at h
  · cases r with
    | cons r1 r2 =>
      cases r1
      cases r2
      exact ⟨_, rfl, h⟩
  · exact h.elim
theorem f2_inv {K : PySem.W.Frag} {F : Hp} {C : Int → Int → Prop} {o : Int → Int → D} {vs : List V} {ds : List D} {Q : Res → Prop} (r : RpL K F vs ds) (h : f2I C o ds Q) : ∃ i j, vs = [.int i, .int j] ∧ C i j ∧ Q (.dat (o i j)) := by
  unfold f2I at h
  split at h
  · cases r with
    | cons r1 r2 =>
      cases r1
      cases r2 with
      | cons r3 r4 =>
        cases r3
        cases r4
        exact ⟨_, _, rfl, h⟩
  · exact h.elim
@[simp] def fAbs : List D → (Res → Prop) → Prop := f1I fun i => .int (if i < 0 then -i else i)
theorem se_abs (hm : X.mg "abs" = none) (ha : SA X W [e] p) (hg : Gl X "abs" := by rfl) (he : starEach (e :: []) X.env = (false, eval e X.env) :: starEach [] X.env := by rfl) : SE X W (.Call (.Name "abs" xp) [e] [] pos) (pCB fAbs p) :=
  se_cb call_abs (fun g F sl S σ H vs ds Q Qr rel rl h post => by
    obtain ⟨i, rfl, h⟩ := f1_inv rl h
    exact ⟨i, rfl, post (.dat (.int _)) _ H F Stp.refl rel (.int _) trivial h⟩) hm (by decide +kernel) ha hg (he := he)
@[simp] def fInt : List D → (Res → Prop) → Prop := fun ds Q => match ds with
  | [.int i] => Q (.dat (.int i))
  | [.bl b] => Q (.dat (.int (if b then 1 else 0)))
  | _ => False
theorem se_toint (hm : X.mg "int" = none) (ha : SA X W [e] p) (hg : Gl X "int" := by rfl) (he : starEach (e :: []) X.env = (false, eval e X.env) :: starEach [] X.env := by rfl) : SE X W (.Call (.Name "int" xp) [e] [] pos) (pCB fInt p) :=
  se_cty call_int1 (fun g F sl S σ H vs ds Q Qr rel rl h post => by
    unfold fInt at h
    split at h
    · cases rl with
      | cons r1 r2 =>
        cases r1
        cases r2
        exact .inl ⟨_, rfl, post (.dat (.int _)) _ H F Stp.refl rel (.int _) trivial h⟩
    · cases rl with
      | cons r1 r2 =>
        cases r1
        cases r2
        exact .inr ⟨_, rfl, post (.dat (.int _)) _ H F Stp.refl rel (.int _) trivial h⟩
    · exact h.elim) hm (by decide +kernel) ha hg (he := he)
@[simp] def fMin : List D → (Res → Prop) → Prop := f2I (fun _ _ => True) fun i j => .int (if j < i then j else i)
@[simp] def fMax : List D → (Res → Prop) → Prop := f2I (fun _ _ => True) fun i j => .int (if j > i then j else i)
theorem se_min (hc : X.calm = true) (hm : X.mg "min" = none) {e2 : Expr} (ha : SA X W [e, e2] p) (hg : Gl X "min" := by rfl) (he : starEach (e :: [e2]) X.env = (false, eval e X.env) :: starEach [e2] X.env := by rfl) (hpl : (backTo pos (starEach [e2] X.env)).any (·.1) = false := by rfl) : SE X W (.Call (.Name "min" xp) [e, e2] [] pos) (pCB fMin p) :=
  se_cb (call_min2 hc) (fun g F sl S σ H vs ds Q Qr rel rl h post => by
    obtain ⟨i, j, rfl, _, h⟩ := f2_inv rl h
    exact ⟨i, j, rfl, post (.dat (.int _)) _ H F Stp.refl rel (.int _) trivial h⟩) hm (by decide +kernel) ha hg (he := he) (hpl := hpl)
theorem se_max (hc : X.calm = true) (hm : X.mg "max" = none) {e2 : Expr} (ha : SA X W [e, e2] p) (hg : Gl X "max" := by rfl) (he : starEach (e :: [e2]) X.env = (false, eval e X.env) :: starEach [e2] X.env := by rfl) (hpl : (backTo pos (starEach [e2] X.env)).any (·.1) = false := by rfl) : SE X W (.Call (.Name "max" xp) [e, e2] [] pos) (pCB fMax p) :=
  se_cb (call_max2 hc) (fun g F sl S σ H vs ds Q Qr rel rl h post => by
    obtain ⟨i, j, rfl, _, h⟩ := f2_inv rl h
    exact ⟨i, j, rfl, post (.dat (.int _)) _ H F Stp.refl rel (.int _) trivial h⟩) hm (by decide +kernel) ha hg (he := he) (hpl := hpl)
@[simp] def fGcd : List D → (Res → Prop) → Prop := f2I (fun _ _ => True) fun i j => .int ((Nat.gcd i.natAbs j.natAbs : Nat) : Int)
theorem se_gcd (hm : X.mg "gcd" = some (.builtin "math.gcd")) {e2 : Expr} (ha : SA X W [e, e2] p) (hg : Gl X "gcd" := by rfl) (he : starEach (e :: [e2]) X.env = (false, eval e X.env) :: starEach [e2] X.env := by rfl) (hpl : (backTo pos (starEach [e2] X.env)).any (·.1) = false := by rfl) : SE X W (.Call (.Name "gcd" xp) [e, e2] [] pos) (pCB fGcd p) :=
  se_cbf cr_gcd (fun g F sl S σ H vs ds Q Qr rel rl h post => by
    obtain ⟨i, j, rfl, _, h⟩ := f2_inv rl h
    exact ⟨i, j, rfl, post (.dat (.int _)) _ H F Stp.refl rel (.int _) trivial h⟩) hm ha hg (he := he) (hpl := hpl)
def CLcm (i j : Int) : Prop := i.natAbs < 2 ^ 64 ∧ j.natAbs < 2 ^ 64
@[simp] def fLcm : List D → (Res → Prop) → Prop := f2I CLcm fun i j => .int ((Nat.lcm i.natAbs j.natAbs : Nat) : Int)
theorem cr_lcm : CallR X (.builtin "math.lcm") (fun vs H Q => ∃ i j : Int, vs = [.int i, .int j] ∧ CLcm i j ∧ Q (.int ((Nat.lcm i.natAbs j.natAbs : Nat) : Int)) H) := by
  intro pins s σ H vs us Q I r h
  obtain ⟨a, b, rfl, ⟨h1, h2⟩, q⟩ := h
  obtain ⟨t, u, rfl⟩ := Vals.int2 r
  refine PySem.W.mg_lcm_v h1 h2 (c := ((Nat.lcm a.natAbs b.natAbs : Nat) : Int)) (by rw [Nat.lcm_one_left]) ?_ ⟨.int _, H, I.tok _, ⟨_, rfl⟩, q⟩
  have hb : Nat.lcm a.natAbs b.natAbs < 2 ^ 128 := by
    have : Nat.lcm a.natAbs b.natAbs ≤ a.natAbs * b.natAbs := by
      unfold Nat.lcm
      exact Nat.div_le_self _ _
    have := Nat.mul_lt_mul'' h1 h2
    have e : (2 : Nat) ^ 128 = 2 ^ 64 * 2 ^ 64 := by decide
    omega
  have := PySem.Flt.log2_lt_of (show 0 < 128 by decide) hb
  have e : bitsLine = 134217728 := by decide
  rw [Int.natAbs_natCast, e]
  omega
theorem se_lcm (hm : X.mg "lcm" = some (.builtin "math.lcm")) {e2 : Expr} (ha : SA X W [e, e2] p) (hg : Gl X "lcm" := by rfl) (he : starEach (e :: [e2]) X.env = (false, eval e X.env) :: starEach [e2] X.env := by rfl) (hpl : (backTo pos (starEach [e2] X.env)).any (·.1) = false := by rfl) : SE X W (.Call (.Name "lcm" xp) [e, e2] [] pos) (pCB fLcm p) :=
  se_cbf cr_lcm (fun g F sl S σ H vs ds Q Qr rel rl h post => by
    obtain ⟨i, j, rfl, hc, h⟩ := f2_inv rl h
    exact ⟨i, j, rfl, hc, post (.dat (.int _)) _ H F Stp.refl rel (.int _) trivial h⟩) hm ha hg (he := he) (hpl := hpl)
end
/-! ### tuple(..), list(..) -/
@[simp] def pToT (q : PQx) : PEx := fun sl S Q E => q sl S (fun _ ds S1 => Q (.dat (.tup ds)) S1) E
@[simp] def pToL (q : PQx) : PEx := fun sl S Q E => q sl S (fun _ ds S1 => Q (.own ds) S1) E
section
variable {X : Cx} {W : WX} {e : Expr} {q : PQx} {pos xp : Pos}
theorem se_tolist (hm : X.mg "list" = none) (h : SQ X W e q) (hg : Gl X "list" := by rfl) (he : starEach (e :: []) X.env = (false, eval e X.env) :: starEach [] X.env := by rfl) : SE X W (.Call (.Name "list" xp) [e] [] pos) (pToL q) :=
  ⟨PE.imp (pe_callTy call_list_of hg hm (by decide +kernel) (pa_cons h.pe pa_nil he) (he := he)) fun σ H Q h => by
  obtain ⟨g, F, sl, S, Q', E', rel, hp, post, exc⟩ := h
  refine ⟨g, F, sl, S, _, E', rel, hp, fun k ds S1 v H1 F1 s1 rel1 sv h1 => ?_, exc⟩
  obtain ⟨a, vs, rfl, hs, rl⟩ := sv.use rel1
  exact ⟨a, vs, rfl, hs.or, fun p hp => post (.own ds) S1 _ _ F1 (s1.trans (Stp.alloc hp)) (rel1.alloc hp) ⟨p, vs, rfl, upd_same, rel1.cor.free hp, rel1.cor.new hp, rl⟩ (nw_new (s1.d p hp)) h1⟩⟩
theorem se_totup (hm : X.mg "tuple" = none) (h : SQ X W e q) (hg : Gl X "tuple" := by rfl) (he : starEach (e :: []) X.env = (false, eval e X.env) :: starEach [] X.env := by rfl) : SE X W (.Call (.Name "tuple" xp) [e] [] pos) (pToT q) :=
  ⟨PE.imp (pe_callTy call_tuple_of hg hm (by decide +kernel) (pa_cons h.pe pa_nil he) (he := he)) fun σ H Q h => by
  obtain ⟨g, F, sl, S, Q', E', rel, hp, post, exc⟩ := h
  refine ⟨g, F, sl, S, _, E', rel, hp, fun k ds S1 v H1 F1 s1 rel1 sv h1 => ?_, exc⟩
  cases k with
  | true =>
    obtain ⟨a, vs, rfl, hs, rl⟩ := sv.use rel1
    refine ⟨a, vs, rfl, .inl ⟨hs, fun p hp => ?_⟩⟩
    have hf := rel1.cor.free hp
    exact post (.dat (.tup ds)) S1 _ _ _ (s1.trans (Stp.allocF hp hf)) (rel1.allocF hp) (.tup (SqT.of upd_same) (rl.mono (Same.upd_new hf))) trivial h1
  | false =>
    rcases sv with ⟨a, vs, rfl, hs, rl⟩ | ⟨_, _, z, _⟩
    · exact ⟨a, vs, rfl, .inr ⟨hs.same rel1.cor.fh, post (.dat (.tup ds)) S1 _ H1 F1 s1 rel1 (.tup hs rl) trivial h1⟩⟩
    · cases z⟩
end
end Py
end
section
set_option Elab.async false
set_option linter.all false
set_option maxRecDepth 100000
set_option maxHeartbeats 4000000
/-! and, or, not; what is walked; statements; loops; comprehensions. -/
namespace Py
open PySem L2

/-! ### tests: and, or, not; as values -/
structure SW (X : Cx) (W : WX) (e : Expr) (p : PTx) : Prop where
  pw : PW X e (rdT X.K W p)
@[simp] def pAnd (p q : PTx) : PTx := fun sl S Q E => p sl S (fun b S1 => if b = true then q sl S1 Q E else Q false S1) E
@[simp] def pOr (p q : PTx) : PTx := fun sl S Q E => p sl S (fun b S1 => if b = true then Q true S1 else q sl S1 Q E) E
@[simp] def pNotT (p : PTx) : PTx := fun sl S Q E => p sl S (fun b S1 => Q (!b) S1) E
section
variable {X : Cx} {W : WX} {a b c : Expr} {rest : List Expr} {p q : PTx} {pe qe : PEx} {pos : Pos}
theorem sw_and1 (h : ST X W a p) : SW X W (.BoolOp .And [a] pos) p := ⟨pw_and1 h.pt⟩
theorem sw_or1 (h : ST X W a p) : SW X W (.BoolOp .Or [a] pos) p := ⟨pw_or1 h.pt⟩
theorem sw_and (h : ST X W a p) (hr : SW X W (.BoolOp .And (b :: rest) pos) q) : SW X W (.BoolOp .And (a :: b :: rest) pos) (pAnd p q) := ⟨PW.imp (pw_and h.pt hr.pw) fun σ H Q h => by
  obtain ⟨g, F, sl, S, Q', E', rel, hp, post, exc⟩ := h
  refine ⟨g, F, sl, S, _, E', rel, hp, fun d S1 H1 F1 s1 rel1 h1 => ?_, exc⟩
  cases d with
  | true => exact ⟨g, F1, sl, S1, _, E', rel1, h1, fun d2 S2 H2 F2 s2 rel2 h2 => post d2 S2 H2 F2 (s1.trans s2) rel2 h2, exc.mono s1.f⟩
  | false => exact post false S1 H1 F1 s1 rel1 h1⟩
theorem sw_or (h : ST X W a p) (hr : SW X W (.BoolOp .Or (b :: rest) pos) q) : SW X W (.BoolOp .Or (a :: b :: rest) pos) (pOr p q) := ⟨PW.imp (pw_or h.pt hr.pw) fun σ H Q h => by
  obtain ⟨g, F, sl, S, Q', E', rel, hp, post, exc⟩ := h
  refine ⟨g, F, sl, S, _, E', rel, hp, fun d S1 H1 F1 s1 rel1 h1 => ?_, exc⟩
  cases d with
  | true => exact post true S1 H1 F1 s1 rel1 h1
  | false => exact ⟨g, F1, sl, S1, _, E', rel1, h1, fun d2 S2 H2 F2 s2 rel2 h2 => post d2 S2 H2 F2 (s1.trans s2) rel2 h2, exc.mono s1.f⟩⟩
theorem st_w (h : SW X W a p) : ST X W a p := ⟨h.pw.pt⟩
theorem st_not (h : ST X W a p) : ST X W (.UnaryOp .Not a pos) (pNotT p) := ⟨PT.imp (pt_not h.pt) fun σ H Q h => by
  obtain ⟨g, F, sl, S, Q', E', rel, hp, post, exc⟩ := h
  exact ⟨g, F, sl, S, _, E', rel, hp, fun d S1 H1 F1 s1 rel1 h1 => post _ S1 H1 F1 s1 rel1 h1, exc⟩⟩
/-! as values -/
@[simp] def bool1 (r : Res) (Q : Bool → Prop) : Prop := match r with
  | .dat (.bl c) => Q c
  | _ => False
@[simp] def pAndV (p q : PEx) : PEx := fun sl S Q E => p sl S (fun r S1 => bool1 r fun c => if c = true then q sl S1 Q E else Q (.dat (.bl false)) S1) E
@[simp] def pOrV (p q : PEx) : PEx := fun sl S Q E => p sl S (fun r S1 => bool1 r fun c => if c = true then Q (.dat (.bl true)) S1 else q sl S1 Q E) E
@[simp] def pNotV (p : PEx) : PEx := fun sl S Q E => p sl S (fun r S1 => bool1 r fun c => Q (.dat (.bl (!c))) S1) E
theorem bool1_inv {K : PySem.W.Frag} {g : G} {F H : Hp} {r : Res} {v : V} {Q : Bool → Prop} (rr : RR K g F H r v) (h : bool1 r Q) : ∃ c, v = .bl c ∧ Q c := by
  cases r with
  | dat d =>
    cases d with
    | bl c => cases rr; exact ⟨c, rfl, h⟩
    | _ => exact h.elim
  | _ => exact h.elim
theorem se_one {op} (h : SE X W a pe) : SE X W (.BoolOp op [a] pos) pe := ⟨pe_one h.pe⟩
theorem se_and (h : SE X W a pe) (hr : SE X W (.BoolOp .And (b :: rest) pos) qe) : SE X W (.BoolOp .And (a :: b :: rest) pos) (pAndV pe qe) := ⟨PE.imp (pe_and h.pe hr.pe) fun σ H Q h => by
  obtain ⟨g, F, sl, S, Q', E', rel, hp, post, exc⟩ := h
  refine ⟨g, F, sl, S, _, E', rel, hp, fun r S1 v H1 F1 s1 rel1 rr nw h1 => ?_, exc⟩
  obtain ⟨c, rfl, h1⟩ := bool1_inv rr h1
  refine ⟨c, rfl, ?_⟩
  cases c with
  | true => exact ⟨g, F1, sl, S1, _, E', rel1, h1, fun r S2 v H2 F2 s2 rel2 rr nw h2 => post r S2 v H2 F2 (s1.trans s2) rel2 rr (nw.back s1) h2, exc.mono s1.f⟩
  | false => exact post (.dat (.bl false)) S1 _ H1 F1 s1 rel1 (.bl false) trivial h1⟩
theorem se_or (h : SE X W a pe) (hr : SE X W (.BoolOp .Or (b :: rest) pos) qe) : SE X W (.BoolOp .Or (a :: b :: rest) pos) (pOrV pe qe) := ⟨PE.imp (pe_or h.pe hr.pe) fun σ H Q h => by
  obtain ⟨g, F, sl, S, Q', E', rel, hp, post, exc⟩ := h
  refine ⟨g, F, sl, S, _, E', rel, hp, fun r S1 v H1 F1 s1 rel1 rr nw h1 => ?_, exc⟩
  obtain ⟨c, rfl, h1⟩ := bool1_inv rr h1
  refine ⟨c, rfl, ?_⟩
  cases c with
  | true => exact post (.dat (.bl true)) S1 _ H1 F1 s1 rel1 (.bl true) trivial h1
  | false => exact ⟨g, F1, sl, S1, _, E', rel1, h1, fun r S2 v H2 F2 s2 rel2 rr nw h2 => post r S2 v H2 F2 (s1.trans s2) rel2 rr (nw.back s1) h2, exc.mono s1.f⟩⟩
theorem se_not (h : SE X W a pe) : SE X W (.UnaryOp .Not a pos) (pNotV pe) := ⟨PE.imp (pe_not h.pe) fun σ H Q h => by
  obtain ⟨g, F, sl, S, Q', E', rel, hp, post, exc⟩ := h
  refine ⟨g, F, sl, S, _, E', rel, hp, fun r S1 v H1 F1 s1 rel1 rr nw h1 => ?_, exc⟩
  obtain ⟨c, rfl, h1⟩ := bool1_inv rr h1
  exact ⟨c, rfl, post (.dat (.bl (!c))) S1 _ H1 F1 s1 rel1 (.bl _) trivial h1⟩⟩
@[simp] def pNeg (p : PEx) : PEx := fun sl S Q E => dat p sl S (fun d S1 => match d with | .int i => Q (.dat (.int (-i))) S1 | _ => False) E
theorem se_neg (h : SE X W a pe) : SE X W (.UnaryOp .USub a pos) (pNeg pe) := ⟨PE.imp (pe_un un_neg h.pe) fun σ H Q h => by
  obtain ⟨g, F, sl, S, Q', E', rel, hp, post, exc⟩ := h
  refine rdE_dat rel hp exc fun d S1 v H1 F1 s1 rel1 r1 h1 => ?_
  cases r1 with
  | int i => exact ⟨i, rfl, post (.dat (.int (-i))) S1 _ H1 F1 s1 rel1 (.int _) trivial h1⟩
  | _ => exact h1.elim⟩
@[simp] def pIfE (c : PTx) (p q : PEx) : PEx := fun sl S Q E => c sl S (fun b S1 => if b = true then p sl S1 Q E else q sl S1 Q E) E
theorem se_if {pc : PTx} (hc : ST X W c pc) (ha : SE X W a pe) (hb : SE X W b qe) : SE X W (.IfExp c a b pos) (pIfE pc pe qe) := ⟨PE.imp (pe_ifExp hc.pt ha.pe hb.pe) fun σ H Q h => by
  obtain ⟨g, F, sl, S, Q', E', rel, hp, post, exc⟩ := h
  refine ⟨g, F, sl, S, _, E', rel, hp, fun d S1 H1 F1 s1 rel1 h1 => ?_, exc⟩
  have nxt : ∀ pz : PEx, pz sl S1 Q' E' → rdE X.K W pz σ H1 Q := fun pz hz => ⟨g, F1, sl, S1, _, E', rel1, hz, fun r S2 v H2 F2 s2 rel2 rr nw h2 => post r S2 v H2 F2 (s1.trans s2) rel2 rr (nw.back s1) h2, exc.mono s1.f⟩
  cases d with
  | true => exact nxt _ h1
  | false => exact nxt _ h1⟩
end

/-! ### what is walked -/
structure ItOk (K : PySem.W.Frag) (J : It) (F : Hp) (ds : List D) : Prop where
  go : ∀ H i, Same F H → i < ds.length → J.go i H
  stop : ∀ H i, Same F H → ds.length ≤ i → J.stop i H
  yld : ∀ H i x H', Same F H → J.yld i H x H' → H' = H ∧ ∀ d, ds[i]? = some d → Rp K F x d
theorem ItOk.mono {K : PySem.W.Frag} {J : It} {F F' : Hp} {ds : List D} (h : ItOk K J F ds) (s : Same F F') : ItOk K J F' ds :=
  ⟨fun H i e => h.go H i (s.trans e), fun H i e => h.stop H i (s.trans e), fun H i x H' e y => ⟨(h.yld H i x H' (s.trans e) y).1, fun d q => ((h.yld H i x H' (s.trans e) y).2 d q).mono s⟩⟩
abbrev PIx := List Slot → List Int → (List D → List Int → Prop) → PXQ → Prop
def rdI (K : PySem.W.Frag) (W : WX) (p : PIx) : TI := fun σ H R => ∃ g F sl S Q' E', Rel K g F sl S σ H ∧ p sl S Q' E' ∧
  (∀ ds S' J H' F', Stp g F H F' H' → Rel K g F' sl S' σ H' → ItOk K J F' ds → Q' ds S' → R J H') ∧ ExcE K W g F sl σ E'
structure SI (X : Cx) (W : WX) (tg e : Expr) (p : PIx) : Prop where
  pi : PI X tg e (rdI X.K W p)
theorem PI.imp {X : Cx} {tg e : Expr} {t t' : TI} (h : PI X tg e t) (i : ∀ σ H R, t' σ H R → t σ H R) : PI X tg e t' := ⟨fun pins s σ H R I q => h.run pins s σ H R I (i _ _ _ q)⟩
theorem it_list {K : PySem.W.Frag} {F : Hp} {a : Addr} {vs : List V} {ds : List D} (h : SqL K F a vs) (r : RpL K F vs ds) : ItOk K (Itl K a) F ds :=
  ⟨fun H i e hi => ⟨vs, vs[i]'(by rw [r.length]; exact hi), sqL_same e h, by simp⟩, fun H i e hi => ⟨vs, sqL_same e h, by rw [r.length]; exact hi⟩, fun H i x H' e y => ⟨y.1, fun d q => by
    obtain ⟨v, h1, h2⟩ := r.get q
    have := y.2 vs (sqL_same e h)
    rw [h1] at this
    cases this
    exact h2⟩⟩
theorem it_tup {K : PySem.W.Frag} {F : Hp} {a : Addr} {vs : List V} {ds : List D} (h : SqT K F a vs) (r : RpL K F vs ds) : ItOk K (Itt K a) F ds :=
  ⟨fun H i e hi => ⟨vs, vs[i]'(by rw [r.length]; exact hi), sqT_same e h, by simp⟩, fun H i e hi => ⟨vs, sqT_same e h, by rw [r.length]; exact hi⟩, fun H i x H' e y => ⟨y.1, fun d q => by
    obtain ⟨v, h1, h2⟩ := r.get q
    have := y.2 vs (sqT_same e h)
    rw [h1] at this
    cases this
    exact h2⟩⟩
/-- lo, lo + c, .. -/
def rng (lo c : Int) (n : Nat) : List D := (List.range n).map fun i => D.int (lo + (i : Nat) * c)
theorem rng_get {lo c : Int} {n i : Nat} {d : D} (h : (rng lo c n)[i]? = some d) : d = D.int (lo + (i : Nat) * c) := by
  unfold rng at h
  rw [List.getElem?_map] at h
  cases e : (List.range n)[i]? with
  | none => rw [e] at h; cases h
  | some j =>
    rw [e] at h
    have hj : j = i := by
      obtain ⟨h1, h2⟩ := List.getElem?_eq_some_iff.mp e
      rw [← h2, List.getElem_range]
    subst hj
    exact (Option.some.inj h).symm
theorem rng_len (lo c : Int) (n : Nat) : (rng lo c n).length = n := by unfold rng; simp
theorem it_rng {K : PySem.W.Frag} {F : Hp} (lo : Int) (n : Nat) : ItOk K (Itr lo n) F (rng lo 1 n) :=
  ⟨fun H i e hi => by rw [rng_len] at hi; exact hi, fun H i e hi => by rw [rng_len] at hi; exact hi, fun H i x H' e y => ⟨y.1, fun d q => by
    rw [rng_get q, Int.mul_one, y.2]
    exact .int _⟩⟩
theorem it_rngC {K : PySem.W.Frag} {F : Hp} (lo c : Int) (n : Nat) : ItOk K (Itc lo c n) F (rng lo c n) :=
  ⟨fun H i e hi => by rw [rng_len] at hi; exact hi, fun H i e hi => by rw [rng_len] at hi; exact hi, fun H i x H' e y => ⟨y.1, fun d q => by
    rw [rng_get q, y.2]
    exact .int _⟩⟩
/-- a list or a tuple -/
def iSq (K : PySem.W.Frag) (tl : TE) : TI := fun σ H R => tl σ H fun x H1 => ∃ a, x = V.ref a ∧ (((∃ xs, SqL K H1 a xs) ∧ R (Itl K a) H1) ∨ ((∃ xs, SqT K H1 a xs) ∧ R (Itt K a) H1))
section
variable {X : Cx} {W : WX} {tg e : Expr} {p : PEx}
theorem pi_sq {l : Expr} {tl : TE} (hl : PE X l tl) : PI X tg l (iSq X.K tl) := by
  constructor
  intro pins s σ H R I0 h
  apply thn (hl.run pins s σ H _ I0 h)
  rintro v s1 ⟨x, H1, I1, rv, a, rfl, q⟩
  cases rv
  rcases q with ⟨⟨xs, hq⟩, q⟩ | ⟨⟨xs, hq⟩, q⟩
  · obtain ⟨its, _, pl, _⟩ := I1.list hq
    exact wpAny_pyIter_list pl.isList (pi_one (tk := s1.toks) I1 _ (turn_list a _) ⟨_, Heap.get?_push_size _ rfl, rfl, rfl⟩ q)
  · obtain ⟨its, _, pl, _⟩ := I1.tuple hq
    exact wpAny_pyIter_tuple (show s1.heap.IsTuple a its.toArray from pl) (pi_one (tk := s1.toks) I1 _ (turn_tuple a _) ⟨_, Heap.get?_push_size _ rfl, rfl, rfl⟩ q)
@[simp] def pISeq (p : PEx) : PIx := fun sl S Q E => dat p sl S (fun d S1 => seqD d fun _ ds => Q ds S1) E
theorem si_seq (h : SE X W e p) : SI X W tg e (pISeq p) := ⟨PI.imp (pi_sq h.pe) fun σ H R h => by
  obtain ⟨g, F, sl, S, Q', E', rel, hp, post, exc⟩ := h
  refine rdE_dat rel hp exc fun d S1 v H1 F1 s1 rel1 r1 h1 => ?_
  cases r1 with
  | lst h2 q2 => exact ⟨_, rfl, .inl ⟨⟨_, SqL.of (rel1.cor.fh _ _ h2)⟩, post _ S1 _ H1 F1 s1 rel1 (it_list (SqL.of h2) q2) h1⟩⟩
  | frl h2 q2 => exact ⟨_, rfl, .inl ⟨⟨_, sqL_same rel1.cor.fh h2⟩, post _ S1 _ H1 F1 s1 rel1 (it_list h2 q2) h1⟩⟩
  | tup h2 q2 => exact ⟨_, rfl, .inr ⟨⟨_, sqT_same rel1.cor.fh h2⟩, post _ S1 _ H1 F1 s1 rel1 (it_tup h2 q2) h1⟩⟩
  | _ => exact h1.elim⟩
def sm62 (i : Int) : Prop := -(2 ^ 62) ≤ i ∧ i < 2 ^ 62
@[simp] def pRng1 (p : PAx) : PIx := fun sl S Q E => dats p sl S (fun ds S1 => match ds with | [.int j] => sm62 j ∧ Q (rng 0 1 j.toNat) S1 | _ => False) E
@[simp] def pRng2 (p : PAx) : PIx := fun sl S Q E => dats p sl S (fun ds S1 => match ds with | [.int i, .int j] => (sm62 i ∧ sm62 j) ∧ Q (rng i 1 (j - i).toNat) S1 | _ => False) E
/-- downwards by ones -/
@[simp] def pRngD (p : PAx) : PIx := fun sl S Q E => dats p sl S (fun ds S1 => match ds with | [.int i, .int j, .int k] => (sm62 i ∧ sm62 j ∧ k = -1) ∧ Q (rng i (-1) (i - j).toNat) S1 | _ => False) E
variable {a b c : Expr} {q : PAx} {xp pos : Pos}
theorem si_rng1 (hm : X.mg "range" = none) (ha : SA X W [a] q) (hg : Gl X "range" := by rfl) (hs : starEach [a] X.env = [(false, eval a X.env)] := by rfl) : SI X W tg (.Call (.Name "range" xp) [a] [] pos) (pRng1 q) := ⟨PI.imp (pi_range1 hg hm ha.pa hs) fun σ H R h => by
  obtain ⟨g, F, sl, S, Q', E', rel, hp, post, exc⟩ := h
  refine rdA_dats rel hp exc fun ds S1 vs H1 F1 s1 rel1 rl h1 => ?_
  split at h1
  · cases rl with
    | cons r1 r2 =>
      cases r1
      cases r2
      exact ⟨_, rfl, h1.1.1, h1.1.2, post _ S1 _ H1 F1 s1 rel1 (it_rng 0 _) h1.2⟩
  · exact h1.elim⟩
theorem si_rng2 (hm : X.mg "range" = none) (ha : SA X W [a, b] q) (hg : Gl X "range" := by rfl) (hs : starEach [a, b] X.env = [(false, eval a X.env), (false, eval b X.env)] := by rfl) (hs2 : starEach [b] X.env = [(false, eval b X.env)] := by rfl) : SI X W tg (.Call (.Name "range" xp) [a, b] [] pos) (pRng2 q) := ⟨PI.imp (pi_range2 hg hm ha.pa hs hs2) fun σ H R h => by
  obtain ⟨g, F, sl, S, Q', E', rel, hp, post, exc⟩ := h
  refine rdA_dats rel hp exc fun ds S1 vs H1 F1 s1 rel1 rl h1 => ?_
  split at h1
  · cases rl with
    | cons r1 r2 =>
      cases r1
      cases r2 with
      | cons r3 r4 =>
        cases r3
        cases r4
        exact ⟨_, _, rfl, ⟨h1.1.1.1, h1.1.1.2, h1.1.2.1, h1.1.2.2⟩, post _ S1 _ H1 F1 s1 rel1 (it_rng _ _) h1.2⟩
  · exact h1.elim⟩
theorem si_rngD (hm : X.mg "range" = none) (ha : SA X W [a, b, c] q) (hg : Gl X "range" := by rfl) (hs : starEach [a, b, c] X.env = (false, eval a X.env) :: starEach [b, c] X.env := by rfl) (hpl : (backTo pos (starEach [b, c] X.env)).any (·.1) = false := by rfl) : SI X W tg (.Call (.Name "range" xp) [a, b, c] [] pos) (pRngD q) := ⟨PI.imp (pi_range3 hg hm ha.pa hs hpl) fun σ H R h => by
  obtain ⟨g, F, sl, S, Q', E', rel, hp, post, exc⟩ := h
  refine rdA_dats rel hp exc fun ds S1 vs H1 F1 s1 rel1 rl h1 => ?_
  split at h1
  · cases rl with
    | cons r1 r2 =>
      cases r1
      cases r2 with
      | cons r3 r4 =>
        cases r3
        cases r4 with
        | cons r5 r6 =>
          cases r5
          cases r6
          obtain ⟨⟨z1, z2, rfl⟩, h2⟩ := h1
          exact ⟨_, _, _, _, rfl, RgC.neg z1.1 z1.2 z2.1 z2.2, post _ S1 _ H1 F1 s1 rel1 (it_rngC _ _ _) h2⟩
  · exact h1.elim⟩
end

/-! ### statements -/
structure PEnds where
  nx : List Slot → List Int → Prop
  rt : Res → List Int → Prop
  bk : List Slot → List Int → Prop
  ct : List Slot → List Int → Prop
  ex : PX → List Slot → List Int → Prop
abbrev PSm := PEnds → List Slot → List Int → Prop
structure Lk (K : PySem.W.Frag) (W : WX) (g : G) (F : Hp) (D : Ends) (P : PEnds) : Prop where
  nx : ∀ sl S σ H F', Same F F' → Rel K g F' sl S σ H → P.nx sl S → D.nx σ H
  rt : ∀ r S v H F', Same F F' → Cor g F' S H → RR K g F' H r v → P.rt r S → D.rt v H
  bk : ∀ sl S σ H F', Same F F' → Rel K g F' sl S σ H → P.bk sl S → D.bk σ H
  ct : ∀ sl S σ H F', Same F F' → Rel K g F' sl S σ H → P.ct sl S → D.ct σ H
  ex : ∀ x sl S d σ H F', Same F F' → Rel K g F' sl S σ H → ExR K F' x d → P.ex x sl S → W (.ref x.C) d σ H
theorem Lk.mono {K : PySem.W.Frag} {W : WX} {g : G} {F F' : Hp} {D : Ends} {P : PEnds} (l : Lk K W g F D P) (s : Same F F') : Lk K W g F' D P :=
  ⟨fun sl S σ H F2 s2 => l.nx sl S σ H F2 (s.trans s2), fun r S v H F2 s2 => l.rt r S v H F2 (s.trans s2), fun sl S σ H F2 s2 => l.bk sl S σ H F2 (s.trans s2), fun sl S σ H F2 s2 => l.ct sl S σ H F2 (s.trans s2),
    fun x sl S d σ H F2 s2 => l.ex x sl S d σ H F2 (s.trans s2)⟩
/-- the exceptions of an expression -/
theorem Lk.exc {K : PySem.W.Frag} {W : WX} {g : G} {F : Hp} {D : Ends} {P : PEnds} (l : Lk K W g F D P) (sl : List Slot) (σ : L2.St) : ExcE K W g F sl σ (fun x S => P.ex x sl S) := fun x S d H F' s rel er h => l.ex x sl S d σ H F' s rel er h
def rdS (K : PySem.W.Frag) (W : WX) (p : PSm) : TS := fun D σ H => ∃ g F sl S P, Rel K g F sl S σ H ∧ p P sl S ∧ Lk K W g F D P
structure SS (X : Cx) (W : WX) (s : Stmt) (p : PSm) : Prop where
  ps : PS X s (rdS X.K W p)
structure SB (X : Cx) (W : WX) (s : List Stmt) (p : PSm) : Prop where
  ps : PSs X s (rdS X.K W p)
theorem PS.imp {X : Cx} {e : Stmt} {t t' : TS} (h : PS X e t) (i : ∀ D σ H, t' D σ H → t D σ H) : PS X e t' := ⟨fun pins s σ H D I q => h.run pins s σ H D I (i _ _ _ q)⟩
theorem PSs.imp {X : Cx} {e : List Stmt} {t t' : TS} (h : PSs X e t) (i : ∀ D σ H, t' D σ H → t D σ H) : PSs X e t' := ⟨fun pins s σ H D I q => h.run pins s σ H D I (i _ _ _ q)⟩
@[simp] def pNext : PSm := fun P sl S => P.nx sl S
@[simp] def pSeq (p q : PSm) : PSm := fun P sl S => p { P with nx := q P } sl S
@[simp] def pDrop (p : PEx) : PSm := fun P sl S => p sl S (fun _ S1 => P.nx sl S1) (fun x S1 => P.ex x sl S1)
@[simp] def pRet (p : PEx) : PSm := fun P sl S => p sl S P.rt (fun x S1 => P.ex x sl S1)
@[simp] def pIf (c : PTx) (p q : PSm) : PSm := fun P sl S => c sl S (fun b S1 => if b = true then p P sl S1 else q P sl S1) (fun x S1 => P.ex x sl S1)
@[simp] def pFrz (i : Nat) (p : PSm) : PSm := fun P sl S => p P (match sl[i]? with | some s => sl.set i s.frz | none => sl) S
section
variable {X : Cx} {W : WX} {st : Stmt} {rest : List Stmt} {p q : PSm} {e c : Expr} {pe : PEx} {pc : PTx} {pos : Pos}
theorem sb_nil : SB X W [] pNext := ⟨PSs.imp pss_nil fun D σ H h => by
  obtain ⟨g, F, sl, S, P, rel, hp, lk⟩ := h
  exact lk.nx sl S σ H F (Same.refl _) rel hp⟩
theorem sb_cons (h : SS X W st p) (hr : SB X W rest q) : SB X W (st :: rest) (pSeq p q) := ⟨PSs.imp (pss_cons h.ps hr.ps) fun D σ H h => by
  obtain ⟨g, F, sl, S, P, rel, hp, lk⟩ := h
  exact ⟨g, F, sl, S, _, rel, hp, ⟨fun sl1 S1 σ1 H1 F1 s1 rel1 h1 => ⟨g, F1, sl1, S1, P, rel1, h1, lk.mono s1⟩, lk.rt, lk.bk, lk.ct, lk.ex⟩⟩⟩
theorem sb_one (h : SS X W st p) : SB X W [st] p := ⟨PSs.imp (pss_one h.ps) fun D σ H h => h⟩
theorem ss_frz (i : Nat) (h : SS X W st p) : SS X W st (pFrz i p) := ⟨PS.imp h.ps fun D σ H h => by
  obtain ⟨g, F, sl, S, P, rel, hp, lk⟩ := h
  obtain ⟨F', s, rel'⟩ := rel.frz i
  exact ⟨g, F', _, S, P, rel', hp, lk.mono s⟩⟩
theorem ss_expr (h : SE X W e pe) (hs : swapsWith e none pos.line X.env = pure false := by rfl) : SS X W (.Expr e pos) (pDrop pe) := ⟨PS.imp (ps_expr h.pe hs) fun D σ H h => by
  obtain ⟨g, F, sl, S, P, rel, hp, lk⟩ := h
  exact ⟨g, F, sl, S, _, _, rel, hp, fun r S1 v H1 F1 s1 rel1 rr nw h1 => lk.nx sl S1 σ H1 F1 s1.f rel1 h1, lk.exc sl σ⟩⟩
theorem ss_ret (h : SE X W e pe) : SS X W (.Return (some e) pos) (pRet pe) := ⟨PS.imp (ps_ret h.pe) fun D σ H h => by
  obtain ⟨g, F, sl, S, P, rel, hp, lk⟩ := h
  exact ⟨g, F, sl, S, _, _, rel, hp, fun r S1 v H1 F1 s1 rel1 rr nw h1 => lk.rt r S1 v H1 F1 s1.f rel1.cor rr h1, lk.exc sl σ⟩⟩
theorem ss_if {a b : List Stmt} (hc : ST X W c pc) (ha : SB X W a p) (hb : SB X W b q) : SS X W (.If c a b pos) (pIf pc p q) := ⟨PS.imp (ps_if hc.pt ha.ps hb.ps) fun D σ H h => by
  obtain ⟨g, F, sl, S, P, rel, hp, lk⟩ := h
  refine ⟨g, F, sl, S, _, _, rel, hp, fun d S1 H1 F1 s1 rel1 h1 => ?_, lk.exc sl σ⟩
  cases d with
  | true => exact ⟨g, F1, sl, S1, P, rel1, h1, lk.mono s1.f⟩
  | false => exact ⟨g, F1, sl, S1, P, rel1, h1, lk.mono s1.f⟩⟩
@[simp] def pBreak : PSm := fun P sl S => P.bk sl S
@[simp] def pCont : PSm := fun P sl S => P.ct sl S
theorem ss_break : SS X W (.Break pos) pBreak := ⟨PS.imp ps_break fun D σ H h => by
  obtain ⟨g, F, sl, S, P, rel, hp, lk⟩ := h
  exact lk.bk sl S σ H F (Same.refl _) rel hp⟩
theorem ss_continue : SS X W (.Continue pos) pCont := ⟨PS.imp ps_continue fun D σ H h => by
  obtain ⟨g, F, sl, S, P, rel, hp, lk⟩ := h
  exact lk.ct sl S σ H F (Same.refl _) rel hp⟩
theorem ss_pass : SS X W (.Pass pos) pNext := ⟨PS.imp ps_pass fun D σ H h => by
  obtain ⟨g, F, sl, S, P, rel, hp, lk⟩ := h
  exact lk.nx sl S σ H F (Same.refl _) rel hp⟩
end

/-! ### targets -/
abbrev PGx := Res → List Slot → List Int → (List Slot → List Int → Prop) → Prop
def rdG (K : PySem.W.Frag) (p : PGx) : TG := fun v σ H Qσ => ∃ g F sl S r Q', Rel K g F sl S σ H ∧ RR K g F H r v ∧ Ap sl σ r v ∧ p r sl S Q' ∧
  ∀ sl' S' σ' H' F', Same F F' → Rel K g F' sl' S' σ' H' → Q' sl' S' → Qσ σ' H'
structure SG (X : Cx) (tg : Expr) (p : PGx) : Prop where
  pg : PG X tg (rdG X.K p)
theorem PG.imp {X : Cx} {e : Expr} {t t' : TG} (h : PG X e t) (i : ∀ v σ H Q, t' v σ H Q → t v σ H Q) : PG X e t' := ⟨fun pins s σ H v u Q I r q => h.run pins s σ H v u Q I r (i _ _ _ _ q)⟩
@[simp] def pgName (i : Nat) : PGx := fun r sl S Q => i < sl.length ∧ Q (sl.set i r.slot) S
abbrev PGsx := List D → List Slot → List Int → (List Slot → List Int → Prop) → Prop
def rdGs (K : PySem.W.Frag) (p : PGsx) : TGs := fun vs σ H Qσ => ∃ g F sl S ds Q', Rel K g F sl S σ H ∧ RpL K F vs ds ∧ p ds sl S Q' ∧
  ∀ sl' S' σ' H' F', Same F F' → Rel K g F' sl' S' σ' H' → Q' sl' S' → Qσ σ' H'
structure SGs (X : Cx) (tg : List Expr) (p : PGsx) : Prop where
  pg : PGs X tg (rdGs X.K p)
theorem PGs.imp {X : Cx} {e : List Expr} {t t' : TGs} (h : PGs X e t) (i : ∀ v σ H Q, t' v σ H Q → t v σ H Q) : PGs X e t' := ⟨fun pins s σ H v u Q I r q => h.run pins s σ H v u Q I r (i _ _ _ _ q)⟩
@[simp] def pgNil : PGsx := fun ds sl S Q => ds = [] ∧ Q sl S
@[simp] def pgCons (p : PGx) (q : PGsx) : PGsx := fun ds sl S Q => match ds with
  | d :: r => p (.dat d) sl S fun sl1 S1 => q r sl1 S1 Q
  | [] => False
@[simp] def pgTup (n : Nat) (p : PGsx) : PGx := fun r sl S Q => match r with
  | .dat (.tup ds) => ds.length = n ∧ p ds sl S Q
  | .dat (.lst ds) => ds.length = n ∧ p ds sl S Q
  | .dat (.frl ds) => ds.length = n ∧ p ds sl S Q
  | _ => False
/-- x[i] = .. of an own list -/
@[simp] def pgSub (i : Nat) (p : PEx) : PGx := fun r sl S Q => ∃ d, r.toD = some d ∧ match sl[i]? with
  | some (.own ds) => dat p sl S (fun k S1 => match k with
    | .int k => match ixN ds.length k with
      | some j => Q (sl.set i (.own (ds.set j d))) S1
      | none => False
    | _ => False) fun _ _ => False
  | _ => False
section
variable {X : Cx} {W : WX} {tg e : Expr} {es : List Expr} {p : PGx} {q : PGsx} {pe : PEx} {pos : Pos}
theorem sg_name (i : Nat) {x : Str} (hN : X.N.Nodup) (hi : X.N[i]? = some x := by rfl) (hx : Loc X.env.scope x := by first | exact Or.inl rfl | exact Or.inr rfl) (hf : X.fn x = true ∨ X.env.scope.names.lookup x = some .local := by first | exact .inl rfl | exact .inr rfl) : SG X (.Name x pos) (pgName i) :=
  ⟨PG.imp (pg_name hN hi hx hf) fun v σ H Q h => by
    obtain ⟨g, F, sl, S, r, Q', rel, rr, ap, ⟨hl, hp⟩, post⟩ := h
    exact post _ S _ H F (Same.refl _) (rel.store rr ap hl) hp⟩
theorem sgs_nil : SGs X [] pgNil := ⟨PGs.imp pgs_nil fun v σ H Q h => by
  obtain ⟨g, F, sl, S, ds, Q', rel, rl, ⟨rfl, hp⟩, post⟩ := h
  cases rl
  exact ⟨rfl, post sl S σ H F (Same.refl _) rel hp⟩⟩
theorem sgs_cons (h : SG X e p) (hr : SGs X es q) (hs : (assignEach (e :: es) X.env).map (·.2) = assign e X.env :: (assignEach es X.env).map (·.2) := by rfl) : SGs X (e :: es) (pgCons p q) := ⟨PGs.imp (pgs_cons h.pg hr.pg hs) fun v σ H Q h => by
  obtain ⟨g, F, sl, S, ds, Q', rel, rl, hp, post⟩ := h
  cases rl with
  | nil => exact hp.elim
  | cons r1 r2 =>
    refine ⟨_, _, rfl, g, F, sl, S, .dat _, _, rel, r1, trivial, hp, fun sl1 S1 σ1 H1 F1 s1 rel1 h1 => ?_⟩
    exact ⟨g, F1, sl1, S1, _, Q', rel1, r2.mono s1, h1, fun sl2 S2 σ2 H2 F2 s2 rel2 h2 => post sl2 S2 σ2 H2 F2 (s1.trans s2) rel2 h2⟩⟩
theorem PG.or {X : Cx} {tg : Expr} {g1 g2 : L2.TG} (h1 : PG X tg g1) (h2 : PG X tg g2) : PG X tg (fun v σ H Q => g1 v σ H Q ∨ g2 v σ H Q) := ⟨fun pins s σ H v u Q I r hw => hw.elim (h1.run pins s σ H v u Q I r) (h2.run pins s σ H v u Q I r)⟩
theorem sg_tup {k : Nat} {n : Nat} (hc : X.calm = true) (h : SGs X es q) (hn : (assignEach es X.env).length = n := by rfl) (hst : (assignEach es X.env).findIdx? (·.1) = none := by rfl) : SG X (.Tuple es k pos) (pgTup n q) := ⟨PG.imp (PG.or (pg_tup hc h.pg hn hst) (pg_lst hc h.pg hn hst)) fun v σ H Q h => by
  obtain ⟨g, F, sl, S, r, Q', rel, rr, ap, hp, post⟩ := h
  unfold pgTup at hp
  split at hp
  · cases rr with
    | tup h2 q2 => exact .inl ⟨_, _, rfl, sqT_same rel.cor.fh h2, by rw [q2.length]; exact hp.1, g, F, sl, S, _, Q', rel, q2, hp.2, post⟩
  · cases rr with
    | lst h2 q2 => exact .inr ⟨_, _, rfl, SqL.of (rel.cor.fh _ _ h2), by rw [q2.length]; exact hp.1, g, F, sl, S, _, Q', rel, q2, hp.2, post⟩
  · cases rr with
    | frl h2 q2 => exact .inr ⟨_, _, rfl, sqL_same rel.cor.fh h2, by rw [q2.length]; exact hp.1, g, F, sl, S, _, Q', rel, q2, hp.2, post⟩
  · exact hp.elim⟩
theorem noExc {K : PySem.W.Frag} {W : WX} {g : G} {F : Hp} {sl : List Slot} {σ : L2.St} : ExcE K W g F sl σ (fun _ _ => False) := fun _ _ _ _ _ _ _ _ z => z.elim
theorem sg_sub (i : Nat) {x : Str} {px : Pos} (hi : SE X W e pe) (hN : X.N[i]? = some x := by rfl) (hv : Vis X.env.scope x := by first | exact Or.inl rfl | exact Or.inr (Or.inl rfl) | exact Or.inr (Or.inr rfl)) (hd : (x == ("__debug__" : Str)) = false := by decide)
    (hcd : (x == ("__classdict__" : Str)) = false := by decide)
    (ha : ∀ v, assign (.Subscript (.Name x px) e pos) X.env v = (do
      let ov ← holding [v] (eval (.Name x px) X.env)
      let iv ← holding [v, ov] (eval e X.env)
      standAt pos
      holding [v, ov, iv] (setItem ov iv v)
      release [v, ov, iv] []) := by intro _; rfl) : SG X (.Subscript (.Name x px) e pos) (pgSub i pe) := ⟨PG.imp (pg_sub (pe_var hN hv hd hcd) hi.pe set_list ha) fun v σ H Q h => by
  obtain ⟨g, F, sl, S, r, Q', rel, rr, ap, ⟨d, hd, hp⟩, post⟩ := h
  cases e2 : sl[i]? with
  | none => rw [e2] at hp; exact hp.elim
  | some s =>
    rw [e2] at hp
    cases s with
    | own ds =>
      obtain ⟨F0, sF, rel0, rd⟩ : ∃ F', Same F F' ∧ Rel X.K g F' sl S σ H ∧ Rp X.K F' v d := by
        cases r with
        | dat d' => cases hd; exact ⟨F, Same.refl _, rel, rr⟩
        | own ds =>
          cases hd
          obtain ⟨p, vs, rfl, h1, h2, h3, q⟩ := rr
          exact ⟨_, Same.upd_new h2, rel.freeze h1 h2 h3 ap, .lst upd_same (q.mono (Same.upd_new h2))⟩
        | drw => cases hd
      obtain ⟨a, vs, h1, h2, h3, h4, rl⟩ := rel0.own e2
      refine ⟨_, h1, ?_⟩
      refine rdE_dat rel0 hp noExc fun k S1 w H1 F1 s1 rel1 r1 hk => ?_
      cases r1 with
      | int k =>
        dsimp only at hk
        cases e3 : ixN ds.length k with
        | none => rw [e3] at hk; exact hk.elim
        | some j =>
          rw [e3] at hk
          obtain ⟨a', vs', h1', h2', _, _, rl'⟩ := rel1.own e2
          rw [h1] at h1'
          cases h1'
          refine ⟨a, vs', k, j, rfl, rfl, h2', by rw [rl'.length]; exact e3, ?_⟩
          exact post _ S1 σ _ F1 (sF.trans s1.f) (rel1.write e2 h1 (rl'.set (rd.mono s1.f) j)) hk
      | _ => exact hk.elim
    | un => exact hp.elim
    | dat d => exact hp.elim
    | drw => exact hp.elim
    | exc a d x => exact hp.elim⟩
/-- target = value -/
@[simp] def pAsg (pe : PEx) (pg : PGx) : PSm := fun P sl S => pe sl S (fun r S1 => pg r sl S1 P.nx) (fun x S1 => P.ex x sl S1)
theorem rd_asg {K : PySem.W.Frag} {W : WX} {pe : PEx} {pg : PGx} (D : Ends) (σ : L2.St) (H : Hp) (h : rdS K W (pAsg pe pg) D σ H) : tAsg (rdE K W pe) (rdG K pg) D σ H := by
  obtain ⟨g, F, sl, S, P, rel, hp, lk⟩ := h
  exact ⟨g, F, sl, S, _, _, rel, hp, fun r S1 v H1 F1 s1 rel1 rr nw h1 => ⟨g, F1, sl, S1, r, P.nx, rel1, rr, rel.ap nw, h1, fun sl2 S2 σ2 H2 F2 s2 rel2 h2 => lk.nx sl2 S2 σ2 H2 F2 (s1.f.trans s2) rel2 h2⟩, lk.exc sl σ⟩
theorem ss_asg (he : SE X W e pe) (hg : SG X tg p) (hs : swapsWithSole [tg] e pos.line X.env = pure false := by rfl) (hw : swappedStores [tg] e X.env = pure none := by rfl) (h1 : (assignEach [tg] X.env).map (·.2) = [assign tg X.env] := by rfl) : SS X W (.Assign [tg] e pos) (pAsg pe p) :=
  ⟨PS.imp (ps_asg he.pe hg.pg hs hw h1) rd_asg⟩
end
end Py
end
section
set_option Elab.async false
set_option linter.all false
set_option maxRecDepth 100000
set_option maxHeartbeats 4000000
/-! Loops, comprehensions, methods of lists, defs. -/
namespace Py
open PySem L2

/-! ### for -/
def forRun (tg : PGx) (body : PSm) (P : PEnds) : List D → List Slot → List Int → Prop
  | [], sl, S => P.nx sl S
  | d :: ds, sl, S => tg (.dat d) sl S fun sl1 S1 => body { P with nx := forRun tg body P ds, ct := forRun tg body P ds, bk := P.nx } sl1 S1
@[simp] def pFor (pi : PIx) (tg : PGx) (body : PSm) : PSm := fun P sl S => pi sl S (fun ds S1 => forRun tg body P ds sl S1) (fun x S1 => P.ex x sl S1)
def pWhile (c : PTx) (body : PSm) : PSm := fun P sl S => ∃ Iv : Nat → List Slot → List Int → Prop, (∃ m, Iv m sl S) ∧ ∀ m sl S, Iv m sl S →
  c sl S (fun b S1 => if b = true then body { P with nx := fun sl2 S2 => ∃ m2, m2 < m ∧ Iv m2 sl2 S2, ct := fun sl2 S2 => ∃ m2, m2 < m ∧ Iv m2 sl2 S2, bk := P.nx } sl S1 else P.nx sl S1) (fun x S1 => P.ex x sl S1)
section
variable {X : Cx} {W : WX} {tg it c : Expr} {body : List Stmt} {pi : PIx} {pg : PGx} {pb : PSm} {pc : PTx} {pos : Pos}
theorem ss_for (hp : PassesOwn (model X.prog X.w) X.A X.env X.xe) (hc : X.calm = true) (hi : SI X W tg it pi) (hg : SG X tg pg) (hb : SB X W body pb) (hs : ∀ x, foldedSetIterable it X.env x = pure x := by intro _; rfl) : SS X W (.For tg it body [] pos) (pFor pi pg pb) :=
  ⟨PS.imp (ps_for hp hc hi.pi hg.pg hb.ps hs) fun D σ H h => by
  obtain ⟨g, F, sl, S, P, rel, hp, lk⟩ := h
  refine ⟨g, F, sl, S, _, _, rel, hp, fun ds S1 J H1 F1 s1 rel1 io h1 => ?_, lk.exc sl σ⟩
  refine ⟨fun i m σ' H' => m = ds.length - i ∧ i ≤ ds.length ∧ ∃ F' sl' S', Same F1 F' ∧ Rel X.K g F' sl' S' σ' H' ∧ forRun pg pb P (ds.drop i) sl' S', ⟨ds.length, by simp, Nat.zero_le _, F1, sl, S1, Same.refl _, rel1, h1⟩, ?_⟩
  rintro i m σ' H' ⟨rfl, hi, F', sl', S', s2, rel2, h2⟩
  by_cases hlt : i < ds.length
  · have e1 : ds.drop i = ds[i] :: ds.drop (i + 1) := List.drop_eq_getElem_cons hlt
    rw [e1] at h2
    refine .inr ⟨(io.mono s2).go H' i rel2.cor.fh hlt, fun σ3 H3 => ∃ F3 sl3 S3, Same F1 F3 ∧ Rel X.K g F3 sl3 S3 σ3 H3 ∧ forRun pg pb P (ds.drop (i + 1)) sl3 S3, fun σ3 H3 ⟨F3, sl3, S3, s3, rel3, h3⟩ => ⟨ds.length - (i + 1), by omega, rfl, hlt, F3, sl3, S3, s3, rel3, h3⟩, fun x H3 y => ?_⟩
    obtain ⟨e3, hy⟩ := (io.mono s2).yld H' i x H3 rel2.cor.fh y
    subst e3
    refine ⟨g, F', sl', S', .dat ds[i], _, rel2, hy _ (by simp), trivial, h2, fun sl4 S4 σ4 H4 F4 s4 rel4 h4 => ?_⟩
    refine ⟨g, F4, sl4, S4, _, rel4, h4, ⟨fun sl5 S5 σ5 H5 F5 s5 rel5 h5 => ⟨F5, sl5, S5, (s2.trans s4).trans s5, rel5, h5⟩, fun r S5 v H5 F5 s5 => lk.rt r S5 v H5 F5 (((s1.f.trans s2).trans s4).trans s5), fun sl5 S5 σ5 H5 F5 s5 => lk.nx sl5 S5 σ5 H5 F5 (((s1.f.trans s2).trans s4).trans s5), fun sl5 S5 σ5 H5 F5 s5 rel5 h5 => ⟨F5, sl5, S5, (s2.trans s4).trans s5, rel5, h5⟩, fun x sl5 S5 d σ5 H5 F5 s5 => lk.ex x sl5 S5 d σ5 H5 F5 (((s1.f.trans s2).trans s4).trans s5)⟩⟩
  · have e0 : i = ds.length := by omega
    subst e0
    rw [List.drop_length] at h2
    exact .inl ⟨(io.mono s2).stop H' _ rel2.cor.fh (Nat.le_refl _), lk.nx sl' S' σ' H' F' (s1.f.trans s2) rel2 h2⟩⟩
theorem ss_while (hp : PassesOwn (model X.prog X.w) X.A X.env X.xe) (hc : ST X W c pc) (hb : SB X W body pb) : SS X W (.While c body [] pos) (pWhile pc pb) :=
  ⟨PS.imp (ps_while hp hc.pt hb.ps) fun D σ H h => by
  obtain ⟨g, F, sl, S, P, rel, ⟨Iv, ⟨m0, i0⟩, hv⟩, lk⟩ := h
  refine ⟨fun m σ' H' => ∃ F' sl' S', Same F F' ∧ Rel X.K g F' sl' S' σ' H' ∧ Iv m sl' S', ⟨m0, F, sl, S, Same.refl _, rel, i0⟩, ?_⟩
  rintro m σ' H' ⟨F', sl', S', s1, rel1, i1⟩
  refine ⟨g, F', sl', S', _, _, rel1, hv m sl' S' i1, fun b S2 H2 F2 s2 rel2 h2 => ?_, (lk.mono s1).exc sl' σ'⟩
  have s02 := s1.trans s2.f
  cases b with
  | false => exact lk.nx sl' S2 σ' H2 F2 s02 rel2 h2
  | true =>
    refine ⟨fun σ3 H3 => ∃ F3 sl3 S3 m3, Same F F3 ∧ Rel X.K g F3 sl3 S3 σ3 H3 ∧ m3 < m ∧ Iv m3 sl3 S3, fun σ3 H3 ⟨F3, sl3, S3, m3, s3, rel3, lt, i3⟩ => ⟨m3, lt, F3, sl3, S3, s3, rel3, i3⟩, ?_⟩
    exact ⟨g, F2, sl', S2, _, rel2, h2, ⟨fun sl5 S5 σ5 H5 F5 s5 rel5 ⟨m5, lt, i5⟩ => ⟨F5, sl5, S5, m5, s02.trans s5, rel5, lt, i5⟩, fun r S5 v H5 F5 s5 => lk.rt r S5 v H5 F5 (s02.trans s5), fun sl5 S5 σ5 H5 F5 s5 => lk.nx sl5 S5 σ5 H5 F5 (s02.trans s5), fun sl5 S5 σ5 H5 F5 s5 rel5 ⟨m5, lt, i5⟩ => ⟨F5, sl5, S5, m5, s02.trans s5, rel5, lt, i5⟩, fun x sl5 S5 d σ5 H5 F5 s5 => lk.ex x sl5 S5 d σ5 H5 F5 (s02.trans s5)⟩⟩⟩
end

/-! ### comprehensions: one name, one source, at most one test -/
abbrev W0 : WX := fun _ _ _ _ => False
def lcRun (i : Nat) (pt : PTx) (pe : PEx) : List D → List Slot → List Int → (List D → List Int → Prop) → Prop
  | [], _, S, Q => Q [] S
  | d :: ds, sl, S, Q => pt (sl.set i (.dat d)) S (fun b S1 => if b = true then dat pe (sl.set i (.dat d)) S1 (fun y S2 => lcRun i pt pe ds sl S2 (fun ys S3 => Q (y :: ys) S3)) (fun _ _ => False) else lcRun i pt pe ds sl S1 Q) (fun _ _ => False)
@[simp] def pLc (i : Nat) (pi : PIx) (pt : PTx) (pe : PEx) : PEx := fun sl S Q E => pi sl S (fun ds S1 => ds.length ≤ sizeLine ∧ i < sl.length ∧ lcRun i pt pe ds (sl.set i .un) S1 (fun ys S2 => Q (.own ys) S2)) E
@[simp] def pYes : PTx := fun _ S Q _ => Q true S
structure STs (X : Cx) (W : WX) (e : List Expr) (p : PTx) : Prop where
  pt : PTs X e (rdT X.K W p)
theorem PTs.imp {X : Cx} {e : List Expr} {t t' : TT} (h : PTs X e t) (i : ∀ σ H Q, t' σ H Q → t σ H Q) : PTs X e t' := ⟨fun pins s σ H Q I q => h.run pins s σ H Q I (i _ _ _ q)⟩
theorem sts_nil {X : Cx} {W : WX} : STs X W [] pYes := ⟨PTs.imp pts_nil fun σ H Q h => by
  obtain ⟨g, F, sl, S, Q', E', rel, hp, post, exc⟩ := h
  exact post true S H F Stp.refl rel hp⟩
theorem sts_one {X : Cx} {W : WX} {c : Expr} {p : PTx} (h : ST X W c p) : STs X W [c] p := ⟨pts_one h.pt⟩
theorem Rel.wipe1 {K : PySem.W.Frag} {g : G} {F H : Hp} {sl : List Slot} {S : List Int} {σ : L2.St} (r : Rel K g F sl S σ H) (i : Nat) : Rel K g F (sl.set i .un) S (σ.set i none) H := by
  refine ⟨r.cor, by simpa using r.len, fun j s hj => ?_, fun j k dj dk p hjk h4 h5 h6 h7 => ?_⟩
  · by_cases hij : i = j
    · subst hij
      by_cases hl : i < sl.length
      · rw [List.getElem?_set_self hl] at hj
        cases hj
        trivial
      · rw [List.getElem?_eq_none (by simpa using hl)] at hj
        cases hj
    · rw [List.getElem?_set_ne hij] at hj
      rw [List.getElem?_set_ne hij]
      exact r.ok j s hj
  · have base : ∀ (m : Nat) (dm : List D), (sl.set i Slot.un)[m]? = some (Slot.own dm) → i ≠ m ∧ sl[m]? = some (Slot.own dm) := fun m dm hm => by
      by_cases z : i = m
      · subst z
        by_cases hl : i < sl.length
        · rw [List.getElem?_set_self hl] at hm; cases hm
        · rw [List.getElem?_eq_none (by simpa using hl)] at hm; cases hm
      · rw [List.getElem?_set_ne z] at hm; exact ⟨z, hm⟩
    obtain ⟨n1, z1⟩ := base j dj h4
    obtain ⟨n2, z2⟩ := base k dk h5
    rw [List.getElem?_set_ne n1] at h6
    rw [List.getElem?_set_ne n2] at h7
    exact r.sep j k dj dk p hjk z1 z2 h6 h7
/-- the reading of a comprehension -/
theorem rd_lc {K : PySem.W.Frag} {W : WX} {i : Nat} {pi : PIx} {pt : PTx} {pe : PEx} (σ : L2.St) (H : Hp) (Q : VK) (h : rdE K W (pLc i pi pt pe) σ H Q) : tLc (rdI K W pi) (gName i) (rdT K W0 pt) (rdE K W0 pe) [i] σ H Q := by
  obtain ⟨g, F, sl, S, Q', E', rel, hp, post, exc⟩ := h
  refine ⟨g, F, sl, S, _, E', rel, hp, fun ds S1 J H1 F1 s1 rel1 io ⟨hz, hi, h1⟩ => ?_, exc⟩
  intro L hL
  -- what stands at turn j: acc so far at L
  let Pv : Nat → Hp → Prop := fun j H' => ∃ F' S' acc accd, Stp g F1 H1 F' (fun b => if b = L then none else H' b) ∧ Rel K g F' (sl.set i .un) S' (σ.set i none) H' ∧ H' L = some (.lst acc) ∧ F' L = none ∧ RpL K F' acc accd ∧ acc.length ≤ j ∧
    lcRun i pt pe (ds.drop j) (sl.set i .un) S' (fun ys S2 => Q' (.own (accd ++ ys)) S2)
  have hid : ∀ {p : Addr} {o : HO} {Hx : Hp}, Hx p = none → (fun b => if b = p then none else (upd Hx p o) b) = Hx := fun {p o Hx} e => by
    funext b
    by_cases z : b = p
    · rw [if_pos z, z, e]
    · rw [if_neg z, upd_ne z]
  refine ⟨fun j m H' => m = ds.length - j ∧ j ≤ ds.length ∧ Pv j H', ⟨ds.length, by simp, Nat.zero_le _, F1, S1, [], [], ?_, (rel1.wipe1 i).alloc hL, upd_same, rel1.cor.free hL, .nil, Nat.zero_le _, h1⟩, ?_⟩
  · rw [hid hL]; exact Stp.refl
  rintro j m H' ⟨rfl, hj, F', S', acc, accd, st, rel2, hLa, hLf, ra, hal, h2⟩
  have sF : Same F1 F' := st.f
  by_cases hlt : j < ds.length
  · have e1 : ds.drop j = ds[j] :: ds.drop (j + 1) := List.drop_eq_getElem_cons hlt
    rw [e1] at h2
    refine .inr ⟨(io.mono sF).go H' j rel2.cor.fh hlt, Pv (j + 1), fun H3 p3 => ⟨ds.length - (j + 1), by omega, rfl, hlt, p3⟩, fun x H3 y => ?_⟩
    obtain ⟨e3, hy⟩ := (io.mono sF).yld H' j x H3 rel2.cor.fh y
    subst e3
    have rx : Rp K F' x ds[j] := hy _ (by simp)
    -- the name is stored
    have hls : i < (sl.set i Slot.un).length := by simpa using hi
    have rel3 : Rel K g F' ((sl.set i .un).set i (.dat ds[j])) S' ((σ.set i none).set i (some x)) H3 := rel2.store (x := .dat ds[j]) rx trivial hls
    have esl : ∀ z : Slot, (sl.set i Slot.un).set i z = sl.set i z := fun z => List.set_set ..
    have esg : ∀ z : Option V, (σ.set i none).set i z = σ.set i z := fun z => List.set_set ..
    have rel4 := rel3
    show _ ∧ _
    refine ⟨?_, ?_⟩
    · show ((σ.set i none).set i (some x)).set i none = σ.set i none
      rw [esg, List.set_set]
    · refine ⟨g, F', _, S', _, _, rel3, h2, fun b S4 H4 F4 s4 rel4 h4 => ?_, noExc⟩
      have hL4 : H4 L = some (.lst acc) := s4.k L _ hLa fun z => by
        have := (rel2.cor.st L z).2.2
        exact this (by
          have hn : H1 L = none := hL
          exact rel1.cor.new hn)
      have hF4 : F4 L = none := by
        cases e : F4 L with
        | none => rfl
        | some o => rcases s4.n L o e with z | z
                    · rw [hLf] at z; cases z
                    · rw [hLa] at z; cases z
      have comp : ∀ {F5 H5 : Hp}, Stp g F' H3 F5 H5 → Stp g F1 H1 F5 (fun b => if b = L then none else H5 b) := fun {F5 H5} s5 => by
        refine ⟨sF.trans s5.f, fun a o e q => ?_, fun a o e => ?_, fun a e => ?_⟩
        · have hne : a ≠ L := fun z => by rw [z, hL] at e; cases e
          have h7 := st.k a o e q
          simp only [if_neg hne] at h7 ⊢
          exact s5.k a o h7 q
        · rcases s5.n a o e with z | z
          · exact st.n a o z
          · by_cases hne : a = L
            · rw [hne]; exact .inr hL
            · exact .inr (st.d a (by simp only [if_neg hne]; exact z))
        · by_cases hne : a = L
          · rw [hne]; exact hL
          · simp only [if_neg hne] at e
            exact st.d a (by simp only [if_neg hne]; exact s5.d a e)
      have back : ∀ {F5 H5 : Hp} {S5 : List Int}, Rel K g F5 ((sl.set i .un).set i (.dat ds[j])) S5 ((σ.set i none).set i (some x)) H5 → Rel K g F5 (sl.set i .un) S5 (σ.set i none) H5 := fun {F5 H5 S5} r5 => by
        have := r5.wipe1 i
        rw [List.set_set, List.set_set] at this
        rw [List.set_set, List.set_set] at this
        exact this
      cases b with
      | false =>
        show Pv (j + 1) H4
        exact ⟨F4, S4, acc, accd, comp s4, back rel4, hL4, hF4, ra.mono s4.f, by omega, h4⟩
      | true =>
        show rdE K W0 pe _ H4 _
        refine rdE_dat rel4 h4 noExc fun y S5 v H5 F5 s5 rel5 ry h5 => ?_
        have s45 := s4.trans s5
        have ndr : g.dr ≠ some L := fun z => (rel2.cor.st L z).2.2 (rel1.cor.new hL)
        have hL5 : H5 L = some (.lst acc) := s5.k L _ hL4 ndr
        have hF5 : F5 L = none := by
          cases e : F5 L with
          | none => rfl
          | some o => rcases s5.n L o e with z | z
                      · rw [hF4] at z; cases z
                      · rw [hL4] at z; cases z
        refine ⟨acc, hL5, by omega, F5, S5, acc ++ [v], accd ++ [y], ?_, ?_, upd_same, hF5, ((ra.mono s45.f).append (.cons ry .nil)), by simp; omega, ?_⟩
        · have c5 := comp s45
          have : (fun b => if b = L then none else upd H5 L (HO.lst (acc ++ [v])) b) = (fun b => if b = L then none else H5 b) := by
            funext b
            by_cases z : b = L
            · rw [if_pos z, if_pos z]
            · rw [if_neg z, if_neg z, upd_ne z]
          rw [this]; exact c5
        · have r6 := back rel5
          refine ⟨r6.cor.write hF5 (rel1.cor.new hL), r6.len, fun k s hk => (r6.ok k s hk).mono (Same.refl _) fun d' p' e1 e2 => ?_, r6.sep⟩
          subst e1
          obtain ⟨p7, vs7, e7, h7, h8, h9, _⟩ := rel1.wipe1 i |>.ok k _ hk
          rw [e2] at e7
          cases e7
          obtain ⟨p8, vs8, e8, k7, k8, _⟩ := r6.ok k _ hk
          rw [e2] at e8
          cases e8
          exact ⟨upd_ne (fun z => by (rw [z, hL] at h7; cases h7)), k8⟩
        · show lcRun i pt pe (ds.drop (j + 1)) (sl.set i .un) S5 (fun ys S2 => Q' (.own ((accd ++ [y]) ++ ys)) S2)
          have e9 : (fun (ys : List D) (S2 : List Int) => Q' (.own ((accd ++ [y]) ++ ys)) S2) = fun ys S2 => Q' (.own (accd ++ (y :: ys))) S2 := by
            funext ys S2
            rw [List.append_assoc]
            rfl
          rw [e9]
          exact h5
  · have e0 : j = ds.length := by omega
    subst e0
    rw [List.drop_length] at h2
    refine .inl ⟨(io.mono sF).stop H' _ rel2.cor.fh (Nat.le_refl _), ?_⟩
    have h3 : Q' (.own (accd ++ [])) S' := h2
    rw [List.append_nil] at h3
    -- back at the slots as they were
    have relE : Rel K g F' sl S' σ H' := by
      refine ⟨rel2.cor, rel1.len, fun k s hk => ?_, rel1.sep⟩
      refine (rel1.ok k s hk).mono sF fun d' p' e1 e2 => ?_
      subst e1
      obtain ⟨p7, vs7, e7, h7, h8, h9, _⟩ := rel1.ok k _ hk
      rw [e2] at e7
      cases e7
      have hne : p' ≠ L := fun z => by rw [z, hL] at h7; cases h7
      have ndr : g.dr ≠ some p' := fun z => (rel1.cor.st p' z).2.2 h9
      have h10 := st.k p' _ h7 ndr
      simp only [if_neg hne] at h10
      refine ⟨by rw [h7, h10], ?_⟩
      cases e : F' p' with
      | none => rfl
      | some o => rcases st.n p' o e with z | z
                  · rw [h8] at z; cases z
                  · rw [h7] at z; cases z
    have stF : Stp g F H F' H' := s1.trans ⟨sF, fun a o e q => by
        have hne : a ≠ L := fun z => by rw [z, hL] at e; cases e
        have := st.k a o e q
        simp only [if_neg hne] at this
        exact this, st.n, fun a e => by
        by_cases hne : a = L
        · rw [hne]; exact hL
        · exact st.d a (by simp only [if_neg hne]; exact e)⟩
    exact post (.own accd) S' (.ref L) H' F' stF relE ⟨L, acc, rfl, hLa, hLf, rel1.cor.new hL, ra⟩ (nw_new (s1.d L hL)) h3
section
variable {X : Cx} {W : WX} {elt it : Expr} {ifs : List Expr} {scope : Scope} {x : Str} {i : Nat} {px pos : Pos} {pi : PIx} {pt : PTx} {pe : PEx}
theorem se_lc (i : Nat) (hc : X.calm = true) (hN : X.N.Nodup) (hi : SI X W (.Name x px) it pi) (ok : BlkOk X.N X.env.scope scope [(x, i)])
    (hg : ∀ (s : Shared) (H : Hp) (C : Addr) (cl : List (Str × Addr)) (fp : List Addr), PG (X.blk s H scope (compEnvC scope cl C X.env) fp) (.Name x px) (gName i))
    (ht : ∀ (s : Shared) (H : Hp) (C : Addr) (cl : List (Str × Addr)) (fp : List Addr), STs (X.blk s H scope (compEnvC scope cl C X.env) fp) W0 ifs pt)
    (he : ∀ (s : Shared) (H : Hp) (C : Addr) (cl : List (Str × Addr)) (fp : List Addr), SE (X.blk s H scope (compEnvC scope cl C X.env) fp) W0 elt pe) (hs : ∀ x, foldedSetIterable it X.env x = pure x := by intro _; rfl) :
    SE X W (.ListComp elt [⟨.Name x px, it, ifs, 0⟩] scope pos) (pLc i pi pt pe) :=
  ⟨PE.imp (pe_lc (own := [(x, i)]) hc hN hi.pi ok hg (fun a b c d e => (ht a b c d e).pt) (fun a b c d e => (he a b c d e).pe) hs) rd_lc⟩
/-- name = [..] on one line -/
theorem ss_lc (i : Nat) {j : Nat} {y : Str} {py spos : Pos} (hc : X.calm = true) (hN : X.N.Nodup) (hy : X.N[j]? = some y) (hyl : X.env.scope.names.lookup y = some .local)
    (hsw : swapsWith (.ListComp elt [⟨.Name x px, it, ifs, 0⟩] scope pos) (some (.Name y py)) spos.line X.env = pure true) (hi : SI X W (.Name x px) it pi) (ok : BlkOk X.N X.env.scope scope [(x, i)])
    (hg : ∀ (s : Shared) (H : Hp) (C : Addr) (cl : List (Str × Addr)) (fp : List Addr), PG (X.blk s H scope (compEnvC scope cl C X.env) fp) (.Name x px) (gName i))
    (ht : ∀ (s : Shared) (H : Hp) (C : Addr) (cl : List (Str × Addr)) (fp : List Addr), STs (X.blk s H scope (compEnvC scope cl C X.env) fp) W0 ifs pt)
    (he : ∀ (s : Shared) (H : Hp) (C : Addr) (cl : List (Str × Addr)) (fp : List Addr), SE (X.blk s H scope (compEnvC scope cl C X.env) fp) W0 elt pe) (hs : ∀ x, foldedSetIterable it X.env x = pure x := by intro _; rfl) :
    SS X W (.Assign [.Name y py] (.ListComp elt [⟨.Name x px, it, ifs, 0⟩] scope pos) spos) (pAsg (pLc i pi pt pe) (pgName j)) :=
  ⟨PS.imp (ps_setLc (own := [(x, i)]) hc hN hy hyl hsw hi.pi ok hg (fun a b c d e => (ht a b c d e).pt) (fun a b c d e => (he a b c d e).pe) hs) fun D σ H h => by
    obtain ⟨g, F, sl, S, P, rel, hp, lk⟩ := h
    refine rd_lc (W := W) (i := i) (pi := pi) (pt := pt) (pe := pe) σ H _ ⟨g, F, sl, S, _, _, rel, hp, fun r S1 v H1 F1 s1 rel1 rr nw ⟨hl, h1⟩ => ?_, lk.exc sl σ⟩
    exact lk.nx _ S1 _ H1 F1 s1.f (rel1.store rr (rel.ap nw) hl) h1⟩
end
end Py
end
section
set_option Elab.async false
set_option linter.all false
set_option maxRecDepth 100000
set_option maxHeartbeats 4000000
/-! Methods of lists, isinstance, in, all, any, sorted; calls of defs; defs. -/
namespace Py
open PySem L2

/-! ### methods -/
/-- x.append(e), x an own list -/
@[simp] def pApp (i : Nat) (p : PEx) : PSm := fun P sl S => match sl[i]? with
  | some (.own ds) => dat p sl S (fun d S1 => ds.length < sizeLine ∧ P.nx (sl.set i (.own (ds ++ [d]))) S1) (fun x S1 => P.ex x sl S1)
  | _ => False
/-- x.pop() as a statement, x an own list -/
def pPopS (i : Nat) : PSm := fun P sl S => match sl[i]? with
  | some (.own ds) => ds ≠ [] ∧ P.nx (sl.set i (.own ds.dropLast)) S
  | _ => False
def pRev (i : Nat) : PSm := fun P sl S => match sl[i]? with
  | some (.own ds) => P.nx (sl.set i (.own ds.reverse)) S
  | _ => False
/-- x.pop() of the draws -/
def pPopD (i : Nat) : PEx := fun sl S Q _ => match sl[i]? with
  | some .drw => match S.getLast? with
    | some n => Q (.dat (.int n)) S.dropLast
    | none => False
  | _ => False
/-- len of the draws -/
@[simp] def pLenD (i : Nat) : PEx := fun sl S Q _ => match sl[i]? with
  | some .drw => Q (.dat (.int S.length)) S
  | _ => False
section
variable {X : Cx} {W : WX} {e : Expr} {p : PEx} {pos cpos apos : Pos} {x : Str} {px : Pos}
theorem ss_append (i : Nat) (he : SE X W e p) (hN : X.N[i]? = some x := by rfl) (hv : Vis X.env.scope x := by first | exact Or.inl rfl | exact Or.inr (Or.inl rfl) | exact Or.inr (Or.inr rfl)) (hd : (x == ("__debug__" : Str)) = false := by decide)
    (hcd : (x == ("__classdict__" : Str)) = false := by decide)
    (hbase : attributeBase (.Name x px) "append" X.env (eval (.Name x px) X.env) = eval (.Name x px) X.env := by rfl)
    (hfew : ((backTo cpos (starEach (e :: []) X.env)).all (fun x => !x.1) && (backToKw cpos (keywordEach [] X.env)).all (fun x => x.1.isSome)
      && decide ((e :: []).length + ([] : List Keyword).length + (if ([] : List Keyword).isEmpty then 0 else 1) < 30)) = true := by rfl)
    (hline : (apos.endLine == cpos.line) = true := by rfl) (hs : starEach (e :: []) X.env = (false, eval e X.env) :: starEach [] X.env := by rfl) (hplain : (backTo cpos (starEach [] X.env)).any (·.1) = false := by rfl)
    (hsw : swapsWith (.Call (.Attribute (.Name x px) "append" apos) [e] [] cpos) none pos.line X.env = pure false := by rfl) :
    SS X W (.Expr (.Call (.Attribute (.Name x px) "append" apos) [e] [] cpos) pos) (pApp i p) :=
  ⟨PS.imp (ps_expr (pe_bm PySem.F.plainAttrs_list PySem.F.slot_list_append PySem.F.type_list_append mt_append (pe_var hN hv hd hcd) (pa_cons he.pe pa_nil hs) hbase hfew hline hs hplain) hsw) fun D σ H h => by
    obtain ⟨g, F, sl, S, P, rel, hp, lk⟩ := h
    unfold pApp at hp
    split at hp
    · rename_i ds e2
      obtain ⟨a, vs, h1, h2, h3, h4, rl⟩ := rel.own e2
      refine ⟨_, h1, .inl ⟨rfl, _, SqL.of h2⟩, ?_⟩
      refine rdE_dat rel hp (lk.exc sl σ) fun d S1 v H1 F1 s1 rel1 r1 ⟨hz, hk⟩ => ?_
      obtain ⟨a', vs', h1', h2', _, _, rl'⟩ := rel1.own e2
      rw [h1] at h1'
      cases h1'
      refine ⟨a, vs', v, rfl, rfl, h2', by rw [rl'.length]; exact hz, ?_⟩
      exact lk.nx _ S1 σ _ F1 s1.f (rel1.write e2 h1 (rl'.append (.cons r1 .nil))) hk
    · exact hp.elim⟩
theorem ss_pop (i : Nat) (hN : X.N[i]? = some x := by rfl) (hv : Vis X.env.scope x := by first | exact Or.inl rfl | exact Or.inr (Or.inl rfl) | exact Or.inr (Or.inr rfl)) (hd : (x == ("__debug__" : Str)) = false := by decide)
    (hcd : (x == ("__classdict__" : Str)) = false := by decide)
    (hbase : attributeBase (.Name x px) "pop" X.env (eval (.Name x px) X.env) = eval (.Name x px) X.env := by rfl) (hline : (apos.endLine == cpos.line) = true := by rfl)
    (hsw : swapsWith (.Call (.Attribute (.Name x px) "pop" apos) [] [] cpos) none pos.line X.env = pure false := by rfl) :
    SS X W (.Expr (.Call (.Attribute (.Name x px) "pop" apos) [] [] cpos) pos) (pPopS i) :=
  ⟨PS.imp (ps_expr (pe_bm0 PySem.F.plainAttrs_list PySem.F.slot_list_pop PySem.F.type_list_pop mt_pop (pe_var hN hv hd hcd) hbase hline) hsw) fun D σ H h => by
    obtain ⟨g, F, sl, S, P, rel, hp, lk⟩ := h
    unfold pPopS at hp
    split at hp
    · rename_i ds e2
      obtain ⟨a, vs, h1, h2, h3, h4, rl⟩ := rel.own e2
      obtain ⟨hne, hk⟩ := hp
      have hl : vs.length - 1 < vs.length := by
        have : vs.length = ds.length := rl.length
        have : ds.length ≠ 0 := fun z => hne (List.eq_nil_of_length_eq_zero z)
        omega
      refine ⟨_, h1, .inl ⟨rfl, _, SqL.of h2⟩, a, vs, vs[vs.length - 1], rfl, rfl, h2, List.getElem?_eq_getElem hl, ?_⟩
      exact lk.nx _ S σ _ F (Same.refl _) (rel.write e2 h1 rl.dropLast) hk
    · exact hp.elim⟩
theorem ss_reverse (i : Nat) (hN : X.N[i]? = some x := by rfl) (hv : Vis X.env.scope x := by first | exact Or.inl rfl | exact Or.inr (Or.inl rfl) | exact Or.inr (Or.inr rfl)) (hd : (x == ("__debug__" : Str)) = false := by decide)
    (hcd : (x == ("__classdict__" : Str)) = false := by decide)
    (hbase : attributeBase (.Name x px) "reverse" X.env (eval (.Name x px) X.env) = eval (.Name x px) X.env := by rfl) (hline : (apos.endLine == cpos.line) = true := by rfl)
    (hsw : swapsWith (.Call (.Attribute (.Name x px) "reverse" apos) [] [] cpos) none pos.line X.env = pure false := by rfl) :
    SS X W (.Expr (.Call (.Attribute (.Name x px) "reverse" apos) [] [] cpos) pos) (pRev i) :=
  ⟨PS.imp (ps_expr (pe_bm0 PySem.F.plainAttrs_list PySem.F.slot_list_reverse PySem.F.type_list_reverse mt_reverse (pe_var hN hv hd hcd) hbase hline) hsw) fun D σ H h => by
    obtain ⟨g, F, sl, S, P, rel, hp, lk⟩ := h
    unfold pRev at hp
    split at hp
    · rename_i ds e2
      obtain ⟨a, vs, h1, h2, h3, h4, rl⟩ := rel.own e2
      refine ⟨_, h1, .inl ⟨rfl, _, SqL.of h2⟩, a, vs, rfl, rfl, h2, ?_⟩
      exact lk.nx _ S σ _ F (Same.refl _) (rel.write e2 h1 rl.reverse) hp
    · exact hp.elim⟩
theorem Stp.draw {K : PySem.W.Frag} {g : G} {F H : Hp} {sl : List Slot} {S : List Int} {σ : L2.St} (rel : Rel K g F sl S σ H) {a : Addr} (h : g.dr = some a) (o : HO) : Stp g F H F (upd H a o) := by
  refine ⟨Same.refl _, fun b u e q => ?_, fun _ _ e => .inl e, fun b e => ?_⟩
  · rw [upd_ne (fun z => q (by rw [z]; exact h))]; exact e
  · by_cases z : b = a
    · subst z; rw [upd_same] at e; cases e
    · rw [upd_ne z] at e; exact e
theorem se_popD (i : Nat) (hN : X.N[i]? = some x := by rfl) (hv : Vis X.env.scope x := by first | exact Or.inl rfl | exact Or.inr (Or.inl rfl) | exact Or.inr (Or.inr rfl)) (hd : (x == ("__debug__" : Str)) = false := by decide)
    (hcd : (x == ("__classdict__" : Str)) = false := by decide)
    (hbase : attributeBase (.Name x px) "pop" X.env (eval (.Name x px) X.env) = eval (.Name x px) X.env := by rfl) (hline : (apos.endLine == cpos.line) = true := by rfl) :
    SE X W (.Call (.Attribute (.Name x px) "pop" apos) [] [] cpos) (pPopD i) :=
  ⟨PE.imp (pe_bm0 PySem.F.plainAttrs_list PySem.F.slot_list_pop PySem.F.type_list_pop mt_pop (pe_var hN hv hd hcd) hbase hline) fun σ H Q h => by
    obtain ⟨g, F, sl, S, Q', E', rel, hp, post, exc⟩ := h
    unfold pPopD at hp
    split at hp
    · rename_i e2
      split at hp
      · rename_i n e3
        obtain ⟨a, h1, h2⟩ := rel.drw e2
        obtain ⟨h3, h4, h5⟩ := rel.cor.st a h2
        refine ⟨_, h1, .inl ⟨rfl, _, SqL.of h3⟩, a, _, .int n, rfl, rfl, h3, ?_, ?_⟩
        · rw [List.length_map, List.getElem?_map, ← List.getLast?_eq_getElem?, e3]
          rfl
        · have e4 : (S.map V.int).dropLast = S.dropLast.map V.int := List.map_dropLast.symm
          rw [e4]
          exact post (.dat (.int n)) S.dropLast _ _ F (Stp.draw rel h2 _) (rel.draw h2 _) (.int n) trivial hp
      · exact hp.elim
    · exact hp.elim⟩
theorem se_lenD (i : Nat) (hm : X.mg "len" = none) {xp : Pos} (hN : X.N[i]? = some x := by rfl) (hv : Vis X.env.scope x := by first | exact Or.inl rfl | exact Or.inr (Or.inl rfl) | exact Or.inr (Or.inr rfl)) (hd : (x == ("__debug__" : Str)) = false := by decide)
    (hcd : (x == ("__classdict__" : Str)) = false := by decide) (hg : Gl X "len" := by rfl)
    (he : starEach ((.Name x px) :: []) X.env = (false, eval (.Name x px) X.env) :: starEach [] X.env := by rfl) : SE X W (.Call (.Name "len" xp) [.Name x px] [] pos) (pLenD i) :=
  ⟨PE.imp (pe_callB call_len_seq hg hm PySem.boot_len (pa_cons (pe_var hN hv hd hcd) pa_nil he) (he := he)) fun σ H Q h => by
    obtain ⟨g, F, sl, S, Q', E', rel, hp, post, exc⟩ := h
    unfold pLenD at hp
    split at hp
    · rename_i e2
      obtain ⟨a, h1, h2⟩ := rel.drw e2
      obtain ⟨h3, h4, h5⟩ := rel.cor.st a h2
      refine ⟨_, h1, a, _, rfl, .inl (SqL.of h3), post (.dat (.int S.length)) S _ H F Stp.refl rel (by show Rp _ _ _ _; rw [List.length_map]; exact .int _) trivial hp⟩
    · exact hp.elim⟩
/-- a, b = e, f of two plain local names -/
@[simp] def pPar (i j : Nat) (p : PAx) : PSm := fun P sl S => p sl S (fun rs S1 => match rs with
  | [r1, r2] => i < sl.length ∧ j < sl.length ∧ P.nx ((sl.set i r1.slot).set j r2.slot) S1
  | _ => False) (fun x S1 => P.ex x sl S1)
theorem ra_rr {K : PySem.W.Frag} {g : G} {F H : Hp} {r : Res} {v : V} (h : RA K g F r v) : RR K g F H r v ∧ ∀ sl σ, Ap sl σ r v := by
  cases r with
  | dat d => exact ⟨h, fun _ _ => trivial⟩
  | own ds => exact h.elim
  | drw => exact ⟨h, fun _ _ => trivial⟩
theorem ss_par (i j : Nat) {x y : Str} {a b : Expr} {pa : PAx} {px py pt : Pos} {kt k2 pt2} (hc : X.calm = true) (hN : X.N.Nodup) (ha : SA X W [a, b] pa) (hi : X.N[i]? = some x := by rfl) (hj : X.N[j]? = some y := by rfl) (hij : i ≠ j := by decide)
    (hx : X.env.scope.names.lookup x = some .local := by rfl) (hy : X.env.scope.names.lookup y = some .local := by rfl)
    (hw : swappedStores [.Tuple [.Name x px, .Name y py] kt pt] (.Tuple [a, b] k2 pt2) X.env = pure (some [x, y]) := by rfl) (hs : swapsWithSole [.Tuple [.Name x px, .Name y py] kt pt] (.Tuple [a, b] k2 pt2) pos.line X.env = pure false := by rfl) :
    SS X W (.Assign [.Tuple [.Name x px, .Name y py] kt pt] (.Tuple [a, b] k2 pt2) pos) (pPar i j pa) :=
  ⟨PS.imp (ps_par hc hN hi hj hij hx hy ha.pa hw hs) fun D σ H h => by
    obtain ⟨g, F, sl, S, P, rel, hp, lk⟩ := h
    refine ⟨g, F, sl, S, _, _, rel, hp, fun rs S1 vs H1 F1 s1 rel1 ras h1 => ?_, lk.exc sl σ⟩
    split at h1
    · cases ras with
      | cons r1 r2 =>
        cases r2 with
        | cons r3 r4 =>
          cases r4
          obtain ⟨hl, hl2, h1⟩ := h1
          obtain ⟨q1, a1⟩ := ra_rr (H := H1) r1
          obtain ⟨q2, a2⟩ := ra_rr (H := H1) r3
          exact ⟨_, _, rfl, lk.nx _ S1 _ H1 F1 s1.f ((rel1.store q1 (a1 _ _) hl).store q2 (a2 _ _) (by simpa using hl2)) h1⟩
    · exact h1.elim⟩
/-! is True, is not True -/
@[simp] def fIsB : PF2 := fun a b Q => match a, b with
  | .bl i, .bl j => Q (.dat (.bl (decide (i = j))))
  | _, _ => False
@[simp] def fNotB : PF2 := fun a b Q => match a, b with
  | .bl i, .bl j => Q (.dat (.bl (!decide (i = j))))
  | _, _ => False
theorem sem_isB {K : PySem.W.Frag} : OpSem K rIsB fIsB := fun g F sl S σ H v1 v2 d1 d2 Q Qr rel r1 r2 hf post => by
  unfold fIsB at hf
  split at hf
  · cases r1
    cases r2
    exact ⟨_, _, rfl, rfl, post (.dat (.bl _)) _ H F Stp.refl rel (.bl _) trivial hf⟩
  · exact hf.elim
theorem sem_notB {K : PySem.W.Frag} : OpSem K rNotB fNotB := fun g F sl S σ H v1 v2 d1 d2 Q Qr rel r1 r2 hf post => by
  unfold fNotB at hf
  split at hf
  · cases r1
    cases r2
    exact ⟨_, _, rfl, rfl, post (.dat (.bl _)) _ H F Stp.refl rel (.bl _) trivial hf⟩
  · exact hf.elim
theorem st_isB {a b : Expr} {p q : PEx} (ha : SE X W a p) (hb : SE X W b q) : ST X W (.Compare a [.Is] [b] pos) (pTst (pBin fIsB p q)) := st_cmp op_isBl sem_isB ha hb
theorem st_notB {a b : Expr} {p q : PEx} (ha : SE X W a p) (hb : SE X W b q) : ST X W (.Compare a [.IsNot] [b] pos) (pTst (pBin fNotB p q)) := st_cmp op_notBl sem_notB ha hb
/-! bit_length -/
def nBits (i : Int) : Nat := Builtin.Int.intBits i
@[simp] def pBits (p : PEx) : PEx := fun sl S Q E => dat p sl S (fun d S1 => match d with | .int i => Q (.dat (.int (nBits i))) S1 | _ => False) E
theorem se_bits (h : SE X W e p) (hbase : attributeBase e "bit_length" X.env (eval e X.env) = eval e X.env := by rfl) (hline : (apos.endLine == pos.line) = true := by rfl) : SE X W (.Call (.Attribute e "bit_length" apos) [] [] pos) (pBits p) :=
  ⟨PE.imp (pe_bits h.pe hbase hline) fun σ H Q h => by
    obtain ⟨g, F, sl, S, Q', E', rel, hp, post, exc⟩ := h
    refine rdE_dat rel hp exc fun d S1 v H1 F1 s1 rel1 r1 h1 => ?_
    cases r1 with
    | int i => exact ⟨i, rfl, post (.dat (.int _)) S1 _ H1 F1 s1 rel1 (.int _) trivial h1⟩
    | _ => exact h1.elim⟩
end

/-! ### isinstance -/
@[simp] def tyD : D → String
  | .non => "NoneType"
  | .bl _ => "bool"
  | .int _ => "int"
  | .str _ => "str"
  | .lst _ => "list"
  | .frl _ => "list"
  | .tup _ => "tuple"
  | .obj _ _ _ => ""
/-- is a value of the type T -/
@[simp] def isT (T : String) (d : D) : Bool := tyD d == T || (tyD d == "bool" && T == "int")
def tyOk (T : String) : Bool := ["NoneType", "bool", "int", "str", "list", "tuple"].all fun a => decide (kitB a T = some (a == T || (a == "bool" && T == "int")))
@[simp] def noObj : D → Prop
  | .obj _ _ _ => False
  | _ => True
theorem tyOk_use {K : PySem.W.Frag} {T : String} (h : tyOk T = true) {d : D} (n : noObj d) : PySem.W.kitOne K (.type (tyD d)) (.type T) = some (isT T d) := by
  have := List.all_eq_true.mp h (tyD d) (by cases d <;> first | exact n.elim | simp [tyD])
  exact kit_ty (of_decide_eq_true this)
theorem ty_of {K : PySem.W.Frag} {F H : Hp} {v : V} {d : D} (s : Same F H) (r : Rp K F v d) (n : noObj d) : TyX K H v (.type (tyD d)) := by
  cases r with
  | non => exact .base .non
  | bl b => exact .base (.bl b)
  | int i => exact .base (.int i)
  | str x => exact .base (.str x)
  | lst h _ => exact .base (.lst (s _ _ h))
  | frl h _ =>
    rcases sqL_same s h with (h | ⟨o, h⟩) | ⟨o, its, m, h, hc, _⟩
    · exact .base (.lst h)
    · exact .base (.frz h)
    · exact .kList h hc
  | tup h _ =>
    rcases sqT_same s h with (h | ⟨o, h⟩) | ⟨o, its, m, h, hc, _⟩
    · exact .base (.tup h)
    · exact .fTuple h
    · exact .kTuple h hc
  | obj _ _ _ _ => exact n.elim
@[simp] def pIsi (T : String) (p : PEx) : PEx := fun sl S Q E => dat p sl S (fun d S1 => noObj d ∧ Q (.dat (.bl (isT T d))) S1) E
@[simp] def pIsi2 (T U : String) (p : PEx) : PEx := fun sl S Q E => dat p sl S (fun d S1 => noObj d ∧ Q (.dat (.bl (isT T d || isT U d))) S1) E
section
variable {X : Cx} {W : WX} {e : Expr} {p : PEx} {pos xp tp up kp : Pos} {t u : Str} {T U : String}
theorem se_isi (h : SE X W e p) (hm : X.mg "isinstance" = none) (hmt : X.mg t = none) (hT : tyOk T = true) (hb : bootBuiltins t = some (.type T)) (hg : Gl X "isinstance" := by rfl) (hgt : Gl X t := by rfl) (hn : t ≠ "__name__" := by decide) (hd : (t == ("__debug__" : Str)) = false := by decide)
    (he : starEach (e :: [.Name t tp]) X.env = (false, eval e X.env) :: starEach [.Name t tp] X.env := by rfl) (he2 : starEach ((.Name t tp) :: []) X.env = (false, eval (.Name t tp) X.env) :: starEach [] X.env := by rfl)
    (hpl : (backTo pos (starEach [.Name t tp] X.env)).any (·.1) = false := by rfl) : SE X W (.Call (.Name "isinstance" xp) [e, .Name t tp] [] pos) (pIsi T p) :=
  ⟨PE.imp (pe_callB call_isi hg hm (by decide +kernel) (pa_cons h.pe (pa_cons (pe_bltn (v := .ty T) hgt hmt hb rfl hn hd) pa_nil he2) he) (he := he) (hpl := hpl)) fun σ H Q h => by
    obtain ⟨g, F, sl, S, Q', E', rel, hp, post, exc⟩ := h
    refine rdE_dat rel hp exc fun d S1 v H1 F1 s1 rel1 r1 ⟨hn, h1⟩ => ?_
    exact ⟨v, .ty T, _, _, isT T d, rfl, .ty T, ty_of rel1.cor.fh r1 hn, tyOk_use hT hn, post (.dat (.bl _)) S1 _ H1 F1 s1 rel1 (.bl _) trivial h1⟩⟩
theorem se_isi2 {k : Nat} (h : SE X W e p) (hm : X.mg "isinstance" = none) (hmt : X.mg t = none) (hmu : X.mg u = none) (hT : tyOk T = true) (hU : tyOk U = true) (hb : bootBuiltins t = some (.type T)) (hbu : bootBuiltins u = some (.type U)) (hg : Gl X "isinstance" := by rfl) (hgt : Gl X t := by rfl) (hgu : Gl X u := by rfl)
    (hn : t ≠ "__name__" := by decide) (hd : (t == ("__debug__" : Str)) = false := by decide) (hn2 : u ≠ "__name__" := by decide) (hd2 : (u == ("__debug__" : Str)) = false := by decide)
    (he : starEach (e :: [.Tuple [.Name t tp, .Name u up] k kp]) X.env = (false, eval e X.env) :: starEach [.Tuple [.Name t tp, .Name u up] k kp] X.env := by rfl)
    (he1 : starEach ((.Tuple [.Name t tp, .Name u up] k kp) :: []) X.env = (false, eval (.Tuple [.Name t tp, .Name u up] k kp) X.env) :: starEach [] X.env := by rfl)
    (he2 : starEach ((.Name t tp) :: [.Name u up]) X.env = (false, eval (.Name t tp) X.env) :: starEach [.Name u up] X.env := by rfl) (he3 : starEach ((.Name u up) :: []) X.env = (false, eval (.Name u up) X.env) :: starEach [] X.env := by rfl)
    (hpl : (backTo pos (starEach [.Tuple [.Name t tp, .Name u up] k kp] X.env)).any (·.1) = false := by rfl) : SE X W (.Call (.Name "isinstance" xp) [e, .Tuple [.Name t tp, .Name u up] k kp] [] pos) (pIsi2 T U p) :=
  ⟨PE.imp (pe_callB call_isiT hg hm (by decide +kernel) (pa_cons h.pe (pa_cons (pe_tup (pa_cons (pe_bltn (v := .ty T) hgt hmt hb rfl hn hd) (pa_cons (pe_bltn (v := .ty U) hgu hmu hbu rfl hn2 hd2) pa_nil he3) he2)) pa_nil he1) he) (he := he) (hpl := hpl)) fun σ H Q h => by
    obtain ⟨g, F, sl, S, Q', E', rel, hp, post, exc⟩ := h
    refine rdE_dat rel hp exc fun d S1 v H1 F1 s1 rel1 r1 ⟨hn, h1⟩ => ?_
    refine ⟨by show 2 ≤ sizeLine; decide, fun a ha => ?_⟩
    refine ⟨v, a, [.ty T, .ty U], _, [.type T, .type U], isT T d || isT U d, rfl, upd_same, .cons (.ty T) (.cons (.ty U) .nil), ty_of (fun b o q => Same.upd_new ha b o (rel1.cor.fh b o q)) r1 hn, ?_, post (.dat (.bl _)) S1 _ _ F1 (s1.trans (Stp.alloc ha)) (rel1.alloc ha) (.bl _) trivial h1⟩
    refine kitAny_cons (tyOk_use hT hn) (fun z => ?_) fun z => by rw [z]; rfl
    refine kitAny_cons (tyOk_use hU hn) (fun z2 => ?_) fun z2 => by rw [z2]; simp
    rw [z, z2]
    rfl⟩
end

/-! ### in, not in: an int among ints -/
def intsD : List D → Option (List Int)
  | [] => some []
  | .int i :: r => (intsD r).map (i :: ·)
  | _ :: _ => none
theorem intsD_map : ∀ (ns : List Int), intsD (ns.map D.int) = some ns
  | [] => rfl
  | n :: r => by
    show (intsD (r.map D.int)).map (n :: ·) = _
    rw [intsD_map r]
    rfl
theorem rpl_ints {K : PySem.W.Frag} {F : Hp} : ∀ {vs : List V} {ds : List D} {ns : List Int}, RpL K F vs ds → intsD ds = some ns → vs = ns.map V.int
  | _, _, _, .nil, e => by cases e; rfl
  | v :: vs, d :: ds, ns, .cons h r, e => by
    cases h with
    | int i =>
      simp only [intsD] at e
      cases e2 : intsD ds with
      | none => rw [e2] at e; cases e
      | some ms =>
        rw [e2] at e
        cases e
        rw [rpl_ints r e2]
        rfl
    | _ => cases e
theorem inV_ints (i : Int) (ns : List Int) : inV (.int i) (ns.map V.int) = decide (i ∈ ns) := by
  unfold inV
  rw [List.any_map, Bool.eq_iff_iff, List.any_eq_true]
  constructor
  · rintro ⟨x, hx, h⟩
    have : x = i := by simpa [eqV] using h
    subst this
    simpa using hx
  · intro h
    exact ⟨i, by simpa using h, by simp [eqV]⟩
def fIn (neg : Bool) : PF2 := fun a b Q => match a with
  | .int i => seqD b fun _ ds => match intsD ds with
    | some ns => Q (.dat (.bl (if neg then !decide (i ∈ ns) else decide (i ∈ ns))))
    | none => False
  | _ => False
theorem sem_in {K : PySem.W.Frag} {neg : Bool} : OpSem K (rIn K neg) (fIn neg) := fun g F sl S σ H v1 v2 d1 d2 Q Qr rel r1 r2 hf post => by
  cases r1 with
  | int i =>
    have hf2 : seqD d2 fun _ ds => match intsD ds with | some ns => Qr (.dat (.bl (if neg then !decide (i ∈ ns) else decide (i ∈ ns)))) | none => False := hf
    obtain ⟨k, ds, sv, h⟩ := sv_of (sl := sl) (σ := σ) r2 hf2
    obtain ⟨a, vs, rfl, hs, rl⟩ := sv.use rel
    cases e : intsD ds with
    | none => simp only [e] at h
    | some ns =>
      simp only [e] at h
      have ev := rpl_ints rl e
      subst ev
      have fin := post (.dat (.bl (if neg then !decide (i ∈ ns) else decide (i ∈ ns)))) (.bl (if neg then !decide (i ∈ ns) else decide (i ∈ ns))) H F Stp.refl rel (.bl _) trivial h
      refine ⟨a, _, rfl, hs.or, rfl, ?_, ?_⟩
      · rw [List.all_map]; exact List.all_eq_true.mpr fun _ _ => rfl
      · rw [inV_ints]; exact fin
  | _ => exact hf.elim
section
variable {X : Cx} {W : WX} {a b : Expr} {p q : PEx} {pos : Pos}
theorem se_in (ha : SE X W a p) (hb : SE X W b q) (hm : behindInMarks .In b = false := by rfl) : SE X W (.Compare a [.In] [b] pos) (pBin (fIn false) p q) := se_cmp op_in_seq sem_in ha hb hm
theorem se_notin (ha : SE X W a p) (hb : SE X W b q) (hm : behindInMarks .NotIn b = false := by rfl) : SE X W (.Compare a [.NotIn] [b] pos) (pBin (fIn true) p q) := se_cmp op_notIn_seq sem_in ha hb hm
theorem st_in (ha : SE X W a p) (hb : SE X W b q) (hm : behindInMarks .In b = false := by rfl) : ST X W (.Compare a [.In] [b] pos) (pTst (pBin (fIn false) p q)) := st_cmp op_in_seq sem_in ha hb hm
theorem st_notin (ha : SE X W a p) (hb : SE X W b q) (hm : behindInMarks .NotIn b = false := by rfl) : ST X W (.Compare a [.NotIn] [b] pos) (pTst (pBin (fIn true) p q)) := st_cmp op_notIn_seq sem_in ha hb hm
end

/-! ### all, any of a list of bools; sorted of ints -/
def blsD : List D → Option (List Bool)
  | [] => some []
  | .bl i :: r => (blsD r).map (i :: ·)
  | _ :: _ => none
theorem blsD_map : ∀ (ns : List Bool), blsD (ns.map D.bl) = some ns
  | [] => rfl
  | n :: r => by
    show (blsD (r.map D.bl)).map (n :: ·) = _
    rw [blsD_map r]
    rfl
theorem rpl_bls {K : PySem.W.Frag} {F : Hp} : ∀ {vs : List V} {ds : List D} {ns : List Bool}, RpL K F vs ds → blsD ds = some ns → vs = ns.map V.bl
  | _, _, _, .nil, e => by cases e; rfl
  | v :: vs, d :: ds, ns, .cons h r, e => by
    cases h with
    | bl i =>
      simp only [blsD] at e
      cases e2 : blsD ds with
      | none => rw [e2] at e; cases e
      | some ms =>
        rw [e2] at e
        cases e
        rw [rpl_bls r e2]
        rfl
    | _ => cases e
def fAll : List D → (Res → Prop) → Prop := fun ds Q => match ds with
  | [.lst bs] => match blsD bs with
    | some l => Q (.dat (.bl (l.all id)))
    | none => False
  | _ => False
def fAny : List D → (Res → Prop) → Prop := fun ds Q => match ds with
  | [.lst bs] => match blsD bs with
    | some l => Q (.dat (.bl (l.any id)))
    | none => False
  | _ => False
def fSorted : List D → (Res → Prop) → Prop := fun ds Q => match ds with
  | [.lst bs] => match intsD bs with
    | some l => l.length < 64 ∧ ∀ l' : List Int, l'.Perm l → l'.Pairwise (· ≤ ·) → Q (.own (l'.map D.int))
    | none => False
  | _ => False
section
variable {X : Cx} {W : WX} {e : Expr} {p : PAx} {pos xp : Pos}
theorem se_all (hc : X.calm = true) (hm : X.mg "all" = none) (ha : SA X W [e] p) (hg : Gl X "all" := by rfl) (he : starEach (e :: []) X.env = (false, eval e X.env) :: starEach [] X.env := by rfl) : SE X W (.Call (.Name "all" xp) [e] [] pos) (pCB fAll p) :=
  se_cb (cr_all hc) (fun g F sl S σ H vs ds Q Qr rel rl h post => by
    unfold fAll at h
    split at h
    · cases rl with
      | cons r1 r2 =>
        cases r2
        cases r1 with
        | lst h1 q1 =>
          split at h
          · rename_i l e2
            have ev := rpl_bls q1 e2
            subst ev
            exact ⟨_, l, rfl, SqL.of (rel.cor.fh _ _ h1), post (.dat (.bl (l.all id))) _ H F Stp.refl rel (.bl _) trivial h⟩
          · exact h.elim
    · exact h.elim) hm (by decide +kernel) ha hg (he := he)
theorem se_any (hc : X.calm = true) (hm : X.mg "any" = none) (ha : SA X W [e] p) (hg : Gl X "any" := by rfl) (he : starEach (e :: []) X.env = (false, eval e X.env) :: starEach [] X.env := by rfl) : SE X W (.Call (.Name "any" xp) [e] [] pos) (pCB fAny p) :=
  se_cb (cr_any hc) (fun g F sl S σ H vs ds Q Qr rel rl h post => by
    unfold fAny at h
    split at h
    · cases rl with
      | cons r1 r2 =>
        cases r2
        cases r1 with
        | lst h1 q1 =>
          split at h
          · rename_i l e2
            have ev := rpl_bls q1 e2
            subst ev
            exact ⟨_, l, rfl, SqL.of (rel.cor.fh _ _ h1), post (.dat (.bl (l.any id))) _ H F Stp.refl rel (.bl _) trivial h⟩
          · exact h.elim
    · exact h.elim) hm (by decide +kernel) ha hg (he := he)
theorem se_sorted (hm : X.mg "sorted" = none) (ha : SA X W [e] p) (hg : Gl X "sorted" := by rfl) (he : starEach (e :: []) X.env = (false, eval e X.env) :: starEach [] X.env := by rfl) : SE X W (.Call (.Name "sorted" xp) [e] [] pos) (pCB fSorted p) :=
  se_cb cr_sorted (fun g F sl S σ H vs ds Q Qr rel rl h post => by
    unfold fSorted at h
    split at h
    · cases rl with
      | cons r1 r2 =>
        cases r2
        cases r1 with
        | lst h1 q1 =>
          split at h
          · rename_i l e2
            have ev := rpl_ints q1 e2
            subst ev
            refine ⟨_, l, rfl, SqL.of (rel.cor.fh _ _ h1), h.1, fun ns' a hp hs ha => ?_⟩
            exact post (.own (ns'.map D.int)) _ _ F (Stp.alloc ha) (rel.alloc ha) ⟨a, _, rfl, upd_same, rel.cor.free ha, rel.cor.new ha, RpL.ints ns'⟩ (nw_new ha) (h.2 ns' hp hs)
          · exact h.elim
    · exact h.elim) hm (by decide +kernel) ha hg (he := he)
end

/-! ### defs -/
/-- a def's promise, by data: the arguments, the draws ahead, the wish for the result and the draws behind, the wish for what is raised -/
abbrev PSpec := List Res → List Int → (Res → List Int → Prop) → (PX → List Int → Prop) → Prop
def spOf (K : PySem.W.Frag) (spec : PSpec) : Sp := fun vs H Q E => ∃ F dr S rs Q' E', Same F H ∧ (∀ a, dr = some a → H a = some (.lst (S.map V.int)) ∧ F a = none) ∧ RAs K ⟨H, F, dr⟩ F rs vs ∧ spec rs S Q' E' ∧
  (∀ r S' v H' F', Cor ⟨H, F, dr⟩ F' S' H' → RR K ⟨H, F, dr⟩ F' H' r v → Q' r S' → Q v H') ∧ ∀ x S' d H' F', Cor ⟨H, F, dr⟩ F' S' H' → ExR K F' x d → E' x S' → E (.ref x.C) d H'
structure Cal (P : Program) (w : World) (K : PySem.W.Frag) (mg : Str → Option Value) (base : Heap) (k : Nat) (x : Str) (spec : PSpec) : Prop where
  ex : ∃ f fd ps, FnOk P w K mg base (L2.CX P w) k f fd ps (spOf K spec) ∧ mg x = some (.ref f) ∧ PySem.W.keepIn K (.ref f) = true ∧ Binds K fd ps []
theorem Cal.mono {P : Program} {w : World} {K : PySem.W.Frag} {mg : Str → Option Value} {base : Heap} {j k : Nat} {x : Str} {spec : PSpec} (c : Cal P w K mg base j x spec) (h : j ≤ k) : Cal P w K mg base k x spec := by
  obtain ⟨f, fd, ps, F, q⟩ := c.ex
  exact ⟨f, fd, ps, F.mono h, q⟩
theorem Cal.imp {P : Program} {w : World} {K : PySem.W.Frag} {mg : Str → Option Value} {base : Heap} {k : Nat} {x : Str} {spec spec' : PSpec} (c : Cal P w K mg base k x spec) (h : ∀ rs S Q E, spec' rs S Q E → spec rs S Q E) : Cal P w K mg base k x spec' := by
  obtain ⟨f, fd, ps, F, q⟩ := c.ex
  refine ⟨f, fd, ps, F.imp fun vs H Q E hs => ?_, q⟩
  obtain ⟨F, dr, S, rs, Q', E', a1, a2, a3, a4, a5⟩ := hs
  exact ⟨F, dr, S, rs, Q', E', a1, a2, a3, h _ _ _ _ a4, a5⟩
theorem Rel.after {K : PySem.W.Frag} {g : G} {F H : Hp} {sl : List Slot} {S : List Int} {σ : L2.St} (rel : Rel K g F sl S σ H) {F' H' : Hp} {S' : List Int} (c : Cor ⟨H, F, g.dr⟩ F' S' H') : Rel K g F' sl S' σ H' ∧ Stp g F H F' H' := by
  have st : Stp g F H F' H' := by
    refine ⟨c.f0, c.h0, fun a o e => ?_, fun a e => ?_⟩
    · rcases c.fn a o e with z | z
      · cases q : F a with
        | none => exact absurd q z
        | some u => rw [c.f0 a u q] at e; exact .inl (by rw [e])
      · exact .inr z
    · cases q : H a with
      | none => rfl
      | some u =>
        by_cases z : g.dr = some a
        · rw [(c.st a z).1] at e; cases e
        · rw [c.h0 a u q z] at e; cases e
  refine ⟨⟨⟨rel.cor.f0.trans c.f0, fun a o e => ?_, c.fh, fun a o e q => c.h0 a o (rel.cor.h0 a o e q) q, fun a e => ⟨(c.st a e).1, (c.st a e).2.1, (rel.cor.st a e).2.2⟩⟩, rel.len, fun i s hs => (rel.ok i s hs).mono c.f0 fun ds p e1 e2 => ?_, rel.sep⟩, st⟩
  · rcases st.n a o e with z | z
    · exact rel.cor.fn a o z
    · exact .inr (rel.cor.new z)
  · subst e1
    obtain ⟨p7, vs7, e7, h7, h8, h9, _⟩ := rel.ok i _ hs
    rw [e2] at e7
    cases e7
    have ndr : g.dr ≠ some p := fun z => (rel.cor.st p z).2.2 h9
    refine ⟨(c.h0 p _ h7 ndr).trans h7.symm, ?_⟩
    cases e : F' p with
    | none => rfl
    | some o =>
      rcases st.n p o e with z | z
      · rw [h8] at z; cases z
      · rw [h7] at z; cases z
@[simp] def pCall (spec : PSpec) (pa : PAx) : PEx := fun sl S Q E => pa sl S (fun rs S1 => spec rs S1 Q E) E
theorem rd_call {K : PySem.W.Frag} {W : WX} {spec : PSpec} {pa : PAx} (σ : L2.St) (H : Hp) (Q : VK) (h : rdE K W (pCall spec pa) σ H Q) : tCallS (spOf K spec) (WE W) (rdA K W pa) σ H Q := by
  obtain ⟨g, F, sl, S, Q', E', rel, hp, post, exc⟩ := h
  refine ⟨g, F, sl, S, _, E', rel, hp, fun rs S1 vs H1 F1 s1 rel1 ras h1 => ?_, exc⟩
  refine ⟨F1, g.dr, S1, rs, _, _, rel1.cor.fh, fun a e => ⟨(rel1.cor.st a e).1, (rel1.cor.st a e).2.1⟩, ras, h1, fun r S2 v H2 F2 c rr hq => ?_, fun x S2 d H2 F2 c er hq => ?_⟩
  · obtain ⟨rel2, st⟩ := rel1.after c
    refine post r S2 v H2 F2 (s1.trans st) rel2 ?_ ?_ hq
    · cases r with
      | dat d => exact rr
      | own ds =>
        obtain ⟨p, vs', rfl, h1, h2, h3, h4⟩ := rr
        exact ⟨p, vs', rfl, h1, h2, rel1.cor.new h3, h4⟩
      | drw => exact rr
    · cases r with
      | own ds =>
        obtain ⟨p, vs', rfl, h1, h2, h3, h4⟩ := rr
        exact fun q e => by cases e; exact s1.d p h3
      | _ => trivial
  · obtain ⟨rel2, st⟩ := rel1.after c
    exact exc x S2 d H2 F2 (s1.trans st).f rel2 er hq
section
variable {X : Cx} {W : WX} {k : Nat} {x : Str} {spec : PSpec} {e : Expr} {es : List Expr} {pa : PAx} {p pos : Pos}
theorem se_call (c : Cal X.prog X.w X.K X.mg X.base k x spec) (hr : Room k X.A) (tk : Takes X W) (ha : SA X W (e :: es) pa) (hg : Gl X x := by rfl) (hdb : (x == ("__debug__" : Str)) = false := by decide)
    (he : starEach (e :: es) X.env = (false, eval e X.env) :: starEach es X.env := by rfl) (hpl : (backTo pos (starEach es X.env)).any (·.1) = false := by rfl) : SE X W (.Call (.Name x p) (e :: es) [] pos) (pCall spec pa) := by
  obtain ⟨f, fd, ps, F, hm, hk, hb⟩ := c.ex
  exact ⟨PE.imp (pe_callS F hr hg hm hk hb (fun σ => passAt tk σ) ha.pa hdb he hpl) rd_call⟩
end
/-- in a comprehension's block nothing is raised -/
theorem takes0 {X : Cx} : Takes X W0 := fun u s' ⟨_, _, _, _, _, _, _, _, _, _, _, _, _, _, _, _, z⟩ => z.elim

/-- a def of the top -/
def DefAt (K : PySem.W.Frag) (mg : Str → Option Value) (x : Str) (st : Stmt) (ps : List Str) : Prop := ∃ f fd, Fun K x x st f fd ∧ mg x = some (.ref f) ∧ Binds K fd ps []
theorem fn_mk0 {P : Program} {w : World} {K : PySem.W.Frag} {mg : Str → Option Value} {base : Heap} {k : Nat} {x : Str} {st : Stmt} {N ps : List Str} {spec : PSpec} {p : PSm} {f : Addr} {fd : FuncData} (Fn : Fun K x x st f fd) (Sc : FnScope N ps (defScope st))
    (len : ∀ rs S Q E, spec rs S Q E → rs.length = ps.length)
    (hb : ∀ (f : Addr) (cdv : Value) (A : Around) (outer : List Env) (s : Shared) (H : Hp) (E : XK), Room k (A.deeper (PyProof.Rows.envOfC x (defScope st) s.heap.objs.size f cdv)) →
      SB (cxOf (L2.CX P w) P w K mg base N x (defScope st) f cdv A outer s H E) (fun cls d _ H => E cls d H) (defBody st) p)
    (hp : ∀ rs S Q E, spec rs S Q E → p ⟨fun _ S' => Q (.dat .non) S', Q, fun _ _ => False, fun _ _ => False, fun x _ S' => E x S'⟩ (rs.map Res.slot ++ List.replicate (N.length - rs.length) .un) S) : FnOk P w K mg base (L2.CX P w) (k + 1) f fd ps (spOf K spec) := by
  refine Fn.okX Sc (fun vs H Q E h => ?_) (fun cdv A outer s H vs Q E hr h => ?_)
  · obtain ⟨F, dr, S, rs, Q', E', a1, a2, a3, a4, a5⟩ := h
    rw [← Paired.length a3]
    exact len _ _ _ _ a4
  · obtain ⟨F, dr, S, rs, Q', E', a1, a2, a3, a4, a5, a6⟩ := h
    refine ⟨_, (hb f cdv A outer s H E hr).ps, ⟨H, F, dr⟩, F, _, S, _, ?_, hp rs S Q' E' a4, ?_⟩
    · have hl : rs.length = vs.length := Paired.length a3
      have get : ∀ (rs : List Res) (vs : List V), RAs K ⟨H, F, dr⟩ F rs vs → ∀ (i : Nat) (s : Slot), (rs.map Res.slot)[i]? = some s → SlotOk K ⟨H, F, dr⟩ F H s ((vs.map some)[i]?).join := by
        intro rs
        induction rs with
        | nil => intro vs _ i s e; simp at e
        | cons r rs ih =>
          intro vs h i s e
          cases h with
          | cons h1 h2 =>
            cases i with
            | zero =>
              simp at e
              subst e
              cases r with
              | dat d => exact ⟨_, rfl, h1⟩
              | own ds => cases h1
              | drw =>
                obtain ⟨a, e1, rfl⟩ := h1
                exact ⟨a, e1, rfl⟩
            | succ i => simpa using ih _ h2 i s (by simpa using e)
      have noown : ∀ (i : Nat) (d : List D), (rs.map Res.slot ++ List.replicate (N.length - rs.length) Slot.un)[i]? ≠ some (Slot.own d) := fun i d e => by
        rcases List.getElem?_append (l₁ := rs.map Res.slot) (l₂ := List.replicate (N.length - rs.length) Slot.un) (i := i) ▸ e with e
        split at e
        · have := get rs vs a3 i _ e
          rw [List.getElem?_map] at e
          cases q : rs[i]? with
          | none => rw [q] at e; cases e
          | some r =>
            rw [q] at e
            cases r with
            | own ds =>
              obtain ⟨p, vs', e1, h1, h2, h3, h4⟩ := this
              have h3 : H p = none := h3
              rw [h3] at h1; cases h1
            | dat d => cases e
            | drw => cases e
        · rw [List.getElem?_replicate] at e
          split at e <;> cases e
      refine ⟨⟨Same.refl _, fun a o e => .inl (by show F a ≠ none; rw [e]; exact fun z => nomatch z), a1, fun a o e _ => e, fun a e => ⟨(a2 a e).1, (a2 a e).2, by show H a ≠ none; rw [(a2 a e).1]; exact fun z => nomatch z⟩⟩, ?_, fun i s e => ?_, fun i j di dj p' _ h4 _ => absurd h4 (noown i di)⟩
      · unfold L2.start
        simp [hl]
      · unfold L2.start
        rw [List.getElem?_append] at e ⊢
        rw [List.length_map] at e ⊢
        split at e
        · rename_i h
          rw [if_pos (by omega)]
          exact get rs vs a3 i s e
        · rw [List.getElem?_replicate] at e
          split at e
          · cases e; trivial
          · cases e
    · exact ⟨fun sl S' σ H' F' s1 rel h => a5 _ S' _ H' F' rel.cor (by exact Rp.non) h, fun r S' v H' F' s1 c rr h => a5 r S' v H' F' c rr h, fun _ _ _ _ _ _ _ z => z.elim, fun _ _ _ _ _ _ _ z => z.elim, fun x sl S' d σ H' F' s1 rel er h => a6 x S' d H' F' rel.cor er h⟩
theorem cal_mk {P : Program} {w : World} {K : PySem.W.Frag} {mg : Str → Option Value} {base : Heap} {k : Nat} {x : Str} {st : Stmt} {N ps : List Str} {spec : PSpec} {p : PSm} (DF : DefAt K mg x st ps) (Sc : FnScope N ps (defScope st))
    (len : ∀ rs S Q E, spec rs S Q E → rs.length = ps.length)
    (hb : ∀ (f : Addr) (cdv : Value) (A : Around) (outer : List Env) (s : Shared) (H : Hp) (E : XK), Room k (A.deeper (PyProof.Rows.envOfC x (defScope st) s.heap.objs.size f cdv)) →
      SB (cxOf (L2.CX P w) P w K mg base N x (defScope st) f cdv A outer s H E) (fun cls d _ H => E cls d H) (defBody st) p)
    (hp : ∀ rs S Q E, spec rs S Q E → p ⟨fun _ S' => Q (.dat .non) S', Q, fun _ _ => False, fun _ _ => False, fun x _ S' => E x S'⟩ (rs.map Res.slot ++ List.replicate (N.length - rs.length) .un) S) : Cal P w K mg base (k + 1) x spec := by
  obtain ⟨f, fd, Fn, hm, hbd⟩ := DF
  exact ⟨f, fd, ps, fn_mk0 Fn Sc len hb hp, hm, Fn.kp, hbd⟩

end Py
end
section
set_option Elab.async false
set_option linter.all false
set_option maxRecDepth 100000
set_option maxHeartbeats 4000000
/-! Own errors: class X(SumError) with super().__init__(text) and fields. -/
namespace Py
open PySem PySem.W PySem.Calls PyProof.Rows PySem.HandSPX

abbrev errTail (D : Addr) : List Value := [.ref D, .type "Exception", .type "BaseException", .type "object"]

section
open Builtin Builtin.ObjectAttr
variable {prog : Program} {w : World} {A : Around} {E : Value → Shared → Prop} {R : Result → Shared → Prop} {hp : Heap} {g : Array GenState} {d : Drawn} {t : Nat} {os : OsState}
theorem err_osa {K : Frag} {name : Str} {tk : Tok} {v : Value} {x C D : Addr} {ox : Obj} {od : Option Obj} {cd : ClassData} (X : K.In hp) (I : InstAt hp x ox C od) (hcd : clsIn K C = some cd) (hm : cd.mro = .ref C :: errTail D) (ha : findIn K (.ref C) name = some none)
    (hq : wpAny (model prog w) A.in1 (storeInOwnDict (.ref x) (.ref C) (.str name tk) name v false) (fun fin s' => match fin with | .done f => R (.ok f) s' | .again c' => c'.quiet = true ∧ codeAny (model prog w) A c' R s') (fun e s' => R (.error e) s') ⟨hp, g, d, t, os⟩) :
    codeAny (model prog w) A (.call (.builtin "object.__setattr__") ⟨[.ref x, .str name tk, v], []⟩) R ⟨hp, g, d, t, os⟩ := by
  have SF := F.store_object
  have isob : mroIn K C (.type "object") = some true := by
    unfold mroIn
    rw [hcd, Option.bind_some, hm]
    rfl
  have sub : Looks (model prog w) hp (isInstance (.ref x) (.type "object")) true := I.type.andThen (looks_mroIn X isob)
  apply codeAny_call_builtin SF.slot.plain SF.entry
  refine @check_slot (model prog w) _ _ ⟨hp, g, d, t, os⟩ "object.__setattr__" "object" "__setattr__" (.ref x) [.str name tk, v] [] _ SF.kind SF.split sub (SF.args (.ref x) (.str name tk) v) ?_
  have lm : Looks (model prog w) hp (mroOf (.ref C)) cd.mro := (looks_clsIn X hcd).andThen .now
  have lt : Looks (model prog w) hp (storeTaker? none) none := .now
  have pass : refuseLoop (.ref x) "__setattr__" cd.mro = pure () := by
    rw [hm, refuseLoop_ref, refuseLoop_ref]
    exact F.store_Exception.passes _
  rw [osa_eq, refuse_eq]
  apply wpAny_bind
  apply wpAny_bind
  apply I.type.at
  apply wpAny_bind
  apply lm.at
  rw [pass]
  apply wpAny_pure
  apply wpAny_bind
  apply I.type.at
  apply wpAny_bind
  apply (looks_findIn X ha).at
  apply wpAny_bind
  apply lt.at
  exact hq
theorem err_new {K : Frag} {name : Str} {tk : Tok} {v : Value} {x C D : Addr} {fv : Array Value} {cd : ClassData} (X : K.In hp) (hx : hp.get? x = some { cls := .ref C, data := .fields fv }) (hcd : clsIn K C = some cd) (hm : cd.mro = .ref C :: errTail D) (hh : cd.hasDict = true) (ha : findIn K (.ref C) name = some none)
    (hq : ∀ h' tk' dx, (∀ b o, b ≠ x → hp.get? b = some o → h'.get? b = some o) → hp.objs.size ≤ dx → dx ≠ x → h'.get? x = some { cls := .ref C, dict := some dx, data := .fields fv } → h'.Ns1 dx (fun y => if y = name then some v else none) → R (.ok (.ret .none)) ⟨h', g, d, tk', os⟩) :
    codeAny (model prog w) A (.call (.builtin "object.__setattr__") ⟨[.ref x, .str name tk, v], []⟩) R ⟨hp, g, d, t, os⟩ := by
  have ix : InstAt hp x { cls := .ref C, data := .fields fv } C none := ⟨hx, rfl, rfl, trivial⟩
  have ne : x ≠ hp.objs.size := Nat.ne_of_lt (Heap.lt_size hx)
  apply err_osa X ix hcd hm ha
  have lc : Looks (model prog w) hp (classData C) cd := looks_clsIn X hcd
  rcases cd with ⟨nm, bs, mro, ns, qn, hd, sn, sb, ab, col, del⟩
  dsimp only at hh
  subst hh
  unfold storeInOwnDict ownDictForStores
  repeat (first | with_reducible refine store_in_new ?_ ?_ | with_reducible refine wpAny_loadPart_at hx ?_ | with_reducible refine lc.at ?_ | wp_step)
  · exact ⟨_, #[], _, (Heap.get?_update_ne _ _ _ _ ne.symm).trans (Heap.get?_push_at rfl rfl), rfl, fun e he => absurd he (by simp), fun _ => rfl⟩
  · intro h' tk' hn' sb
    have hx1 : (hp.push { cls := .type "dict", data := .dict #[] }).get? x = some { cls := .ref C, data := .fields fv } := Heap.get?_push_of_some _ hx
    refine hq h' tk' hp.objs.size (fun b o hb ho => ?_) (Nat.le_refl _) ne.symm ?_ hn'
    · rw [sb.2 b (Nat.ne_of_lt (Heap.lt_size ho)), Heap.get?_update_ne _ _ _ _ hb]
      exact Heap.get?_push_of_some _ ho
    · rw [sb.2 x ne]
      exact Heap.get?_update_self _ hx1 rfl
theorem err_old {K : Frag} {name : Str} {tk : Tok} {v : Value} {x C D dx : Addr} {fv : Array Value} {cd : ClassData} {m0 : Str → Option Value} {nl : List Str} (X : K.In hp) (hx : hp.get? x = some { cls := .ref C, dict := some dx, data := .fields fv }) (hns : hp.Ns1 dx m0) (hw : Within m0 nl) (hz : nl.length ≤ 1000)
    (hcd : clsIn K C = some cd) (hm : cd.mro = .ref C :: errTail D) (hh : cd.hasDict = true) (ha : findIn K (.ref C) name = some none)
    (hq : ∀ h' tk', (∀ b o, b ≠ dx → hp.get? b = some o → h'.get? b = some o) → h'.Ns1 dx (fun y => if y = name then some v else m0 y) → R (.ok (.ret .none)) ⟨h', g, d, tk', os⟩) :
    codeAny (model prog w) A (.call (.builtin "object.__setattr__") ⟨[.ref x, .str name tk, v], []⟩) R ⟨hp, g, d, t, os⟩ := by
  obtain ⟨oD, esD, epD, hoD, hdD, _⟩ := hns.count hw
  have ix : InstAt hp x { cls := .ref C, dict := some dx, data := .fields fv } C (some oD) := ⟨hx, rfl, rfl, hoD⟩
  apply err_osa X ix hcd hm ha
  have lc : Looks (model prog w) hp (classData C) cd := looks_clsIn X hcd
  rcases cd with ⟨nm, bs, mro, ns, qn, hd, sn, sb, ab, col, del⟩
  dsimp only at hh
  subst hh
  unfold storeInOwnDict ownDictForStores
  repeat (first | with_reducible refine ESX.store_in_old hns hw hz ?_ | with_reducible refine wpAny_loadPart_at hx ?_ | with_reducible refine lc.at ?_ | wp_step)
  intro h' tk' hn' sb
  exact hq h' tk' (fun b o hb ho => (sb.2 b hb).trans ho) hn'
end

/-- what the written part says of an own error at C, its base at D, its __init__ at fI with this text -/
structure ErrCls (prog : Program) (K : Frag) (C D fI : Addr) (q : Str) (st : Stmt) : Prop where
  cls : ∃ nm qq N bs sn sub ab col dd k0 k1 k2 k3 k5, K.lookup C = some (excClassObj nm qq C N bs (errTail D) true sn sub ab col dd k0 k1 k2 k3 k5 "Exception.__new__")
  sup : alongIn K "__init__" (errTail D) = some (some (.builtin "Exception.__init__"))
  opq : nsIn K cStatics "thirdparty.any" = some none
  exI : subIn K (.ref C) (.type "Exception") = some true
  slf : mroIn K C (.ref C) = some true
  sa : findIn K (.ref C) "__setattr__" = some (some (.builtin "object.__setattr__"))
  iC : findIn K (.ref C) "__init__" = some (some (.ref fI))
  tC : typeIn K (.ref fI) = some (.type "function")
  kC : keepIn K (.ref C) = true
  exC : subIn K (.ref C) (.type "BaseException") = some true
  tyC : typeIn K (.ref C) = some (.type "type")
  ga : findIn K (.ref C) "__getattribute__" = some (some (.builtin "BaseException.__getattribute__"))
  gg : findIn K (.ref C) "__getattr__" = some none
  hdC : hasDictIn K C = true
  fn : ∃ (oc ccl cl : Value) (od an cdd cld : Option Addr) (doc pm ct : Value) (osl ccs csl : Array (Option Value)) (cda cc : Addr) (vs : Array Value) (file : Str) (tf : Tok),
    K.lookup fI = some ⟨oc, od, .func (ksFn "__init__" q (L2.defArgs st) (L2.defBody st) (L2.defScope st) .none .none doc pm an (.ref cda) ct cc), osl⟩ ∧ codeIn K (.ref cda) q = true ∧
    K.lookup cda = some ⟨ccl, cdd, .fields vs, ccs⟩ ∧ vs[2]? = some (.str file tf) ∧ ((prog.main.file : Str) == file) = true ∧ K.lookup cc = some ⟨cl, cld, .cell (some (.ref C)), csl⟩
  sn : nsIn K mainGlobals "super" = some none
  top : (prog.main.scope.names.lookup ("super" : Str)).isSome = false

/-- behind super().__init__(..) -/
structure SupEnd (h h' : Heap) (x C : Addr) : Prop where
  keep : ∀ b o, b ≠ x → h.get? b = some o → h'.get? b = some o
  ob : ∃ t1, h'.get? x = some (excO C t1)
section
variable {prog : Program} {w : World} {A : Around} {E : Value → Shared → Prop} {K : Frag} {C D fI : Addr} {q : Str} {st : Stmt} {h : Heap} {g : Array GenState} {d : Drawn} {t : Nat} {os : OsState}
theorem super_stmt (T : ErrCls prog K C D fI q st) {body : List Stmt} {scope : Scope} {L cda cc x t0 : Addr} {m mg mb : Str → Option Value} {p0 p1 p2 p3 p4 p5 : Pos} {txt : Str} {j : Nat} {Q : Flow → Shared → Prop}
    {oc ccl cl : Value} {od an cdd cld : Option Addr} {doc pm ct : Value} {osl ccs csl : Array (Option Value)} {vs : Array Value} {file : Str} {tf : Tok}
    (fl : K.lookup fI = some ⟨oc, od, .func (ksFn "__init__" q (L2.defArgs st) (L2.defBody st) (L2.defScope st) .none .none doc pm an (.ref cda) ct cc), osl⟩)
    (fc : K.lookup cda = some ⟨ccl, cdd, .fields vs, ccs⟩) (fv : vs[2]? = some (.str file tf)) (ff : ((prog.main.file : Str) == file) = true) (fe : K.lookup cc = some ⟨cl, cld, .cell (some (.ref C)), csl⟩)
    (X : K.In h) (hg : h.Ns mainGlobals mg) (hb : h.Ns builtinsNs mb) (hsg : mg "super" = none) (hsb : mb "super" = some (.type "super")) (hn : h.Ns L m) (hs : m "self" = some (.ref x)) (hx : h.get? x = some (excO C t0))
    (hk : scope.kind = .function) (hks : scope.names.lookup ("super" : Str) = some .globalImplicit) (hkc : scope.names.lookup ("__class__" : Str) = some .free) (hka : scope.names.lookup ("self" : Str) = some .local)
    (har : ∃ ar, ((L2.defArgs st).posonlyargs ++ (L2.defArgs st).args).head? = some ar ∧ ar.arg = "self")
    (hint : interactive (ksEnv q scope L fI (.ref cda) cc) = false) (hsw : swapsWith (.Call (.Attribute (.Call (.Name "super" p0) [] [] p1) "__init__" p2) [.Constant (.str txt) j p3] [] p4) none p5.line (ksEnv q scope L fI (.ref cda) cc) = pure false)
    (he : starEach [.Constant (.str txt) j p3] (ksEnv q scope L fI (.ref cda) cc) = (false, eval (.Constant (.str txt) j p3) (ksEnv q scope L fI (.ref cda) cc)) :: starEach [] (ksEnv q scope L fI (.ref cda) cc))
    (hev : eval (.Call (.Attribute (.Call (.Name "super" p0) [] [] p1) "__init__" p2) [.Constant (.str txt) j p3] [] p4) (ksEnv q scope L fI (.ref cda) cc) = (do
      let ov ← attributeBase (.Call (.Name "super" p0) [] [] p1) "__init__" (ksEnv q scope L fI (.ref cda) cc) (eval (.Call (.Name "super" p0) [] [] p1) (ksEnv q scope L fI (.ref cda) cc))
      standAt p2.atName
      let (f, first) ← holding [ov] (getMethod ov "__init__" (pure false))
      callWith p4 f first (backTo p4 (starEach [.Constant (.str txt) j p3] (ksEnv q scope L fI (.ref cda) cc))) []))
    (hq : ∀ h' tk, SupEnd h h' x C → Q .next ⟨h', g, d, tk, os⟩) :
    _root_.PySem.wpAt (model prog w) A (.func body (ksEnv q scope L fI (.ref cda) cc)) (exec (.Expr (.Call (.Attribute (.Call (.Name "super" p0) [] [] p1) "__init__" p2) [.Constant (.str txt) j p3] [] p4) p5) (ksEnv q scope L fI (.ref cda) cc)) Q E ⟨h, g, d, t, os⟩ := by
  obtain ⟨ar, har, hae⟩ := har
  obtain ⟨nm, qq, N, bs, sn, sub, ab, col, dd, k0, k1, k2, k3, k5, hC⟩ := T.cls
  have hCg := X _ _ hC
  have hcl : clsIn K C = some { name := nm, bases := bs, mro := .ref C :: errTail D, ns := N, qualname := qq, hasDict := true, slotNames := sn, subclasses := sub, abstract := ab, collection := col, hasDel := false } := by
    unfold clsIn
    rw [hC]
  have hxC : x ≠ C := fun z => by
    rw [z, hCg] at hx
    cases hx
  have tyx : ∀ {h1 : Heap}, K.In h1 → h1.get? x = some (excO C t0) → Looks (model prog w) h1 (isInstance (.ref x) (.type "Exception")) true := fun X1 hx1 => (InstAt.type (C := C) (od := none) (ox := excO C t0) ⟨hx1, rfl, rfl, trivial⟩).andThen (looks_subIn X1 T.exI)
  refine ks_wpAt_Expr_any (ks_wpAt_MethodCall (pl := pure false) ?_ hev) hint hsw
  refine ks_wpAt_super_base (env := ksEnv q scope L fI (.ref cda) cc) hks hkc (by decide) rfl (X _ _ fl) rfl har rfl (X _ _ fc) rfl fv ff T.top ?_
  refine ks_loadName_global hk hks (loadGlobal_builtin (env := ksEnv q scope L fI (.ref cda) cc) hg hsg hb hsb ⟨rfl, ?_⟩)
  refine wpAny_loadName_free hk hkc rfl ⟨_, X _ _ fe, rfl⟩ ?_
  rw [hae]
  refine wpAny_loadName_local hk hka hn hs ?_
  refine ks_wpAny_isType_cls hCg rfl ⟨rfl, ?_⟩
  refine ks_wpAny_call_super hCg rfl hx rfl (fun c e => by cases e) (looks_mroIn X T.slf) (fun h1 e1 kp1 => ?_)
  have X1 : K.In h1 := X.keeps kp1
  refine ESX.getMethod_super e1 (looks_opaque X1 T.opq) (l₀ := .ref C :: errTail D) ((looks_clsIn X1 hcl).andThen .now) (ESX.drop_own C (errTail D)) X1 T.sup hxC (by decide) (tyx X1 (kp1 _ _ hx)) ?_
  have kp2 : ∀ b o, h.get? b = some o → (h1.push (ESX.bw x)).get? b = some o := fun b o e => Heap.get?_push_of_some _ (kp1 b o e)
  refine ESX.callWith_bound (x := x) ?_ he
  refine Calls.spliced_cons ?_
  show wpAny (model prog w) A (eval (.Constant (.str txt) j p3) (ksEnv q scope L fI (.ref cda) cc)) _ _ _
  refine Calls.Constant_str ?_
  have e0 : starEach [] (ksEnv q scope L fI (.ref cda) cc) = [] := by first | rfl | simp [starEach]
  rw [e0]
  show wpAny (model prog w) A (spliced []) _ _ _
  refine Calls.spliced_nil ⟨Heap.get?_push_size _ rfl, ?_⟩
  have X2 : K.In (h1.push (ESX.bw x)) := X.keeps kp2
  refine ESX.call_bw (X2 _ _ hC) (kp2 _ _ hx) (Heap.get?_push_size _ rfl) (by rw [sizeLine_eq]; show 1 ≤ 16777216; decide) fun h3 t1 kp3 hx3 => ?_
  refine hq h3 _ ⟨fun b o hb e => kp3 b o hb (kp2 b o e), t1, hx3⟩
end

/-- a made error: its own dict d, what it holds -/
structure ErrMade (h h' : Heap) (e C d : Addr) (m : Str → Option Value) : Prop where
  keep : ∀ b o, h.get? b = some o → h'.get? b = some o
  new : h.objs.size ≤ e
  obj : ∃ oe vs, h'.get? e = some oe ∧ oe.cls = .ref C ∧ oe.dict = some d ∧ oe.data = .fields vs ∧ vs[1]? = some .none
  dbig : h.objs.size ≤ d
  dne : d ≠ e
  ns : h'.Ns1 d m
/-- behind the __init__ of a fresh error at x -/
structure ErrInit (h h' : Heap) (x C dx : Addr) (m : Str → Option Value) : Prop where
  keep : ∀ b o, b ≠ x → h.get? b = some o → h'.get? b = some o
  obj : ∃ t1, h'.get? x = some { cls := .ref C, dict := some dx, data := .fields #[.ref t1, .none, .none, .none, .bool false, .none] }
  dbig : h.objs.size ≤ dx
  dne : dx ≠ x
  ns : h'.Ns1 dx m
/-- one statement self.f = a of an __init__, by its letters -/
def asgF (f a : Str) (q1 q2 q3 q4 : Pos) : Stmt := .Assign [.Attribute (.Name "self" q1) f q2] (.Name a q3) q4
def supS (txt : Str) (j : Nat) (p0 p1 p2 p3 p4 p5 : Pos) : Stmt := .Expr (.Call (.Attribute (.Call (.Name "super" p0) [] [] p1) "__init__" p2) [.Constant (.str txt) j p3] [] p4) p5
/-- what rfl shows of a written __init__: its env at any place -/
structure IniEnv (q : Str) (st : Stmt) (txt : Str) (j : Nat) (p0 p1 p2 p3 p4 p5 : Pos) : Prop where
  hk : (L2.defScope st).kind = .function
  hco : (L2.defScope st).isCoroutine = false
  hgen : (L2.defScope st).isGenerator = false
  hks : (L2.defScope st).names.lookup ("super" : Str) = some .globalImplicit
  hkc : (L2.defScope st).names.lookup ("__class__" : Str) = some .free
  hka : (L2.defScope st).names.lookup ("self" : Str) = some .local
  hcell : ∀ x ∈ (L2.defScope st).names, x.2 ≠ .cell
  har : ∃ ar, ((L2.defArgs st).posonlyargs ++ (L2.defArgs st).args).head? = some ar ∧ ar.arg = "self"
  hint : ∀ L fI cda cc, interactive (ksEnv q (L2.defScope st) L fI (.ref cda) cc) = false
  hsw : ∀ L fI cda cc, swapsWith (.Call (.Attribute (.Call (.Name "super" p0) [] [] p1) "__init__" p2) [.Constant (.str txt) j p3] [] p4) none p5.line (ksEnv q (L2.defScope st) L fI (.ref cda) cc) = pure false
  he : ∀ L fI cda cc, starEach [.Constant (.str txt) j p3] (ksEnv q (L2.defScope st) L fI (.ref cda) cc) = (false, eval (.Constant (.str txt) j p3) (ksEnv q (L2.defScope st) L fI (.ref cda) cc)) :: starEach [] (ksEnv q (L2.defScope st) L fI (.ref cda) cc)
  hev : ∀ L fI cda cc, eval (.Call (.Attribute (.Call (.Name "super" p0) [] [] p1) "__init__" p2) [.Constant (.str txt) j p3] [] p4) (ksEnv q (L2.defScope st) L fI (.ref cda) cc) = (do
      let ov ← attributeBase (.Call (.Name "super" p0) [] [] p1) "__init__" (ksEnv q (L2.defScope st) L fI (.ref cda) cc) (eval (.Call (.Name "super" p0) [] [] p1) (ksEnv q (L2.defScope st) L fI (.ref cda) cc))
      standAt p2.atName
      let (f, first) ← holding [ov] (getMethod ov "__init__" (pure false))
      callWith p4 f first (backTo p4 (starEach [.Constant (.str txt) j p3] (ksEnv q (L2.defScope st) L fI (.ref cda) cc))) [])
section
variable {prog : Program} {w : World} {A : Around} {E : Value → Shared → Prop} {R : Result → Shared → Prop} {K : Frag} {C D fI : Addr} {q : Str} {st : Stmt} {h : Heap} {g : Array GenState} {d : Drawn} {t : Nat} {os : OsState}
theorem ErrCls.cl (T : ErrCls prog K C D fI q st) : ∃ cd, clsIn K C = some cd ∧ cd.mro = .ref C :: errTail D ∧ cd.hasDict = true := by
  obtain ⟨nm, qq, N, bs, sn, sub, ab, col, dd, k0, k1, k2, k3, k5, hC⟩ := T.cls
  exact ⟨{ name := nm, bases := bs, mro := .ref C :: errTail D, ns := N, qualname := qq, hasDict := true, slotNames := sn, subclasses := sub, abstract := ab, collection := col, hasDel := false }, by unfold clsIn; rw [hC], rfl, rfl⟩
theorem ErrCls.out (T : ErrCls prog K C D fI q st) {x : Addr} (h : K.lookup x = none) : x ≠ C ∧ x ≠ fI := by
  obtain ⟨nm, qq, N, bs, sn, sub, ab, col, dd, k0, k1, k2, k3, k5, hC⟩ := T.cls
  obtain ⟨oc, ccl, cl, od, an, cdd, cld, doc, pm, ct, osl, ccs, csl, cda, cc, vs, file, tf, fl, _⟩ := T.fn
  exact ⟨fun z => by (rw [z, hC] at h; cases h), fun z => by (rw [z, fl] at h; cases h)⟩
theorem kIn_but {K : Frag} {h h' : Heap} {x : Addr} (X : K.In h) (hx : K.lookup x = none) (k : ∀ b o, b ≠ x → h.get? b = some o → h'.get? b = some o) : K.In h' := fun a o e =>
  k a o (fun z => by rw [z, hx] at e; cases e) (X a o e)
/-- self.f = a : the first field -/
theorem asg_new (T : ErrCls prog K C D fI q st) {env : Env} {L x t1 : Addr} {m : Str → Option Value} {f a : Str} {q1 q2 q3 q4 : Pos} {v : Value} {Q : Flow → Shared → Prop} (X : K.In h) (hx : h.get? x = some (excO C t1)) (hn : h.Ns env.locals m) (hs : m "self" = some (.ref x)) (ha : m a = some v)
    (hk : env.scope.kind = .function) (k1 : env.kindOf "self" = some .local) (k2 : env.kindOf a = some .local) (hd : (a == ("__debug__" : Str)) = false) (no : findIn K (.ref C) f = some none) (hsw : swapsWith (.Name a q3) (some (.Attribute (.Name "self" q1) f q2)) q4.line env = pure false)
    (hq : ∀ h' tk dx, (∀ b o, b ≠ x → h.get? b = some o → h'.get? b = some o) → h.objs.size ≤ dx → dx ≠ x → h'.get? x = some { cls := .ref C, dict := some dx, data := .fields #[.ref t1, .none, .none, .none, .bool false, .none] } → h'.Ns1 dx (fun y => if y = f then some v else none) → Q .next ⟨h', g, d, tk, os⟩) :
    wpAny (model prog w) A (exec (asgF f a q1 q2 q3 q4) env) Q E ⟨h, g, d, t, os⟩ := by
  obtain ⟨cd, c1, c2, c3⟩ := T.cl
  unfold asgF
  refine plainObj_wpAny_Assign_Attribute (hs := hsw) ?_
  refine wpAny_Name (wpAny_loadName_local hk k2 hn ha ?_) hd
  refine wpAny_Name (wpAny_loadName_local hk k1 hn hs ?_) (by decide)
  refine set_plain X (ox := excO C t1) (od := none) ⟨hx, rfl, rfl, trivial⟩ T.sa ?_
  exact err_new X hx c1 c2 c3 no fun h' tk' dx kp dn dne hx' hns => hq h' tk' dx kp dn dne hx' hns
/-- .. a further one -/
theorem asg_old (T : ErrCls prog K C D fI q st) {env : Env} {L x dx t1 : Addr} {m m0 : Str → Option Value} {nl : List Str} {f a : Str} {q1 q2 q3 q4 : Pos} {v : Value} {Q : Flow → Shared → Prop} (X : K.In h) (hx : h.get? x = some { cls := .ref C, dict := some dx, data := .fields #[.ref t1, .none, .none, .none, .bool false, .none] }) (hns : h.Ns1 dx m0) (hw : Within m0 nl) (hz : nl.length ≤ 1000) (hn : h.Ns env.locals m) (hs : m "self" = some (.ref x)) (ha : m a = some v)
    (hk : env.scope.kind = .function) (k1 : env.kindOf "self" = some .local) (k2 : env.kindOf a = some .local) (hd : (a == ("__debug__" : Str)) = false) (no : findIn K (.ref C) f = some none) (hsw : swapsWith (.Name a q3) (some (.Attribute (.Name "self" q1) f q2)) q4.line env = pure false)
    (hq : ∀ h' tk, (∀ b o, b ≠ dx → h.get? b = some o → h'.get? b = some o) → h'.Ns1 dx (fun y => if y = f then some v else m0 y) → Q .next ⟨h', g, d, tk, os⟩) :
    wpAny (model prog w) A (exec (asgF f a q1 q2 q3 q4) env) Q E ⟨h, g, d, t, os⟩ := by
  obtain ⟨cd, c1, c2, c3⟩ := T.cl
  obtain ⟨oD, esD, epD, hoD, hdD, _⟩ := hns.count hw
  unfold asgF
  refine plainObj_wpAny_Assign_Attribute (hs := hsw) ?_
  refine wpAny_Name (wpAny_loadName_local hk k2 hn ha ?_) hd
  refine wpAny_Name (wpAny_loadName_local hk k1 hn hs ?_) (by decide)
  refine set_plain X (ox := { cls := .ref C, dict := some dx, data := .fields #[.ref t1, .none, .none, .none, .bool false, .none] }) (od := some oD) ⟨hx, rfl, rfl, hoD⟩ T.sa ?_
  exact err_old X hx hns hw hz c1 c2 c3 no fun h' tk' kp hns' => hq h' tk' kp hns'
/-- the whole of an __init__: super().__init__(txt), then the rest -/
theorem err_init (T : ErrCls prog K C D fI q st) {txt : Str} {j : Nat} {p0 p1 p2 p3 p4 p5 : Pos} (IE : IniEnv q st txt j p0 p1 p2 p3 p4 p5) {rest : List Stmt} {s : Shared} {x t0 : Addr} {vals : List Value} {binds : List (Str × Value)} {mg mb : Str → Option Value} {m : Str → Option Value}
    (hbody : L2.defBody st = supS txt j p0 p1 p2 p3 p4 p5 :: rest) (X : K.In s.heap) (hlim : s.heap.NoLimit) (hg : s.heap.Ns mainGlobals mg) (hb : s.heap.Ns builtinsNs mb) (hsg : mg "super" = none) (hsb : mb "super" = some (.type "super"))
    (hx : s.heap.get? x = some (excO C t0)) (hnx : K.lookup x = none) (hroom : A.depth < recursionLimit) (hbind : ∀ fd : FuncData, fd.params = L2.defArgs st → fd.defaults = .none → fd.kwdefaults = .none → fd.scope = L2.defScope st → BindsTo s fd ⟨.ref x :: vals, []⟩ binds)
    (hloc : ∀ y ∈ binds, (L2.defScope st).names.lookup y.1 = some .local) (hm : ∀ y, binds.reverse.lookup y = m y) (hms : m "self" = some (.ref x))
    (hrest : ∀ (cda cc : Addr) (h1 : Heap) (tk : Nat) (t1 : Addr) (E : Value → Shared → Prop) (Q : Flow → Shared → Prop), K.In h1 → h1.get? x = some (excO C t1) → h1.Ns s.heap.objs.size m → (∀ b o, b ≠ x → s.heap.get? b = some o → h1.get? b = some o) → s.heap.objs.size < h1.objs.size →
      (∀ h' tk, R (.ok (.ret .none)) ⟨h', s.gens, s.drawn, tk, s.os⟩ → Q .next ⟨h', s.gens, s.drawn, tk, s.os⟩) →
      wpAny (model prog w) (A.deeper (ksEnv q (L2.defScope st) s.heap.objs.size fI (.ref cda) cc)) (execs rest (ksEnv q (L2.defScope st) s.heap.objs.size fI (.ref cda) cc)) Q E ⟨h1, s.gens, s.drawn, tk, s.os⟩) :
    codeAny (model prog w) A (.call (.ref fI) ⟨.ref x :: vals, []⟩) R s := by
  obtain ⟨oc, ccl, cl, od, an, cdd, cld, doc, pm, ct, osl, ccs, csl, cda, cc, vs, file, tf, fl, fcd, fc, fv, ff, fe⟩ := T.fn
  refine ks_codeAny_call_defAt (fd := ksFn "__init__" q (L2.defArgs st) (L2.defBody st) (L2.defScope st) .none .none doc pm an (.ref cda) ct cc) (body := L2.defBody st) (binds := binds) hroom (X _ _ fl) rfl hlim (codeRec_of X fcd) rfl (hbind _ rfl rfl rfl rfl) IE.hcell hloc (fun h0 hns kp => ?_) IE.hco IE.hgen IE.hk
  have X0 : K.In h0 := X.keeps kp
  have hnm : h0.Ns s.heap.objs.size m := by
    have e : (fun y => binds.reverse.lookup y) = m := funext hm
    rw [← e]; exact hns
  rw [hbody]
  show _root_.PySem.wpAt _ (A.deeper (ksEnv q (L2.defScope st) s.heap.objs.size fI (.ref cda) cc)) _ (execs _ (ksEnv q (L2.defScope st) s.heap.objs.size fI (.ref cda) cc)) _ _ _
  refine ks_wpAt_execs_cons ?_
  refine super_stmt T fl fc fv ff fe X0 (hg.keeps kp) (hb.keeps kp) hsg hsb hnm hms (kp _ _ hx) IE.hk IE.hks IE.hkc IE.hka IE.har (IE.hint _ _ _ _) (IE.hsw _ _ _ _) (IE.he _ _ _ _) (IE.hev _ _ _ _) fun h1 tk SE => ?_
  obtain ⟨t1, hx1⟩ := SE.ob
  have hLx : s.heap.objs.size ≠ x := Nat.ne_of_gt (Heap.lt_size hx)
  have hn1 : h1.Ns s.heap.objs.size m := by
    obtain ⟨o, es, ep, ho, r⟩ := hnm
    exact ⟨o, es, ep, SE.keep _ _ hLx ho, r⟩
  refine wpAt_of_wpAny (hrest cda cc h1 tk t1 _ _ (kIn_but X0 hnx SE.keep) hx1 hn1 (fun b o hb e => SE.keep b o hb (kp b o e)) hn1.lt fun h' tk r => ?_)
  exact r
end

section
variable {prog : Program} {w : World} {A : Around} {E : Value → Shared → Prop} {R : Result → Shared → Prop} {K : Frag} {C D fI : Addr} {q : Str} {st : Stmt} {s : Shared}
theorem err_tail (D : Addr) (X : String) : (errTail D).contains (.type X) = [Value.type "Exception", .type "BaseException", .type "object"].contains (.type X) := by
  show (.ref D :: [Value.type "Exception", .type "BaseException", .type "object"]).contains (Value.type X) = _
  rw [List.contains_cons]
  rfl
/-- one field -/
structure Err1 (prog : Program) (K : Frag) (C D fI : Addr) (q : Str) (st : Stmt) (f : Str) : Prop where
  T : ErrCls prog K C D fI q st
  ini : ∃ txt j p0 p1 p2 p3 p4 p5 q1 q2 q3 q4, IniEnv q st txt j p0 p1 p2 p3 p4 p5 ∧ L2.defBody st = [supS txt j p0 p1 p2 p3 p4 p5, asgF f f q1 q2 q3 q4] ∧
    (∀ L fI cda cc, swapsWith (.Name f q3) (some (.Attribute (.Name "self" q1) f q2)) q4.line (ksEnv q (L2.defScope st) L fI (.ref cda) cc) = pure false)
  bnd : ∀ (fd : FuncData) (u v : Value), fd.params = L2.defArgs st → fd.defaults = .none → fd.kwdefaults = .none → fd.scope = L2.defScope st → bindArgs fd ⟨[u, v], []⟩ = pure [(("self" : Str), u), (f, v)]
  lf : (L2.defScope st).names.lookup f = some .local
  nf : findIn K (.ref C) f = some none
  ne : (f == ("self" : Str)) = false
  nd : (f == ("__debug__" : Str)) = false
/-- two fields -/
structure Err2 (prog : Program) (K : Frag) (C D fI : Addr) (q : Str) (st : Stmt) (f f2 : Str) : Prop where
  T : ErrCls prog K C D fI q st
  ini : ∃ txt j p0 p1 p2 p3 p4 p5 q1 q2 q3 q4 r1 r2 r3 r4, IniEnv q st txt j p0 p1 p2 p3 p4 p5 ∧ L2.defBody st = [supS txt j p0 p1 p2 p3 p4 p5, asgF f f q1 q2 q3 q4, asgF f2 f2 r1 r2 r3 r4] ∧
    (∀ L fI cda cc, swapsWith (.Name f q3) (some (.Attribute (.Name "self" q1) f q2)) q4.line (ksEnv q (L2.defScope st) L fI (.ref cda) cc) = pure false) ∧
    (∀ L fI cda cc, swapsWith (.Name f2 r3) (some (.Attribute (.Name "self" r1) f2 r2)) r4.line (ksEnv q (L2.defScope st) L fI (.ref cda) cc) = pure false)
  bnd : ∀ (fd : FuncData) (u v w : Value), fd.params = L2.defArgs st → fd.defaults = .none → fd.kwdefaults = .none → fd.scope = L2.defScope st → bindArgs fd ⟨[u, v, w], []⟩ = pure [(("self" : Str), u), (f, v), (f2, w)]
  lf : (L2.defScope st).names.lookup f = some .local
  lf2 : (L2.defScope st).names.lookup f2 = some .local
  nf : findIn K (.ref C) f = some none
  nf2 : findIn K (.ref C) f2 = some none
  ne : (("self" : Str) == f) = false
  ne2 : (("self" : Str) == f2) = false
  neq : (f == f2) = false
  nd : (f == ("__debug__" : Str)) = false
  nd2 : (f2 == ("__debug__" : Str)) = false
variable {f f2 : Str}
/-- the class is called: the error is laid, then its __init__ -/
theorem err_call (T : ErrCls prog K C D fI q st) {rest : List Value} (X : K.In s.heap) (hz : rest.length ≤ sizeLine)
    (hq : ∀ h1 : Heap, (∀ b o, s.heap.get? b = some o → h1.get? b = some o) → h1.get? (s.heap.objs.size + 1) = some (excO C s.heap.objs.size) → K.lookup (s.heap.objs.size + 1) = none → h1.objs.size = s.heap.objs.size + 2 →
      codeAny (model prog w) (A.under (.builtin "type.__call__" ⟨.ref C :: rest, []⟩)) (.call (.ref fI) ⟨.ref (s.heap.objs.size + 1) :: rest, []⟩) (InitBack (s.heap.objs.size + 1) R) { s with heap := h1 }) :
    codeAny (model prog w) A (.call (.ref C) ⟨rest, []⟩) R s := by
  obtain ⟨nm, qq, N, bs, sn, sub, ab, col, dd, k0, k1, k2, k3, k5, hC⟩ := T.cls
  obtain ⟨hp, g, dr, tk, os⟩ := s
  have kp : ∀ b o, hp.get? b = some o → ((hp.push (kdv_tup rest)).push (excO C hp.objs.size)).get? b = some o := fun b o e => Heap.get?_push_of_some _ (Heap.get?_push_of_some _ e)
  have ge : ((hp.push (kdv_tup rest)).push (excO C hp.objs.size)).get? (hp.objs.size + 1) = some (excO C hp.objs.size) := by heap_get
  have no : K.lookup (hp.objs.size + 1) = none := by
    cases e : K.lookup (hp.objs.size + 1) with
    | none => rfl
    | some o => exact absurd (Nat.lt_of_succ_lt (Heap.lt_size (show hp.get? (hp.objs.size + 1) = some o from X _ _ e))) (Nat.lt_irrefl _)
  have sz : ((hp.push (kdv_tup rest)).push (excO C hp.objs.size)).objs.size = hp.objs.size + 2 := by rw [Heap.size_push, Heap.size_push]
  exact call_own F.excBase_Exception (err_tail D) (X _ _ hC) (looks_findIn X T.iC) (fun self => bind_fn X self T.tC) hz (hq _ kp ge no sz)
theorem err1_made (T : Err1 prog K C D fI q st f) {v : Value} {mg mb : Str → Option Value} (X : K.In s.heap) (hlim : s.heap.NoLimit) (hg : s.heap.Ns mainGlobals mg) (hb : s.heap.Ns builtinsNs mb) (hsg : mg "super" = none) (hsb : mb "super" = some (.type "super")) (hroom : A.depth + 1 < recursionLimit)
    (hq : ∀ h' tk e d, ErrMade s.heap h' e C d (fun y => if y = f then some v else none) → R (.ok (.ret (.ref e))) { s with heap := h', toks := tk }) : codeAny (model prog w) A (.call (.ref C) ⟨[v], []⟩) R s := by
  obtain ⟨txt, j, p0, p1, p2, p3, p4, p5, q1, q2, q3, q4, IE, hbody, hsw⟩ := T.ini
  refine err_call T.T X (by rw [sizeLine_eq]; show 1 ≤ 16777216; decide) fun h1 kp ge no sz => ?_
  refine err_init (m := fun y => if y = f then some v else if y = "self" then some (.ref (s.heap.objs.size + 1)) else none) T.T IE hbody (X.keeps kp) (hlim.keeps kp) (hg.keeps kp) (hb.keeps kp) hsg hsb ge no (by show A.depth + 1 < recursionLimit; exact hroom)
    (fun fd e1 e2 e3 e4 => .of_eq (T.bnd fd _ _ e1 e2 e3 e4)) (fun y hy => ?_) (fun y => ?_) ?_ fun cda cc h2 tk t1 E Q X2 hx2 hn2 kp2 lt2 back => ?_
  · rcases List.mem_cons.mp hy with rfl | hy
    · exact IE.hka
    · rcases List.mem_cons.mp hy with rfl | hy
      · exact T.lf
      · cases hy
  · show List.lookup y [(f, v), (("self" : Str), Value.ref (s.heap.objs.size + 1))] = _
    simp only [List.lookup]
    by_cases z : y = f
    · subst z; simp
    · have z' : (y == f) = false := by simpa using z
      rw [z', if_neg z]
      by_cases z2 : y = "self"
      · subst z2; simp
      · have z3 : (y == ("self" : Str)) = false := by simpa using z2
        rw [z3, if_neg z2]
  · have z : ¬ (("self" : Str) = f) := fun e => by
      have := T.ne
      rw [← e] at this
      simp at this
    show (if ("self" : Str) = f then some v else if ("self" : Str) = "self" then some (Value.ref (s.heap.objs.size + 1)) else none) = _
    rw [if_neg z, if_pos rfl]
  · refine wpAny_execs_cons (asg_new T.T (L := 0) X2 hx2 hn2 ?_ (v := v) ?_ IE.hk IE.hka T.lf T.nd T.nf (hsw _ _ _ _) fun h3 tk3 dx kp3 dn dne hx3 hns3 => ?_)
    · have z : ¬ (("self" : Str) = f) := fun e => by
        have := T.ne
        rw [← e] at this
        simp at this
      show (if ("self" : Str) = f then some v else if ("self" : Str) = "self" then some (Value.ref (s.heap.objs.size + 1)) else none) = _
      rw [if_neg z, if_pos rfl]
    · show (if f = f then some v else _) = _
      rw [if_pos rfl]
    · refine wpAny_execs_nil (back h3 tk3 ⟨rfl, hq h3 tk3 (s.heap.objs.size + 1) dx ⟨fun b o e => ?_, Nat.le_succ _, ⟨_, _, hx3, rfl, rfl, rfl, rfl⟩, ?_, dne, hns3⟩⟩)
      · have hb : b ≠ s.heap.objs.size + 1 := Nat.ne_of_lt (Nat.lt_succ_of_lt (Heap.lt_size e))
        exact kp3 b o hb (kp2 b o hb (kp b o e))
      · have : s.heap.objs.size + 2 < h2.objs.size := by rw [← sz]; exact lt2
        omega
theorem err2_made (T : Err2 prog K C D fI q st f f2) {v v2 : Value} {mg mb : Str → Option Value} (X : K.In s.heap) (hlim : s.heap.NoLimit) (hg : s.heap.Ns mainGlobals mg) (hb : s.heap.Ns builtinsNs mb) (hsg : mg "super" = none) (hsb : mb "super" = some (.type "super")) (hroom : A.depth + 1 < recursionLimit)
    (hq : ∀ h' tk e d, ErrMade s.heap h' e C d (fun y => if y = f2 then some v2 else if y = f then some v else none) → R (.ok (.ret (.ref e))) { s with heap := h', toks := tk }) : codeAny (model prog w) A (.call (.ref C) ⟨[v, v2], []⟩) R s := by
  obtain ⟨txt, j, p0, p1, p2, p3, p4, p5, q1, q2, q3, q4, r1, r2, r3, r4, IE, hbody, hsw, hsw2⟩ := T.ini
  have n1 : ¬ (("self" : Str) = f) := fun e => by have z := T.ne; rw [← e] at z; simp at z
  have n2 : ¬ (("self" : Str) = f2) := fun e => by have z := T.ne2; rw [← e] at z; simp at z
  have n3 : ¬ (f = f2) := fun e => by have z := T.neq; rw [← e] at z; simp at z
  refine err_call T.T X (by rw [sizeLine_eq]; show 2 ≤ 16777216; decide) fun h1 kp ge no sz => ?_
  refine err_init (m := fun y => if y = f2 then some v2 else if y = f then some v else if y = "self" then some (.ref (s.heap.objs.size + 1)) else none) T.T IE hbody (X.keeps kp) (hlim.keeps kp) (hg.keeps kp) (hb.keeps kp) hsg hsb ge no (by show A.depth + 1 < recursionLimit; exact hroom)
    (fun fd e1 e2 e3 e4 => .of_eq (T.bnd fd _ _ _ e1 e2 e3 e4)) (fun y hy => ?_) (fun y => ?_) ?_ fun cda cc h2 tk t1 E Q X2 hx2 hn2 kp2 lt2 back => ?_
  · rcases List.mem_cons.mp hy with rfl | hy
    · exact IE.hka
    · rcases List.mem_cons.mp hy with rfl | hy
      · exact T.lf
      · rcases List.mem_cons.mp hy with rfl | hy
        · exact T.lf2
        · cases hy
  · show List.lookup y [(f2, v2), (f, v), (("self" : Str), Value.ref (s.heap.objs.size + 1))] = _
    simp only [List.lookup]
    by_cases z0 : y = f2
    · subst z0; simp
    · have z0' : (y == f2) = false := by simpa using z0
      rw [z0', if_neg z0]
      by_cases z : y = f
      · subst z; simp
      · have z' : (y == f) = false := by simpa using z
        rw [z', if_neg z]
        by_cases z2 : y = "self"
        · subst z2; simp
        · have z3 : (y == ("self" : Str)) = false := by simpa using z2
          rw [z3, if_neg z2]
  · show (if ("self" : Str) = f2 then some v2 else if ("self" : Str) = f then some v else if ("self" : Str) = "self" then some (Value.ref (s.heap.objs.size + 1)) else none) = _
    rw [if_neg n2, if_neg n1, if_pos rfl]
  · refine wpAny_execs_cons (asg_new T.T (L := 0) X2 hx2 hn2 ?_ (v := v) ?_ IE.hk IE.hka T.lf T.nd T.nf (hsw _ _ _ _) fun h3 tk3 dx kp3 dn dne hx3 hns3 => ?_)
    · show (if ("self" : Str) = f2 then some v2 else if ("self" : Str) = f then some v else if ("self" : Str) = "self" then some (Value.ref (s.heap.objs.size + 1)) else none) = _
      rw [if_neg n2, if_neg n1, if_pos rfl]
    · show (if f = f2 then some v2 else if f = f then some v else _) = _
      rw [if_neg n3, if_pos rfl]
    · have hLx : s.heap.objs.size ≠ s.heap.objs.size + 1 := by omega
      have X3 : K.In h3 := kIn_but X2 no kp3
      have hn3 := hn2
      obtain ⟨oL, es, ep, hoL, rL⟩ := hn2
      refine wpAny_execs_cons (asg_old T.T (L := 0) X3 hx3 hns3 (nl := [f]) (Within.cons f v Within.nil) (by show 1 ≤ 1000; decide) ⟨oL, es, ep, kp3 _ _ ?_ hoL, rL⟩ ?_ (v := v2) ?_ IE.hk IE.hka T.lf2 T.nd2 T.nf2 (hsw2 _ _ _ _) fun h4 tk4 kp4 hns4 => ?_)
      · show h1.objs.size ≠ s.heap.objs.size + 1
        rw [sz]
        exact fun z => absurd z (by simp)
      · show (if ("self" : Str) = f2 then some v2 else if ("self" : Str) = f then some v else if ("self" : Str) = "self" then some (Value.ref (s.heap.objs.size + 1)) else none) = _
        rw [if_neg n2, if_neg n1, if_pos rfl]
      · show (if f2 = f2 then some v2 else _) = _
        rw [if_pos rfl]
      · have big : s.heap.objs.size + 2 < h2.objs.size := by rw [← sz]; exact lt2
        have dn2 : h2.objs.size ≤ dx := dn
        refine wpAny_execs_nil (back h4 tk4 ⟨rfl, hq h4 tk4 (s.heap.objs.size + 1) dx ⟨fun b o e => ?_, Nat.le_succ _, ⟨_, _, kp4 _ _ dne.symm hx3, rfl, rfl, rfl, rfl⟩, ?_, dne, hns4⟩⟩)
        · have lb : b < s.heap.objs.size := Heap.lt_size e
          have hb1 : b ≠ s.heap.objs.size + 1 := Nat.ne_of_lt (Nat.lt_succ_of_lt lb)
          have hb2 : b ≠ dx := Nat.ne_of_lt (Nat.lt_of_lt_of_le (Nat.lt_trans (Nat.lt_add_right 2 lb) big) dn2)
          exact kp4 b o hb2 (kp3 b o hb1 (kp2 b o hb1 (kp b o e)))
        · exact Nat.le_trans (Nat.le_trans (Nat.le_add_right _ 2) (Nat.le_of_lt big)) dn2
end
end Py
end
section
set_option Elab.async false
set_option linter.all false
set_option maxRecDepth 100000
set_option maxHeartbeats 400000
/-! raise, try .. except X as n, n.field: over pure data. -/
namespace Py
open PySem PySem.Spec PyProof.Rows L2

/-! ### raise X(e), X(e, e') -/
/-- fields by name, values as data -/
theorem relO_fs {vs : List V} {us : List Value} : ∀ (ns : List Str), ns.length = vs.length → Vals vs us → ∀ f, RelO (List.lookup f (ns.zip vs)) (List.lookup f (ns.zip us)) := by
  induction vs generalizing us with
  | nil =>
    intro ns h r f
    cases r
    cases ns with
    | nil => exact trivial
    | cons n ns => cases h
  | cons v vs ih =>
    intro ns h r f
    cases r with
    | cons r1 r2 =>
      cases ns with
      | nil => cases h
      | cons n ns =>
        show RelO (List.lookup f ((n, v) :: ns.zip vs)) (List.lookup f ((n, _) :: ns.zip _))
        simp only [List.lookup]
        by_cases z : f = n
        · subst z
          simp only [beq_self_eq_true]
          exact r1
        · have z' : (f == n) = false := by simpa using z
          simp only [z']
          exact ih ns (Nat.succ.inj h) r2 f
/-- what stands behind a made error: the exception and its own dict -/
theorem made_inv {X : Cx} {pins : List (Addr × Obj)} {σ : L2.St} {H1 : Hp} {hp h' : Heap} {g : Array GenState} {dr : Drawn} {tk tk' : Nat} {os : OsState} {C e d : Addr} {m : Str → Option Value} {fs : List (Str × V)} {Q : XK} (I1 : Inv X pins σ H1 ⟨hp, g, dr, tk, os⟩)
    (M : ErrMade hp h' e C d m) (rel : ∀ f, RelO (fs.lookup f) (m f)) (hr : Raises X (.ref C)) (q : ∀ d, H1 d = none → Q (.ref C) (some d) (upd H1 d (.xd fs))) : MkP X pins σ Q (.ref e) ⟨h', g, dr, tk', os⟩ := by
  obtain ⟨oe, fv, hoe, hc, hd, hdat, h1⟩ := M.obj
  obtain ⟨G', g1, g2⟩ := restrict h' fun b => decide (b ≠ e)
  have gk : ∀ b, b ≠ e → G'.get? b = h'.get? b := fun b hb => g1 b (decide_eq_true hb)
  have ge : G'.get? e = none := g2 e (by simp)
  have old : ∀ b o, hp.get? b = some o → G'.get? b = some o := fun b o z => by
    rw [gk b (Nat.ne_of_lt (Nat.lt_of_lt_of_le (Heap.lt_size z) M.new))]
    exact M.keep b o z
  have ob : ObjOk X.prog X.w (upd H1 d (.xd fs)) G' d (.xd fs) := ⟨m, M.ns.at (fun o z => by rw [gk d M.dne]; exact z), rel⟩
  have J : Inv X pins σ (upd H1 d (.xd fs)) ⟨G', g, dr, tk', os⟩ := I1.laid (t' := tk') old M.dbig ob
  refine ⟨e, oe, fv, ⟨G', g, dr, tk', os⟩, _, .ref C, some d, rfl, J, fun b o z => ?_, ge, hoe, ⟨hc, hd⟩, hdat, h1, ?_, rfl, I1.bare, hr, q d (I1.hok.fresh M.dbig)⟩
  · by_cases hb : b = e
    · have z' : G'.get? b = some o := z
      rw [hb, ge] at z'; cases z'
    · rw [← gk b hb]; exact z
  · rw [upd_ne (Ne.symm M.dne)]
    exact I1.hok.fresh M.new
/-- what a raise wants of an error's class: its name, its facts -/
structure ErrN1 (prog : Program) (K : PySem.W.Frag) (mg : Str → Option Value) (x : Str) (C : Addr) (f : Str) : Prop where
  gC : mg x = some (.ref C)
  er : ∃ D fI q st, Err1 prog K C D fI q st f
  sg : mg "super" = none
structure ErrN2 (prog : Program) (K : PySem.W.Frag) (mg : Str → Option Value) (x : Str) (C : Addr) (f f2 : Str) : Prop where
  gC : mg x = some (.ref C)
  er : ∃ D fI q st, Err2 prog K C D fI q st f f2
  sg : mg "super" = none
@[simp] def pRaise (C : Addr) (ns : List Str) (p : PAx) : PSm := fun P sl S => dats p sl S (fun ds S1 => ds.length = ns.length ∧ P.ex ⟨C, ns, ds⟩ sl S1) (fun x S1 => P.ex x sl S1)
def tMkE (C : Addr) (ns : List Str) (ta : TA) : L2.St → Hp → XK → Prop := fun σ H Q => ta σ H fun vs H1 => ns.length = vs.length ∧ ∀ d, H1 d = none → Q (.ref C) (some d) (upd H1 d (.xd (ns.zip vs)))
theorem rd_raise {K : PySem.W.Frag} {W : WX} {C : Addr} {ns : List Str} {p : PAx} (D : Ends) (σ : L2.St) (H : Hp) (h : rdS K W (pRaise C ns p) D σ H) : tMkE C ns (rdA K W p) σ H fun cls d H' => W cls d σ H' := by
  obtain ⟨g, F, sl, S, P, rel, hp, lk⟩ := h
  refine rdA_dats rel hp (lk.exc sl σ) fun ds S1 vs H1 F1 s1 rel1 rl ⟨hl, h1⟩ => ⟨by rw [rl.length, hl], fun d hd => ?_⟩
  have hf := rel1.cor.free hd
  exact lk.ex ⟨C, ns, ds⟩ sl S1 (some d) σ _ _ (s1.f.trans (Same.upd_new hf)) (rel1.allocF hd) ⟨d, vs, rfl, upd_same, by rw [rl.length]; exact hl.symm, rl.mono (Same.upd_new hf)⟩ h1
section
variable {X : Cx} {W : WX} {x : Str} {C : Addr} {f f2 : Str} {a b : Expr} {ta : TA} {p : PAx} {k : Nat} {pn pos pos2 : Pos}
theorem two_super {mb : Str → Option Value} (h : ∀ x : Str, x ≠ "__name__" → mb x = bootBuiltins x) : mb "super" = some (.type "super") := (h "super" (by decide)).trans (by decide +kernel)
theorem look1 {f g' : Str} {u : Value} : List.lookup g' ([f].zip [u]) = if g' = f then some u else none := by
  show List.lookup g' [(f, u)] = _
  simp only [List.lookup]
  by_cases z : g' = f
  · subst z; simp
  · have z' : (g' == f) = false := by simpa using z
    rw [z', if_neg z]
theorem look2 {f f2 g' : Str} {u u2 : Value} (nq : f ≠ f2) : List.lookup g' ([f, f2].zip [u, u2]) = if g' = f2 then some u2 else if g' = f then some u else none := by
  show List.lookup g' [(f, u), (f2, u2)] = _
  simp only [List.lookup]
  by_cases z : g' = f
  · subst z
    rw [if_neg nq, if_pos rfl]
    simp
  · have z' : (g' == f) = false := by simpa using z
    rw [z']
    by_cases z2 : g' = f2
    · subst z2; simp
    · have z3 : (g' == f2) = false := by simpa using z2
      rw [z3, if_neg z2, if_neg z]
/-- the call of the class, in a def -/
theorem run_e1 {pins : List (Addr × Obj)} {σ : L2.St} {H1 : Hp} {s1 : Shared} {Q : XK} {v : V} {u : Value} {D fI : Addr} {q : Str} {st : Stmt} (T : Err1 X.prog X.K C D fI q st f) (sg : X.mg "super" = none) (hr : Room k X.A) (I1 : Inv X pins σ H1 s1) (r : RelV v u)
    (q1 : ∀ d, H1 d = none → Q (.ref C) (some d) (upd H1 d (.xd ([f].zip [v])))) : wpAny (model X.prog X.w) X.A (call (.ref C) [u]) (MkP X pins σ Q) X.xe s1 := by
  have hlim := I1.nolimit
  obtain ⟨mb, hb1, hb2⟩ := I1.mod.blt
  have hg1 := I1.mod.glob.keeps I1.bk
  have hbk := hb1.keeps I1.bk
  have kin := I1.kIn
  have hd : X.A.depth + 1 < recursionLimit := by have := hr.dp; omega
  refine wpAny_call (err1_made (v := u) T kin hlim hg1 hbk sg (two_super hb2) hd fun h' tk' e d M => ?_)
  obtain ⟨hp, gg, dr, tk, os⟩ := s1
  refine made_inv I1 M (fs := [f].zip [v]) (fun g' => ?_) (raises_own T.T.exC T.T.tyC) q1
  have := relO_fs [f] rfl (.cons r .nil) g'
  rw [look1] at this
  exact this
theorem run_e2 {pins : List (Addr × Obj)} {σ : L2.St} {H1 : Hp} {s1 : Shared} {Q : XK} {v v2 : V} {u u2 : Value} {D fI : Addr} {q : Str} {st : Stmt} (T : Err2 X.prog X.K C D fI q st f f2) (sg : X.mg "super" = none) (hr : Room k X.A) (I1 : Inv X pins σ H1 s1) (r : RelV v u) (r2 : RelV v2 u2)
    (q1 : ∀ d, H1 d = none → Q (.ref C) (some d) (upd H1 d (.xd ([f, f2].zip [v, v2])))) : wpAny (model X.prog X.w) X.A (call (.ref C) [u, u2]) (MkP X pins σ Q) X.xe s1 := by
  have hlim := I1.nolimit
  obtain ⟨mb, hb1, hb2⟩ := I1.mod.blt
  have hg1 := I1.mod.glob.keeps I1.bk
  have hbk := hb1.keeps I1.bk
  have kin := I1.kIn
  have hd : X.A.depth + 1 < recursionLimit := by have := hr.dp; omega
  have nq : f ≠ f2 := fun z => by
    have y := T.neq
    rw [z] at y
    simp at y
  refine wpAny_call (err2_made (v := u) (v2 := u2) T kin hlim hg1 hbk sg (two_super hb2) hd fun h' tk' e d M => ?_)
  obtain ⟨hp, gg, dr, tk, os⟩ := s1
  refine made_inv I1 M (fs := [f, f2].zip [v, v2]) (fun g' => ?_) (raises_own T.T.exC T.T.tyC) q1
  have := relO_fs [f, f2] rfl (.cons r (.cons r2 .nil)) g'
  rw [look2 nq] at this
  exact this
theorem pmk_e1 (N : ErrN1 X.prog X.K X.mg x C f) (hr : Room k X.A) (ha : PA X [a] ta) (hg : Gl X x := by rfl) (hdb : (x == ("__debug__" : Str)) = false := by decide) (he : starEach (a :: []) X.env = (false, eval a X.env) :: starEach [] X.env := by rfl) (hpl : (backTo pos (starEach [] X.env)).any (·.1) = false := by rfl) :
    PMk X (.Call (.Name x pn) [a] [] pos) (tMkE C [f] ta) := by
  obtain ⟨gC, ⟨D, fI, q, st, T⟩, sg⟩ := N
  intro pins s σ H Q I h
  refine wpAny_Call_Name_kw (ld_glob I hg gC ?_ hdb)
  refine PySem.W.callWith_K (h₀ := X.base) I.ok.mod.kin T.T.kC (thn (ha.run pos pins s σ H _ I h) fun us s1 hh => ?_) he hpl
  obtain ⟨vs, H1, I1, r1, hl, q1⟩ := hh
  refine ⟨I1.kIn, ?_⟩
  cases r1 with
  | nil => cases hl
  | cons r rr =>
    cases rr with
    | nil => exact run_e1 T sg hr I1 r q1
    | cons _ _ => simp at hl
theorem ss_raise1 (N : ErrN1 X.prog X.K X.mg x C f) (hc : X.calm = true) (hr : Room k X.A) (tk : Takes X W) (ha : SA X W [a] p) (hg : Gl X x := by rfl) (hdb : (x == ("__debug__" : Str)) = false := by decide) (he : starEach (a :: []) X.env = (false, eval a X.env) :: starEach [] X.env := by rfl) (hpl : (backTo pos (starEach [] X.env)).any (·.1) = false := by rfl) :
    SS X W (.Raise (some (.Call (.Name x pn) [a] [] pos)) none pos2) (pRaise C [f] p) := ⟨PS.imp (ps_raise hc tk (pmk_e1 N hr ha.pa hg hdb he hpl)) rd_raise⟩
theorem pmk_e2 (N : ErrN2 X.prog X.K X.mg x C f f2) (hr : Room k X.A) (ha : PA X [a, b] ta) (hg : Gl X x := by rfl) (hdb : (x == ("__debug__" : Str)) = false := by decide) (he : starEach (a :: [b]) X.env = (false, eval a X.env) :: starEach [b] X.env := by rfl) (hpl : (backTo pos (starEach [b] X.env)).any (·.1) = false := by rfl) :
    PMk X (.Call (.Name x pn) [a, b] [] pos) (tMkE C [f, f2] ta) := by
  obtain ⟨gC, ⟨D, fI, q, st, T⟩, sg⟩ := N
  intro pins s σ H Q I h
  refine wpAny_Call_Name_kw (ld_glob I hg gC ?_ hdb)
  refine PySem.W.callWith_K (h₀ := X.base) I.ok.mod.kin T.T.kC (thn (ha.run pos pins s σ H _ I h) fun us s1 hh => ?_) he hpl
  obtain ⟨vs, H1, I1, r1, hl, q1⟩ := hh
  refine ⟨I1.kIn, ?_⟩
  cases r1 with
  | nil => cases hl
  | cons r rr =>
    cases rr with
    | nil => simp at hl
    | cons r2 rr =>
      cases rr with
      | nil => exact run_e2 T sg hr I1 r r2 q1
      | cons _ _ => simp at hl
theorem ss_raise2 (N : ErrN2 X.prog X.K X.mg x C f f2) (hc : X.calm = true) (hr : Room k X.A) (tk : Takes X W) (ha : SA X W [a, b] p) (hg : Gl X x := by rfl) (hdb : (x == ("__debug__" : Str)) = false := by decide) (he : starEach (a :: [b]) X.env = (false, eval a X.env) :: starEach [b] X.env := by rfl) (hpl : (backTo pos (starEach [b] X.env)).any (·.1) = false := by rfl) :
    SS X W (.Raise (some (.Call (.Name x pn) [a, b] [] pos)) none pos2) (pRaise C [f, f2] p) := ⟨PS.imp (ps_raise hc tk (pmk_e2 N hr ha.pa hg hdb he hpl)) rd_raise⟩
end

/-! ### try .. except X as n -/
def pTry (i : Nat) (C : Addr) (body : PSm) (suite : Addr → Option Addr → PSm) : PSm := fun P sl S => body { P with ex := (fun x sl1 S1 => x.C = C ∧ i < sl1.length ∧ ∀ a d, suite a d { nx := fun sl2 S2 => P.nx (sl2.set i .un) S2, rt := P.rt, bk := fun sl2 S2 => P.bk (sl2.set i .un) S2, ct := fun sl2 S2 => P.ct (sl2.set i .un) S2, ex := fun _ _ _ => False } (sl1.set i (.exc a d x)) S1) } sl S
theorem Rel.exc {K : PySem.W.Frag} {g : G} {F H : Hp} {sl : List Slot} {S : List Int} {σ : L2.St} (r : Rel K g F sl S σ H) {i : Nat} {a : Addr} {d : Option Addr} {x : PX} (hi : i < sl.length) (ex : ExR K F x d) : Rel K g F (sl.set i (.exc a d x)) S (σ.set i (some (.ref a))) H := by
  have hs : i < σ.length := by rw [← r.len]; exact hi
  refine ⟨r.cor, by simpa using r.len, fun j s hj => ?_, fun j k dj dk p hjk h4 h5 h6 h7 => ?_⟩
  · by_cases hij : i = j
    · subst hij
      rw [List.getElem?_set_self hi] at hj
      rw [List.getElem?_set_self hs]
      cases hj
      exact ⟨rfl, ex⟩
    · rw [List.getElem?_set_ne hij] at hj
      rw [List.getElem?_set_ne hij]
      exact r.ok j s hj
  · have base : ∀ (m : Nat) (dm : List D), (sl.set i (Slot.exc a d x))[m]? = some (Slot.own dm) → i ≠ m ∧ sl[m]? = some (Slot.own dm) := fun m dm hm => by
      by_cases z : i = m
      · subst z
        rw [List.getElem?_set_self hi] at hm; cases hm
      · rw [List.getElem?_set_ne z] at hm; exact ⟨z, hm⟩
    obtain ⟨n1, z1⟩ := base j dj h4
    obtain ⟨n2, z2⟩ := base k dk h5
    rw [List.getElem?_set_ne n1] at h6
    rw [List.getElem?_set_ne n2] at h7
    exact r.sep j k dj dk p hjk z1 z2 h6 h7
section
variable {X : Cx} {W : WX} {x n : Str} {C : Addr} {i : Nat} {body suite : List Stmt} {b₀ : Stmt} {np pos pos' : Pos} {pb : PSm} {pc : Addr → Option Addr → PSm}
theorem ss_try (i : Nat) (hs : X.stack = X.env :: X.outer) (hf : X.env.frame = some X.env.locals) (hN : X.N.Nodup) (gC : X.mg x = some (.ref C)) (te : PySem.W.exmOne X.K (.ref C) (.ref C) = some true) (tk : Takes X W)
    (hb : ∀ (W : WX) (pn : List (Addr × Obj)) (xe : Value → Shared → Prop), Takes (X.tr pn xe) W → PassesOwn (model X.prog X.w) X.A X.env xe → SB (X.tr pn xe) W body pb)
    (hsu : ∀ (a : Addr) (oe : Obj) (d : Option Addr) (pn : List (Addr × Obj)), Zc (.ref C) d oe → (∃ vs, oe.data = .fields vs) → SB (X.suite a ((a, oe) :: pn)) W0 (b₀ :: suite) (pc a d))
    (hi : X.N[i]? = some n := by rfl) (hln : X.env.kindOf n = some .local := by rfl) (hg : Gl X x := by rfl) (hdb : (x == ("__debug__" : Str)) = false := by decide) :
    SS X W (.Try body [.ExceptHandler (some (.Name x np)) (some n) (b₀ :: suite) pos'] [] [] pos) (pTry i C pb pc) :=
  ⟨PS.imp (ps_try_as (tb := fun W => rdS X.K W pb) (ts := fun a cls d D σ H => cls = .ref C ∧ rdS X.K W0 (pc a d) D σ H) hs hf hN hi hln ⟨hg, hdb, .inl gC⟩ tk (fun W pn xe t p => (hb W pn xe t p).ps)
      (fun a oe cls d pn hz hf => ⟨fun pins s σ H D I ⟨e, q⟩ => by subst e; exact (hsu a oe d pn hz hf).ps.run pins s σ H D I q⟩)) fun D σ H h => by
    obtain ⟨g, F, sl, S, P, rel, hp, lk⟩ := h
    refine ⟨g, F, sl, S, _, rel, hp, ⟨lk.nx, lk.rt, lk.bk, lk.ct, fun x sl1 S1 d σ1 H1 F1 s1 rel1 er ⟨hC, hl, hq⟩ => ?_⟩⟩
    subst hC
    refine ⟨true, te, fun _ a ha => ⟨rfl, g, F1, _, S1, _, rel1.exc hl er, hq a d, ?_⟩, fun z => by cases z⟩
    exact ⟨fun sl2 S2 σ2 H2 F2 s2 rel2 h2 => lk.nx _ S2 _ H2 F2 (s1.trans s2) (rel2.wipe1 i) h2, fun r S2 v H2 F2 s2 => lk.rt r S2 v H2 F2 (s1.trans s2), fun sl2 S2 σ2 H2 F2 s2 rel2 h2 => lk.bk _ S2 _ H2 F2 (s1.trans s2) (rel2.wipe1 i) h2, fun sl2 S2 σ2 H2 F2 s2 rel2 h2 => lk.ct _ S2 _ H2 F2 (s1.trans s2) (rel2.wipe1 i) h2, fun _ _ _ _ _ _ _ _ _ _ z => z.elim⟩⟩
end
/-! n.f of the caught error n -/
def pExF (i : Nat) (a : Addr) (d : Option Addr) (f : Str) : PEx := fun sl S Q _ => match sl[i]? with
  | some (.exc a' d' x) => a' = a ∧ d' = d ∧ match (x.ns.zip x.ds).lookup f with
    | some v => Q (.dat v) S
    | none => False
  | _ => False
theorem lookup_zip {K : PySem.W.Frag} {F : Hp} {f : Str} {d : D} : ∀ {ns : List Str} {vs : List V} {ds : List D}, RpL K F vs ds → (ns.zip ds).lookup f = some d → ∃ v, (ns.zip vs).lookup f = some v ∧ Rp K F v d
  | [], _, _, _, e => by cases e
  | n :: ns, _, _, .nil, e => by cases e
  | n :: ns, v :: vs, x :: ds, .cons h r, e => by
    simp only [List.zip_cons_cons, List.lookup] at e ⊢
    cases z : (f == n) with
    | true =>
      rw [z] at e
      cases e
      exact ⟨v, rfl, h⟩
    | false =>
      rw [z] at e
      exact lookup_zip r e
theorem se_exf {X : Cx} {a C : Addr} {oe : Obj} {d : Option Addr} {pn : List (Addr × Obj)} {D fI : Addr} {q : Str} {st : Stmt} {f x : Str} {px pos : Pos} {W : WX} (i : Nat) (T : ErrCls X.prog X.K C D fI q st) (nf : PySem.W.findIn X.K (.ref C) f = some none) (hz : Zc (.ref C) d oe) (hf : ∃ vs, oe.data = .fields vs)
    (hN : X.N[i]? = some x := by rfl) (hv : Vis X.env.scope x := by first | exact Or.inl rfl | exact Or.inr (Or.inl rfl) | exact Or.inr (Or.inr rfl)) (hd : (x == ("__debug__" : Str)) = false := by decide) (hcd : (x == ("__classdict__" : Str)) = false := by decide)
    (hb : attributeBase (.Name x px) f X.env (eval (.Name x px) X.env) = eval (.Name x px) X.env := by rfl) : SE (X.suite a ((a, oe) :: pn)) W (.Attribute (.Name x px) f pos) (pExF i a d f) := ⟨by
  refine ⟨fun pins s σ H Q I h => ?_⟩
  obtain ⟨g, F, sl, S, Q', E', rel, hp, post, exc⟩ := h
  unfold pExF at hp
  split at hp
  · rename_i a' d' y e
    obtain ⟨rfl, rfl, hp⟩ := hp
    have so := rel.ok i _ e
    obtain ⟨e1, ex⟩ := so
    have e2 : σ[i]? = some (some (V.ref a')) := by
      cases z : σ[i]? with
      | none => rw [z] at e1; cases e1
      | some o => rw [z] at e1; exact congrArg some e1
    cases e3 : (y.ns.zip y.ds).lookup f with
    | none => rw [e3] at hp; exact hp.elim
    | some v =>
      rw [e3] at hp
      obtain ⟨dd, vs, rfl, ea, hl, rl⟩ := ex
      obtain ⟨w, hw, rw'⟩ := lookup_zip rl e3
      have ev : PE (X.suite a' ((a', oe) :: pn)) (.Name x px) (tVar i) := pe_var (X := X.suite a' ((a', oe) :: pn)) hN hv hd hcd
      refine attr_of hb (thn (ev.run pins s σ H (fun z H1 => z = V.ref a' ∧ H1 = H) I ⟨_, e2, rfl, rfl⟩) fun u s1 hh => ?_)
      obtain ⟨z, H1, I1, rz, rfl, rfl⟩ := hh
      obtain rfl : u = Value.ref a' := rz
      obtain ⟨ha, _⟩ := I1.pin (a', oe) (List.mem_append_left _ List.mem_cons_self)
      obtain ⟨vv, hdd⟩ := hf
      obtain ⟨mA, hns, hr⟩ := (show ObjOk X.prog X.w H1 s1.heap dd (.xd (y.ns.zip vs)) from I1.hok dd _ (rel.cor.fh _ _ ea))
      obtain ⟨od, ho, hl2⟩ := lookIn_ns hns
      obtain ⟨u, hu, ru⟩ := RelO.some_of (v := w) (o := mA f) (by rw [← hw]; exact hr f)
      have J : PySem.W.InstAt s1.heap a' oe C (some od) := ⟨ha, hz.1, by unfold PySem.W.notCls; rw [hdd] <;> rfl, by rw [hz.2]; exact ho⟩
      exact PySem.HandSPX.exc_get I1.kIn J T.ga T.gg T.exC (PySem.W.findObj_own T.hdC nf rfl (by rw [hl2, hu])) (handed_of ru) ⟨w, H1, I1.tok _, ru, post (.dat v) S w H1 F Stp.refl rel rw' trivial hp⟩
  · exact hp.elim⟩
end Py
end
section
set_option Elab.async false
set_option linter.all false
set_option maxRecDepth 100000
set_option maxHeartbeats 400000
/-! The draws, a def without arguments, return of a name, globals; the law. -/
namespace Py
open PySem PySem.Spec PyProof.Rows L2

/-- return x: an own list goes out as a new one -/
@[simp] def pRetN (i : Nat) : PSm := fun P sl S => match sl[i]? with
  | some (.own ds) => P.rt (.own ds) S
  | some (.dat d) => P.rt (.dat d) S
  | _ => False
/-- a module's whole number -/
def GlobI (mg : Str → Option Value) (x : Str) (i : Int) : Prop := ∃ t, mg x = some (.int i t)
section
variable {X : Cx} {W : WX} {x : Str} {e : Expr} {rest : List Stmt} {p : PEx} {q : PSm} {pos px : Pos}
theorem ss_retN (i : Nat) (hN : X.N[i]? = some x := by rfl) (hv : Vis X.env.scope x := by first | exact Or.inl rfl | exact Or.inr (Or.inl rfl) | exact Or.inr (Or.inr rfl)) (hd : (x == ("__debug__" : Str)) = false := by decide)
    (hcd : (x == ("__classdict__" : Str)) = false := by decide) : SS X W (.Return (some (.Name x px)) pos) (pRetN i) := ⟨PS.imp (ps_ret (pe_var hN hv hd hcd)) fun D σ H h => by
  obtain ⟨g, F, sl, S, P, rel, hp, lk⟩ := h
  unfold pRetN at hp
  split at hp
  · rename_i ds e
    obtain ⟨a, vs, h1, h2, h3, h4, rl⟩ := rel.own e
    exact ⟨_, h1, lk.rt (.own ds) S _ H F (Same.refl _) rel.cor ⟨a, vs, rfl, h2, h3, h4, rl⟩ hp⟩
  · rename_i d e
    obtain ⟨v, h1, h2⟩ := rel.dat e
    exact ⟨_, h1, lk.rt (.dat d) S _ H F (Same.refl _) rel.cor h2 hp⟩
  · exact hp.elim⟩
theorem se_globI {i : Int} (h : GlobI X.mg x i) (hg : Gl X x := by rfl) (hd : (x == ("__debug__" : Str)) = false := by decide) : SE X W (.Name x pos) (pC (.int i)) := by
  obtain ⟨t, h⟩ := h
  exact se_glob h hg hd
/-! f() -/
theorem pe_callS0 {CX : CXT} {k : Nat} {f : Addr} {fd : FuncData} {ps : List Str} {sp : Sp} {E : L2.St → XK} {p : Pos} (F : FnOk X.prog X.w X.K X.mg X.base CX k f fd ps sp) (hr : Room k X.A) (hg : Gl X x) (hm : X.mg x = some (.ref f)) (hk : PySem.W.keepIn X.K (.ref f) = true) (hb : Binds X.K fd ps []) (hx : ∀ σ, PassesAt CX X σ (E σ))
    (hdb : (x == ("__debug__" : Str)) = false := by decide) : PE X (.Call (.Name x p) [] [] pos) (fun σ H Q => sp [] H Q (E σ)) := by
  constructor
  intro pins s σ H Q I h
  apply wpAny_Call_Name_kw (ld_glob I hg hm ?_ hdb)
  exact PySem.W.callWith_K0 I.kIn hk (run_fnS (us := []) F hr hb (hx σ) I .nil h)
@[simp] def pCall0 (spec : PSpec) : PEx := fun _ S Q E => spec [] S Q E
theorem se_call0 {k : Nat} {spec : PSpec} {p : Pos} (c : Cal X.prog X.w X.K X.mg X.base k x spec) (hr : Room k X.A) (tk : Takes X W) (hg : Gl X x := by rfl) (hdb : (x == ("__debug__" : Str)) = false := by decide) : SE X W (.Call (.Name x p) [] [] pos) (pCall0 spec) := by
  obtain ⟨f, fd, ps, F, hm, hk, hb⟩ := c.ex
  refine ⟨PE.imp (pe_callS0 F hr hg hm hk hb (fun σ => passAt tk σ) hdb) fun σ H Q h => ?_⟩
  have : tCallS (spOf X.K spec) (WE W) (rdA X.K W pNil) σ H Q := rd_call σ H Q (by
    obtain ⟨g, F, sl, S, Q', E', rel, hp, r⟩ := h
    exact ⟨g, F, sl, S, Q', E', rel, hp, r⟩)
  obtain ⟨g, F, sl, S, Q', E', rel, hp, post, exc⟩ := this
  exact post [] S [] H F Stp.refl rel .nil hp
/-! the draws come: x = e, an own list of ints, from here on the draws -/
def pStrm (i : Nat) (p : PEx) (q : PSm) : PSm := fun P sl S => (∀ s ∈ sl, s = .un ∨ ∃ d, s = .dat d) ∧ i < sl.length ∧
  p sl S (fun r S1 => ∃ ns : List Int, r = .own (ns.map D.int) ∧ q { nx := fun _ _ => False, rt := fun r _ => match r with | .dat d => P.rt (.dat d) S1 | .own ds => P.rt (.own ds) S1 | .drw => False, bk := fun _ _ => False, ct := fun _ _ => False, ex := fun _ _ _ => False } (sl.set i .drw) ns) (fun x S1 => P.ex x sl S1)
theorem rpl_map {K : PySem.W.Frag} {F : Hp} : ∀ {vs : List V} {ns : List Int}, RpL K F vs (ns.map D.int) → vs = ns.map V.int := fun {vs ns} r => rpl_ints r (intsD_map ns)
theorem sb_stream (i : Nat) (he : SE X W e p) (hr : SB X W rest q) (hN : X.N.Nodup) (hi : X.N[i]? = some x := by rfl) (hx : Loc X.env.scope x := by first | exact Or.inl rfl | exact Or.inr rfl) (hf : X.fn x = true ∨ X.env.scope.names.lookup x = some .local := by first | exact .inl rfl | exact .inr rfl)
    (hs : swapsWith e (some (.Name x px)) pos.line X.env = pure false := by rfl) : SB X W (.Assign [.Name x px] e pos :: rest) (pStrm i p q) := ⟨PSs.imp (pss_cons (ps_set hN hi hx he.pe hs hf) hr.ps) fun D σ H h => by
  obtain ⟨g, F, sl, S, P, rel, ⟨hsl, hl, hp⟩, lk⟩ := h
  refine ⟨g, F, sl, S, _, _, rel, hp, fun r S1 v H1 F1 s1 rel1 rr nw hq => ?_, lk.exc sl σ⟩
  obtain ⟨ns, rfl, hq⟩ := hq
  obtain ⟨a, vs, rfl, h1, h2, h3, rl⟩ := rr
  have ev := rpl_map rl
  subst ev
  have hsd : i < σ.length := by rw [← rel1.len]; exact hl
  show rdS X.K W q D (σ.set i (some (V.ref a))) H1
  refine ⟨⟨H1, F1, some a⟩, F1, sl.set i .drw, ns, _, ⟨⟨Same.refl _, fun b o z => .inl (by show F1 b ≠ none; rw [z]; exact fun z => nomatch z), rel1.cor.fh, fun b o z _ => z, fun b z => ?_⟩, by simpa using rel1.len, fun j s hj => ?_, fun j k dj dk p' _ h4 => ?_⟩, hq, ⟨fun _ _ _ _ _ _ _ z => z.elim, fun r S' v H' F' s' c rr z => ?_, fun _ _ _ _ _ _ _ z => z.elim, fun _ _ _ _ _ _ _ z => z.elim, fun _ _ _ _ _ _ _ _ _ _ z => z.elim⟩⟩
  · cases z
    exact ⟨h1, h2, by show H1 _ ≠ none; rw [h1]; exact fun z => nomatch z⟩
  · by_cases hij : i = j
    · subst hij
      rw [List.getElem?_set_self hl] at hj
      rw [List.getElem?_set_self hsd]
      cases hj
      exact ⟨a, rfl, rfl⟩
    · rw [List.getElem?_set_ne hij] at hj
      rw [List.getElem?_set_ne hij]
      rcases hsl s (List.mem_of_getElem? hj) with rfl | ⟨d, rfl⟩
      · trivial
      · exact rel1.ok j _ hj
  · exfalso
    by_cases hij : i = j
    · subst hij
      rw [List.getElem?_set_self hl] at h4; cases h4
    · rw [List.getElem?_set_ne hij] at h4
      rcases hsl _ (List.mem_of_getElem? h4) with z | ⟨d, z⟩ <;> cases z
  · have cg : Cor g F' S1 H' := by
      refine ⟨rel1.cor.f0.trans c.f0, fun b o z => ?_, c.fh, fun b o z q => ?_, fun b z => ?_⟩
      · rcases c.fn b o z with y | y
        · cases e1 : F1 b with
          | none => exact absurd e1 y
          | some u => exact rel1.cor.fn b u e1
        · exact .inr (rel1.cor.new y)
      · refine c.h0 b o (rel1.cor.h0 b o z q) fun y => ?_
        cases y
        rw [h3] at z; cases z
      · obtain ⟨k1, k2, k3⟩ := rel1.cor.st b z
        have nb : (some a : Option Addr) ≠ some b := fun y => by
          cases y
          exact k3 h3
        refine ⟨c.h0 b _ k1 nb, ?_, k3⟩
        cases e1 : F' b with
        | none => rfl
        | some u =>
          rcases c.fn b u e1 with y | y
          · exact absurd k2 y
          · have y : H1 b = none := y
            rw [k1] at y; cases y
    cases r with
    | dat d => exact lk.rt (.dat d) S1 v H' F' (s1.f.trans s') cg rr z
    | own ds =>
      obtain ⟨p', vs', e1, k1, k2, k3, k4⟩ := rr
      exact lk.rt (.own ds) S1 v H' F' (s1.f.trans s') cg ⟨p', vs', e1, k1, k2, rel1.cor.new k3, k4⟩ z
    | drw => exact z.elim⟩
end
/-- nothing leaves the law -/
theorem fn_e0 {P : Program} {w : World} {K : PySem.W.Frag} {mg : Str → Option Value} {base : Heap} {k : Nat} {f : Addr} {fd : FuncData} {ps : List Str} {sp sp' : Sp} (F : FnOk P w K mg base (L2.CX P w) k f fd ps sp) (h : ∀ vs H Q E, sp' vs H Q E → sp vs H Q (fun _ _ _ => False)) : FnOk P w K mg base (fun _ _ _ _ _ _ => False) k f fd ps sp' :=
  ⟨fun vs H Q E z => F.len vs H Q _ (h vs H Q E z), fun A outer s H args us vs Q E hr e0 hb r z => codeAny_mono (F.run A outer s H args us vs Q _ hr e0 hb r (h vs H Q E z)) fun r s' hq => by
    cases r with
    | error e =>
      obtain ⟨a, B, H', cls, d, _, _, _, _, _, _, _, hE⟩ := hq
      exact hE.elim
    | ok fl => cases fl <;> exact hq⟩
/-- the law's promise -/
def lawSpec : PSpec := fun rs S Q _ => ∃ ns : List Int, rs = [.dat (.frl (ns.map D.int))] ∧ ns.length ≤ 63 ∧ Q (.dat (.bl true)) S
def spLaw (K : PySem.W.Frag) : Sp := fun vs H Q _ => ∃ (a : Addr) (ns : List Int), vs = [.ref a] ∧ SqL K H a (ns.map V.int) ∧ ns.length ≤ 63 ∧ ∀ H', Q (.bl true) H'
theorem law_sp {K : PySem.W.Frag} {vs : List V} {H : Hp} {Q : VK} {E : XK} (h : spLaw K vs H Q E) : spOf K lawSpec vs H Q (fun _ _ _ => False) := by
  obtain ⟨a, ns, rfl, hs, hl, hq⟩ := h
  refine ⟨H, none, [], [.dat (.frl (ns.map D.int))], fun r _ => r = .dat (.bl true), fun _ _ => False, Same.refl _, (fun _ z => by cases z), Paired.cons ?_ Paired.nil, ⟨ns, rfl, hl, rfl⟩, fun r S' v H' F' c rr e => ?_, fun _ _ _ _ _ _ _ z => z⟩
  · exact Rp.frl hs (RpL.ints ns)
  · subst e
    cases rr
    exact hq H'
end Py
end
section
set_option Elab.async false
set_option linter.all false
set_option maxRecDepth 100000
set_option maxHeartbeats 4000000
/-! A comprehension whose element (a call) may raise. -/
namespace Py
open PySem L2 PySem.Spec PyProof.Rows

/-- an exception held by the def's own frame is in the air of the def -/
theorem xe_held {X : Cx} {pins : List (Addr × Obj)} {σ : L2.St} {H H' : Hp} {s s' : Shared} {B : Heap} {W : WX} {a : Addr} {cls : Value} {d : Option Addr} (I : Inv X pins σ H s)
    (hh : HandSPX.HeldZ B X.stack a (Zc cls d) X.env.locals s'.heap) (hok : HOk X.prog X.w H' B) (ub : UB (frs X.stack) H H' s.heap B s'.heap) (na : H' a = none) (os : s'.os = s.os) (ag : AllBare s'.gens) (w : W cls d σ H') :
    XE X W (.ref a) s' := by
  have st : B.StaysIn s'.heap := hh.1
  let pB : Addr → Bool := fun b => (B.get? b).isSome || decide (b ∈ frs X.stack)
  obtain ⟨Gr, gy, gn⟩ := restrict s'.heap pB
  have inB : ∀ b o, B.get? b = some o → Gr.get? b = some o := fun b o e =>
    (gy b (show pB b = true by simp [pB, e])).trans (st b o e)
  have inF : ∀ b, b ∈ frs X.stack → Gr.get? b = s'.heap.get? b := fun b hb => gy b (show pB b = true by simp [pB, hb])
  have back : ∀ b o, Gr.get? b = some o → s'.heap.get? b = some o ∧ (b ∉ frs X.stack → B.get? b = some o) := fun b o e => by
    by_cases z : pB b = true
    · rw [gy b z] at e
      refine ⟨e, fun nb => ?_⟩
      have z2 : (B.get? b).isSome = true := by simpa [pB, nb] using z
      obtain ⟨o2, e2⟩ := Option.isSome_iff_exists.mp z2
      rw [e2, ← st b o2 e2, e]
    · rw [gn b (by simpa using z)] at e; cases e
  have un : Un (frs X.stack) [] H H' s.heap Gr := by
    refine ⟨?_, ?_, ?_, ?_, ub.tups, ub.frzs, ub.tbls⟩
    · intro b o e n hb _
      exact inB b o (ub.keep b o e n hb)
    · intro b o e n hb _
      obtain ⟨sl, q⟩ := ub.slot b o e hb
      exact ⟨sl, (inF b hb).trans q⟩
    · intro b o e n _
      exact ub.free b o e n
    · intro b o e _
      by_cases hb : b ∈ frs X.stack
      · obtain ⟨sl, q⟩ := ub.slot b o e hb
        exact ⟨_, (inF b hb).trans q⟩
      · obtain ⟨o2, q⟩ := ub.there b o e hb
        exact ⟨o2, inB b o2 q⟩
  have J := I.call (g' := s'.gens) (t' := s'.toks) (d' := s'.drawn) (ch := []) un (hok.kept inB) ag (fun _ z => nomatch z)
  exact ⟨a, B, _, pins, σ, H', cls, d, rfl, J, fun b o e hb => (back b o e).2 hb, Heap.UpToSlots.of_keeps fun b o e => (back b o e).1, .inr (.inr hh), na, os, ag, w⟩

/-- what a raise in a comprehension's block (a call's, in its element) leaves the def -/
theorem blk_fails {X : Cx} {pins : List (Addr × Obj)} {σ : L2.St} {H9 : Hp} {s9 s' : Shared} {W : WX} {E : XK} {u : Value} {ce : Env} {m : Str → Option Value}
    (hs : X.stack = X.env :: X.outer) (hf : X.env.frame = some X.env.locals) (hcf : ce.frame = X.env.frame) (tk : Takes X W)
    (I : Inv X pins σ H9 s9) (hC : FpOk X pins H9 ce.locals) (hn : s9.heap.Ns ce.locals m) (hW : ∀ cls d H', E cls d H' → W cls d σ H') (c : L2.CX X.prog X.w X.stack H9 s9 E u s') :
    notedBy (model X.prog X.w) X.A ce (CompFails (model X.prog X.w) X.A X.xe ce) u s' := by
  obtain ⟨a, B, H', cls, d, rfl, fl, hok, ub, na, os, ag, hE⟩ := c
  have hfr : X.A.frames = some (X.env :: X.outer) := by rw [I.ok.frames, hs]
  show wpAny _ _ (noteFrame (.ref a) ce) _ _ _
  rw [noteFrame_env _ hcf]
  rw [hs] at fl
  have hns : ce.locals ∉ frs X.stack := fun z => by
    rcases List.mem_cons.mp (I.stkSub _ z) with q | q
    · exact hC.2.1 q
    · exact hC.2.2.1 q
  obtain ⟨oC, es, ep, hoC, hdC, hrC⟩ := hn
  have hBC : B.get? ce.locals = some oC := ub.keep _ _ hoC hC.1 hns
  have hC' : H' ce.locals = none := ub.free _ _ hoC hC.1
  refine HandSPX.looks_onZ Zc.steady hfr hf fl fun h1 held up1 => ?_
  have h1C : h1.get? ce.locals = some oC := held.1 _ _ hBC
  refine ⟨m, ⟨oC, es, ep, h1C, hdC, hrC⟩, fun h2 m2 hn2 sb => ?_⟩
  -- the ground without the block
  have gB : ∀ b o, b ≠ ce.locals → B.get? b = some o → (PySem.W.hideAll B [ce.locals]).get? b = some o := fun b o hb e => PySem.W.hideAll_get _ e (by simpa using hb)
  have held2 : HandSPX.HeldZ (PySem.W.hideAll B [ce.locals]) (X.env :: X.outer) a (Zc cls d) X.env.locals h2 := by
    obtain ⟨k1, k2, k3, oe, vs, T, oT, ts, he, hz, hd, hv1, hnT, hTe, hT, hdT, hv3⟩ := held
    have nofld : ∀ b o, h1.get? b = some o → (∃ vs, o.data = .fields vs) → b ≠ ce.locals := fun b o e ⟨vs, q⟩ z => by
      rw [z, h1C] at e
      cases e
      rw [hdC] at q
      cases q
    have hide0 : ∀ b, B.get? b = none → (PySem.W.hideAll B [ce.locals]).get? b = none := fun b e => by
      cases q : (PySem.W.hideAll B [ce.locals]).get? b with
      | none => rfl
      | some o => rw [PySem.W.of_hideAll _ q] at e; cases e
    refine ⟨fun b o e => ?_, hide0 _ k2, ?_, oe, vs, T, oT, ts, (sb.2 a (nofld _ _ he ⟨_, hd⟩)).trans he, hz, hd, hv1, hide0 _ hnT, hTe, (sb.2 T (nofld _ _ hT ⟨_, hdT⟩)).trans hT, hdT, hv3⟩
    · have hb : b ≠ ce.locals := fun z => by
        rw [z, PySem.W.hideAll_none _ (by simp)] at e
        cases e
      exact (sb.2 b hb).trans (k1 b o (PySem.W.of_hideAll _ e))
    · exact funFrames_none (Heap.FunFrames.sameBut sb hn2 k3) fun L hL => hide0 L (Heap.FunFrames.mem k3 hL).1
  unfold PySem.passOn
  obtain ⟨oe, vs, T, oT, ts, he, hz, hd, hv1, r⟩ := held2.2.2.2
  refine wpAny_bind (wpAny_field he hd hv1 ?_)
  rw [if_neg (show ¬ ((Value.ref T == Value.none) = true) from by simp), hcf, hf]
  refine wpAny_bind (HandSPX.setFlight_onZ held2 fun h3 held3 up3 => wpAny_throw ?_)
  refine tk _ _ (xe_held (pins := pins) (s := { s9 with heap := PySem.W.hideAll s9.heap [ce.locals] }) (H := H9) (H' := H') (B := PySem.W.hideAll B [ce.locals]) ?_ (by rw [hs]; exact held3) ?_ ?_ na os ag (hW _ _ _ hE))
  · obtain ⟨f0, f1, f2, f3, f4, f5⟩ := hC
    exact I.turned (t' := s9.toks) (fun b o hb e => PySem.W.hideAll_get _ e (by simpa using hb)) f0 f1 f3 f4 f5
  · intro b o q
    exact (hok b o q).stay (fun b2 u hc r => gB b2 u (fun z => by
      rcases hc with hc | hc
      · rw [← hc, z, hC'] at q; cases q
      · rw [z, hC'] at hc; cases hc) r) (fun _ r => r) fun _ _ r => r
  · have old : ∀ b o, (PySem.W.hideAll s9.heap [ce.locals]).get? b = some o → s9.heap.get? b = some o ∧ b ≠ ce.locals := fun b o e =>
      ⟨PySem.W.of_hideAll _ e, fun z => by
        rw [z, PySem.W.hideAll_none _ (by simp)] at e
        cases e⟩
    refine ⟨fun b o e n hb => ?_, fun b o e hb => ?_, fun b o e n => ub.free b o (old b o e).1 n, fun b o e hb => ?_, ub.tups, ub.frzs, ub.tbls⟩
    · exact gB b o (old b o e).2 (ub.keep b o (old b o e).1 n hb)
    · obtain ⟨sl, q⟩ := ub.slot b o (old b o e).1 hb
      have nf : ∀ vs, o.data ≠ .fields vs := by
        obtain ⟨_, o2, e2, nf⟩ := I.stack.mem hb
        rw [(old b o e).1] at e2
        cases e2
        exact nf
      obtain ⟨sl1, q1⟩ := up1 b _ q nf
      have q2 := (sb.2 b (old b o e).2).trans q1
      obtain ⟨sl3, q3⟩ := up3 b _ q2 nf
      exact ⟨sl3, q3⟩
    · obtain ⟨o2, q⟩ := ub.there b o (old b o e).1 hb
      exact ⟨o2, gB b o2 (old b o e).2 q⟩

section
variable {X : Cx} {W : WX} {k : Nat} {x : Str} {spec : PSpec} {e : Expr} {es : List Expr} {pa : PAx} {p pos : Pos}
/-- a call in a block: what it lets out is taken at the slots -/
theorem se_callB (c : Cal X.prog X.w X.K X.mg X.base k x spec) (hr : Room k X.A) (hx : ∀ σ, PassesAt (L2.CX X.prog X.w) X σ (WE W σ)) (ha : SA X W (e :: es) pa) (hg : Gl X x := by rfl) (hdb : (x == ("__debug__" : Str)) = false := by decide)
    (he : starEach (e :: es) X.env = (false, eval e X.env) :: starEach es X.env := by rfl) (hpl : (backTo pos (starEach es X.env)).any (·.1) = false := by rfl) : SE X W (.Call (.Name x p) (e :: es) [] pos) (pCall spec pa) := by
  obtain ⟨f, fd, ps, F, hm, hk, hb⟩ := c.ex
  exact ⟨PE.imp (pe_callS F hr hg hm hk hb hx ha.pa hdb he hpl) rd_call⟩
end

/-- the block of a comprehension whose exceptions go to xe -/
abbrev blkX (X : Cx) (s : Shared) (H : Hp) (scope : Scope) (ce : Env) (fp : List Addr) (xe : Value → Shared → Prop) : Cx := { X.blk s H scope ce fp with xe := xe }
theorem blkX_inv {X : Cx} {s t : Shared} {H H' : Hp} {scope : Scope} {ce : Env} {fp : List Addr} {xe : Value → Shared → Prop} {pins : List (Addr × Obj)} {σ : L2.St} (I : Inv (X.blk s H scope ce fp) pins σ H' t) : Inv (blkX X s H scope ce fp xe) pins σ H' t :=
  ⟨⟨I.ok.mod, I.ok.kind, I.ok.glob, I.ok.blt, I.ok.above, I.ok.inj, I.ok.has, I.ok.cab, I.ok.hd, I.ok.frames, I.ok.stk, I.ok.exf, I.ok.bs, I.ok.bsz, I.ok.noex, I.ok.exfs, I.ok.funs, I.ok.frf⟩, I.os, I.bare, I.base, I.loc, I.cell, I.free, I.freeC, I.pin, I.hok, I.len⟩
theorem blkX_back {X : Cx} {s t : Shared} {H H' : Hp} {scope : Scope} {ce : Env} {fp : List Addr} {xe : Value → Shared → Prop} {pins : List (Addr × Obj)} {σ : L2.St} (I : Inv (blkX X s H scope ce fp xe) pins σ H' t) : Inv (X.blk s H scope ce fp) pins σ H' t :=
  ⟨⟨I.ok.mod, I.ok.kind, I.ok.glob, I.ok.blt, I.ok.above, I.ok.inj, I.ok.has, I.ok.cab, I.ok.hd, I.ok.frames, I.ok.stk, I.ok.exf, I.ok.bs, I.ok.bsz, I.ok.noex, I.ok.exfs, I.ok.funs, I.ok.frf⟩, I.os, I.bare, I.base, I.loc, I.cell, I.free, I.freeC, I.pin, I.hok, I.len⟩
/-- as in the block with a calm wish: nothing of W0 is let out -/
theorem thn0 {α : Type} {t : Sem α} {Q Q' : α → Shared → Prop} {M : Model} {A : Around} {E : Value → Shared → Prop} {s : Shared} (h : wpAny M A t Q (fun _ _ => False) s) (hQ : ∀ a s, Q a s → Q' a s) : wpAny M A t Q' E s := wpAny_mono h hQ fun _ _ z => z.elim

section
variable {X : Cx} {W : WX} {elt tg it : Expr} {scope : Scope} {own : List (Str × Nat)} {pos pos' : Pos} {wi : L2.TI} {g : L2.TG} {te : WX → TE} {use : Option (Value → Sem Unit)} {Qf : Value → Shared → Prop}
/-- as L2.tLc with no test; the element by what it may raise -/
theorem lc_raises {pins : List (Addr × Obj)} {s : Shared} {σ : L2.St} {H : Hp} {Q : VK} (hs : X.stack = X.env :: X.outer) (hf : X.env.frame = some X.env.locals) (tk : Takes X W) (hc : X.calm = true) (hN : X.N.Nodup) (I : Inv X pins σ H s)
    (hi : PI X tg it wi) (ok : BlkOk X.N X.env.scope scope own)
    (hg : ∀ (s : Shared) (H : Hp) (C : Addr) (cl : List (Str × Addr)) (fp : List Addr), PG (X.blk s H scope (compEnvC scope cl C X.env) fp) tg g)
    (he : ∀ (s : Shared) (H : Hp) (C : Addr) (cl : List (Str × Addr)) (fp : List Addr) (xe : Value → Shared → Prop) (W' : WX), (∀ σ, PassesAt (L2.CX X.prog X.w) (blkX X s H scope (compEnvC scope cl C X.env) fp xe) σ (WE W' σ)) → PE (blkX X s H scope (compEnvC scope cl C X.env) fp xe) elt (te W'))
    (hfi : ∀ x, foldedSetIterable it X.env x = pure x)
    (h : tLc wi g tYes (te fun cls d _ H' => W cls d σ H') (own.map (·.2)) σ H Q)
    (hRR : ∀ D ce s' m H', Inv X pins σ H' s' → Q (.ref D) H' → s'.heap.Ns ce.locals m → FpOk X pins H' ce.locals → compEnds (model X.prog X.w) X.A X.xe use Qf (.ref D) ce (.ok .next) s') :
    wpAny (model X.prog X.w) X.A (comprehension (.ListComp elt [⟨tg, it, [], 0⟩] scope pos) scope X.env pos' (newList []) false (eval it X.env) use) Qf X.xe s := by
  have free : ∀ y ∈ scope.names, y.2 = .free → ∃ c, X.env.cells.lookup y.1 = some c := fun y hy e => I.ok.has _ (ok.free y hy e)
  refine comprehension_at (use := use) rfl hfi (closure_ok free) ok.kind (fun y hy e => by rw [ok.uniq y hy, e])
    (thn (hi.run pins s σ H _ I h) fun xv s1 hx => thn hx fun itv s2 h2 => ?_)
  obtain ⟨itA, fp, tn, J, H2, rfl, I2, T, st2, f2, q⟩ := h2
  refine wpAny_newObj_type (newEnv_comp ?_) (by show 0 ≤ sizeLine; decide)
  generalize hD : s2.heap.objs.size = D
  have hDn : H2 D = none := I2.hok.fresh (Nat.le_of_eq hD)
  obtain ⟨Wt, ⟨m0, w0⟩, turn⟩ := q D hDn
  generalize hs3 : ({ s2 with heap := s2.heap.push { cls := .type "list", data := .seq ([] : List Value).toArray } } : Shared) = s3
  have h3 : s3.heap = s2.heap.push { cls := .type "list", data := .seq ([] : List Value).toArray } := by rw [← hs3]
  have I3 : Inv X pins σ (upd H2 D (.lst [])) s3 := by
    rw [← hs3]
    refine I2.laid (t' := s2.toks) (fun b o e => Heap.get?_push_of_some _ e) (Nat.le_of_eq hD) ⟨Nat.zero_le _, [], 0, .nil, ?_⟩
    rw [← hD]
    exact Heap.get?_push_size _ rfl
  have lt2 : ∀ b ∈ fp, b < s2.heap.objs.size := fun b hb => (T.obj _ _ st2 b hb).elim fun o e => Heap.lt_size e.1
  have f3 : ∀ b ∈ fp, FpOk X pins (upd H2 D (.lst [])) b ∧ b < s3.heap.objs.size := fun b hb => by
    refine ⟨⟨?_, (f2 b hb).2⟩, by rw [h3, Heap.size_push]; exact Nat.lt_succ_of_lt (lt2 b hb)⟩
    rw [upd_ne (by rw [← hD]; exact Nat.ne_of_lt (lt2 b hb))]
    exact (f2 b hb).1
  have st3 : tn 0 s3.heap := T.keep _ _ _ st2 fun b _ o e => by rw [h3]; exact Heap.get?_push_of_some _ e
  have I4 := block_start I3 ok hN f3
  have ni : ∀ b ∈ fp, (upd H2 D (.lst [])) b = none := fun b hb => (f3 b hb).1.1
  have pg := hg s3 (upd H2 D (.lst [])) s3.heap.objs.size (cellsFrom (s3.heap.objs.size + 1) scope.names (cloFrom X.env.cells scope.names [])) fp
  have pe := he s3 (upd H2 D (.lst [])) s3.heap.objs.size (cellsFrom (s3.heap.objs.size + 1) scope.names (cloFrom X.env.cells scope.names [])) fp
  show codeAny _ _ (.compStart (.ListComp elt [⟨tg, it, [], 0⟩] scope pos) 0 (.ref itA) (.ref D) (compEnvC scope (cellsFrom (s3.heap.objs.size + 1) scope.names (cloFrom X.env.cells scope.names [])) s3.heap.objs.size X.env))
    (compEnds (model X.prog X.w) X.A X.xe use Qf (.ref D) (compEnvC scope (cellsFrom (s3.heap.objs.size + 1) scope.names (cloFrom X.env.cells scope.names [])) s3.heap.objs.size X.env)) { s3 with heap := pushCells (s3.heap.push { cls := .type "dict", data := .dict #[] }) scope.names }
  have hcf0 : (compEnvC scope (cellsFrom (s3.heap.objs.size + 1) scope.names (cloFrom X.env.cells scope.names [])) s3.heap.objs.size X.env).frame = X.env.frame := rfl
  generalize hce : compEnvC scope (cellsFrom (s3.heap.objs.size + 1) scope.names (cloFrom X.env.cells scope.names [])) s3.heap.objs.size X.env = ce at I4 pg pe hcf0 ⊢
  have cL : ce.locals = s3.heap.objs.size := by subst hce; rfl
  generalize hH3 : upd H2 D (.lst []) = H3 at I3 I4 pg pe w0 ni f3
  generalize hs4 : ({ s3 with heap := pushCells (s3.heap.push { cls := .type "dict", data := .dict #[] }) scope.names } : Shared) = s4 at I4 ⊢
  have st4 : tn 0 s4.heap := T.keep _ _ _ st3 fun b _ o e => by rw [← hs4]; exact pushCells_keeps _ _ _ _ (Heap.get?_push_of_some _ e)
  -- from the block to the def
  have out : ∀ {ps' : List (Addr × Obj)} {σ' : L2.St} {H' : Hp} {t : Shared}, Inv (X.blk s3 H3 scope ce fp) ps' σ' H' t → Inv X pins σ H' t ∧ FpOk X pins H' ce.locals ∧ ∃ m, t.heap.Ns ce.locals m := fun {ps' σ' H' t} B => by
    refine ⟨I3.call' (ch := fp) B.os B.base B.hok B.bare fun b hb => ⟨(f3 b hb).1.2.2.2.1, (f3 b hb).1.2.1, (f3 b hb).1.2.2.2.2.1, (f3 b hb).1.2.2.2.2.2⟩, ?_, B.loc.elim fun m hm => ⟨m, hm.1⟩⟩
    have z : H' ce.locals = none := B.free
    rw [cL] at z ⊢
    exact I3.fpOk (Nat.le_refl _) z
  let xb : Value → Shared → Prop := notedBy (model X.prog X.w) X.A ce (CompFails (model X.prog X.w) X.A X.xe ce)
  have pex := pe xb (fun cls d _ H' => W cls d σ H') fun σ' ps' H' t u t' B c => by
    obtain ⟨J, fo, m, hn⟩ := out (blkX_back B)
    exact blk_fails (E := fun cls d H' => W cls d σ H') hs hf hcf0 tk J fo hn (fun _ _ _ z => z) c
  have fpx : ∀ {σ' : L2.St} {H' : Hp} {t : Shared}, Inv (X.blk s3 H3 scope ce fp) [] σ' H' t → (∀ b ∈ fp, H' b = none) → ∀ b ∈ fp, FpOk (X.blk s3 H3 scope ce fp) [] H' b := fun {σ' H' t} B hn b hb =>
    ⟨hn b hb, (B.ok.exf b hb).1, B.ok.exfs b hb, .inl hb, fun y c e => (B.ok.exf b hb).2 y c e, fun p hp => by cases hp⟩
  have errs : ∀ e t, compEnds (model X.prog X.w) X.A X.xe use Qf (.ref D) ce (.error e) t = CompFails (model X.prog X.w) X.A X.xe ce e t := fun e t => by cases use <;> rfl
  have loop : codeAny (model X.prog X.w) X.A (.compLoop (.ListComp elt [⟨tg, it, [], 0⟩] scope pos) 0 (.ref itA) (.ref D) ce) (compEnds (model X.prog X.w) X.A X.xe use Qf (.ref D) ce) s4 := by
    refine compLoop_any (fun n t => ∃ i H', Inv (X.blk s3 H3 scope ce fp) [] (wipe σ (own.map (·.2))) H' t ∧ tn i t.heap ∧ (∀ b ∈ fp, H' b = none) ∧ Wt i n H') ?_ m0 ⟨0, H3, I4, st4, ni, w0⟩
    rintro n s5 ⟨i, H5, I5, st5, n5, w5⟩
    rcases turn i n H5 w5 with ⟨stop, qq⟩ | ⟨go, Nx, hNx, step⟩
    · refine thn0 (T.done (X.blk s3 H3 scope ce fp) rfl rfl rfl hc i [] s5 _ H5 (fun _ _ => False) I5 (fpx I5 n5) st5 stop) fun r s6 hr => ?_
      obtain ⟨rfl, I6⟩ := hr
      obtain ⟨J, fo, m, hn⟩ := out I6
      exact hRR D ce s6 m H5 J qq hn fo
    · refine thn0 (T.item (X.blk s3 H3 scope ce fp) rfl rfl rfl hc i [] s5 _ H5 (fun _ _ => False) I5 (fpx I5 n5) st5 go) fun r s6 hr => ?_
      obtain ⟨u, rfl, h6⟩ := hr
      refine thn0 h6 fun _ s7 h7 => ?_
      obtain ⟨x, H7, I7, r7, y7, st7, n7⟩ := h7
      refine thn0 (pg.run _ s7 _ H7 x u _ (I7.pinned (fpx I7 n7) (T.obj _ _ st7)) r7 (step x H7 y7)) fun _ s8 h8 => ?_
      obtain ⟨σ8, H8, I8, hw8, q8⟩ := h8
      refine wpAny_tests_nil ?_
      have q9 : (te fun cls d _ H' => W cls d σ H') σ8 H8 _ := q8
      simp only [if_true]
      refine wpAny_mono (pex.run _ s8 σ8 H8 _ (blkX_inv I8) q9) (fun z s10 h10 => ?_) fun e t z => ?_
      · obtain ⟨yv, H10, I10, r10, acc, hD10, hz10, nx⟩ := h10
        refine app_ok (X := X.blk s3 H3 scope ce fp) (blkX_back I10) hD10 hz10 r10 fun s11 I11 => ?_
        obtain ⟨m', hm, w'⟩ := hNx _ nx
        have pin' : ∀ b ∈ fp, ∀ o, s7.heap.get? b = some o → s11.heap.get? b = some o ∧ upd H10 D (HO.lst (acc ++ [yv])) b = none := fun b hb o e =>
          (fun z => ⟨z.1, z.2.1⟩) (I11.pin (b, o) (List.mem_append_right _ (List.mem_append_right _ (mem_pinsAt hb e))))
        refine ⟨m', hm, i + 1, _, (I11.unpinned (pins := [])).weak (by rw [← hw8, wipe_length]) fun j v e => ?_, T.keep _ _ _ st7 fun b hb o e => (pin' b hb o e).1, fun b hb => ?_, w'⟩
        · rw [← hw8] at e
          exact (wipe_some e).1
        · obtain ⟨o, e, _⟩ := T.obj _ _ st7 b hb
          exact (pin' b hb o e).2
      · show wpAny _ _ (noteFrame e ce) _ _ _
        have z : xb e t := z
        refine wpAny_mono z (fun _ t2 y => ?_) fun e2 t2 y => ?_
        · exact Eq.mpr (errs _ _) y
        · exact Eq.mpr (errs _ _) y
  exact codeAny_compStart_list loop (T.self X.A 0 _ _ _ st4 loop)
end
end Py
end
section
set_option Elab.async false
set_option linter.all false
set_option maxRecDepth 100000
set_option maxHeartbeats 4000000
/-! A comprehension whose element may raise: the reading. -/
namespace Py
open PySem L2 PySem.Spec PyProof.Rows

def lcRunR (i : Nat) (pe : PEx) : List D → List Slot → List Int → (List D → List Int → Prop) → PXQ → Prop
  | [], _, S, Q, _ => Q [] S
  | d :: ds, sl, S, Q, E => dat pe (sl.set i (.dat d)) S (fun y S2 => lcRunR i pe ds sl S2 (fun ys S3 => Q (y :: ys) S3) E) E
def noOwn (sl : List Slot) (i : Nat) : Prop := ∀ ds, sl[i]? ≠ some (.own ds)
@[simp] def pLcR (i : Nat) (pi : PIx) (pe : PEx) : PEx := fun sl S Q E => noOwn sl i ∧ pi sl S (fun ds S1 => ds.length ≤ sizeLine ∧ i < sl.length ∧ lcRunR i pe ds (sl.set i .un) S1 (fun ys S2 => Q (.own ys) S2) E) E

theorem lc_exc {K : PySem.W.Frag} {g : G} {F1 F' H1 H' : Hp} {sl : List Slot} {S1 S' : List Int} {σ : L2.St} {i : Nat} {z : Slot} {zv : Option V} (rel1 : Rel K g F1 sl S1 σ H1) (no : noOwn sl i) (sF : Same F1 F') (r : Rel K g F' (sl.set i z) S' (σ.set i zv) H') : Rel K g F' sl S' σ H' := by
  refine ⟨r.cor, rel1.len, fun j s hj => ?_, fun j k dj dk p hjk h4 h5 h6 h7 => ?_⟩
  · by_cases e : i = j
    · subst e
      exact (rel1.ok i s hj).mono sF fun ds p e1 _ => by subst e1; exact absurd hj (no ds)
    · have q := r.ok j s (by rw [List.getElem?_set_ne e]; exact hj)
      rw [List.getElem?_set_ne e] at q
      exact q
  · have nj : i ≠ j := fun e => by subst e; exact no _ h4
    have nk : i ≠ k := fun e => by subst e; exact no _ h5
    exact r.sep j k dj dk p hjk (by rw [List.getElem?_set_ne nj]; exact h4) (by rw [List.getElem?_set_ne nk]; exact h5) (by rw [List.getElem?_set_ne nj]; exact h6) (by rw [List.getElem?_set_ne nk]; exact h7)

theorem rd_lcR {K : PySem.W.Frag} {W : WX} {i : Nat} {pi : PIx} {pe : PEx} (σ : L2.St) (H : Hp) (Q : VK) (h : rdE K W (pLcR i pi pe) σ H Q) :
    tLc (rdI K W pi) (gName i) tYes (rdE K (fun cls d _ H' => W cls d σ H') pe) [i] σ H Q := by
  obtain ⟨g, F, sl, S, Q', E', rel, ⟨no, hp⟩, post, exc⟩ := h
  refine ⟨g, F, sl, S, _, E', rel, hp, fun ds S1 J H1 F1 s1 rel1 io ⟨hz, hi, h1⟩ => ?_, exc⟩
  intro L hL
  let Pv : Nat → Hp → Prop := fun j H' => ∃ F' S' acc accd, Stp g F1 H1 F' (fun b => if b = L then none else H' b) ∧ Rel K g F' (sl.set i .un) S' (σ.set i none) H' ∧ H' L = some (.lst acc) ∧ F' L = none ∧ RpL K F' acc accd ∧ acc.length ≤ j ∧
    lcRunR i pe (ds.drop j) (sl.set i .un) S' (fun ys S2 => Q' (.own (accd ++ ys)) S2) E'
  have hid : ∀ {p : Addr} {o : HO} {Hx : Hp}, Hx p = none → (fun b => if b = p then none else (upd Hx p o) b) = Hx := fun {p o Hx} e => by
    funext b
    by_cases z : b = p
    · rw [if_pos z, z, e]
    · rw [if_neg z, upd_ne z]
  refine ⟨fun j m H' => m = ds.length - j ∧ j ≤ ds.length ∧ Pv j H', ⟨ds.length, by simp, Nat.zero_le _, F1, S1, [], [], ?_, (rel1.wipe1 i).alloc hL, upd_same, rel1.cor.free hL, .nil, Nat.zero_le _, h1⟩, ?_⟩
  · rw [hid hL]; exact Stp.refl
  rintro j m H' ⟨rfl, hj, F', S', acc, accd, st, rel2, hLa, hLf, ra, hal, h2⟩
  have sF : Same F1 F' := st.f
  by_cases hlt : j < ds.length
  · have e1 : ds.drop j = ds[j] :: ds.drop (j + 1) := List.drop_eq_getElem_cons hlt
    rw [e1] at h2
    refine .inr ⟨(io.mono sF).go H' j rel2.cor.fh hlt, Pv (j + 1), fun H3 p3 => ⟨ds.length - (j + 1), by omega, rfl, hlt, p3⟩, fun x H3 y => ?_⟩
    obtain ⟨e3, hy⟩ := (io.mono sF).yld H' j x H3 rel2.cor.fh y
    subst e3
    have rx : Rp K F' x ds[j] := hy _ (by simp)
    have hls : i < (sl.set i Slot.un).length := by simpa using hi
    have rel3 : Rel K g F' ((sl.set i .un).set i (.dat ds[j])) S' ((σ.set i none).set i (some x)) H3 := rel2.store (x := .dat ds[j]) rx trivial hls
    have esg : ∀ z : Option V, (σ.set i none).set i z = σ.set i z := fun z => List.set_set ..
    show _ ∧ _
    refine ⟨?_, ?_⟩
    · show ((σ.set i none).set i (some x)).set i none = σ.set i none
      rw [esg, List.set_set]
    · show rdE K (fun cls d _ H' => W cls d σ H') pe _ H3 _
      have excB : ExcE K (fun cls d _ H' => W cls d σ H') g F' ((sl.set i .un).set i (.dat ds[j])) ((σ.set i none).set i (some x)) E' := fun px S5 d H5 F5 s5 r5 ex he => by
        rw [List.set_set, List.set_set] at r5
        exact exc px S5 d H5 F5 ((s1.f.trans sF).trans s5) (lc_exc rel1 no (sF.trans s5) r5) ex he
      refine rdE_dat rel3 h2 excB fun y S5 v H5 F5 s5 rel5 ry h5 => ?_
      have comp : ∀ {F5 H5 : Hp}, Stp g F' H3 F5 H5 → Stp g F1 H1 F5 (fun b => if b = L then none else H5 b) := fun {F5 H5} s5 => by
        refine ⟨sF.trans s5.f, fun a o e q => ?_, fun a o e => ?_, fun a e => ?_⟩
        · have hne : a ≠ L := fun z => by rw [z, hL] at e; cases e
          have h7 := st.k a o e q
          simp only [if_neg hne] at h7 ⊢
          exact s5.k a o h7 q
        · rcases s5.n a o e with z | z
          · exact st.n a o z
          · by_cases hne : a = L
            · rw [hne]; exact .inr hL
            · exact .inr (st.d a (by simp only [if_neg hne]; exact z))
        · by_cases hne : a = L
          · rw [hne]; exact hL
          · simp only [if_neg hne] at e
            exact st.d a (by simp only [if_neg hne]; exact s5.d a e)
      have r6 : Rel K g F5 (sl.set i .un) S5 (σ.set i none) H5 := by
        have e7 : ((sl.set i Slot.un).set i (.dat ds[j])).set i .un = sl.set i .un := by rw [List.set_set, List.set_set]
        have e8 : ((σ.set i none).set i (some x)).set i none = σ.set i none := by rw [List.set_set, List.set_set]
        have q : Rel K g F5 (((sl.set i Slot.un).set i (.dat ds[j])).set i .un) S5 (((σ.set i none).set i (some x)).set i none) H5 := rel5.wipe1 i
        rw [e7, e8] at q
        exact q
      have ndr : g.dr ≠ some L := fun z => (rel2.cor.st L z).2.2 (rel1.cor.new hL)
      have hL5 : H5 L = some (.lst acc) := s5.k L _ hLa ndr
      have hF5 : F5 L = none := by
        cases e : F5 L with
        | none => rfl
        | some o => rcases s5.n L o e with z | z
                    · rw [hLf] at z; cases z
                    · rw [hLa] at z; cases z
      refine ⟨acc, hL5, by omega, F5, S5, acc ++ [v], accd ++ [y], ?_, ?_, upd_same, hF5, ((ra.mono s5.f).append (.cons ry .nil)), by simp; omega, ?_⟩
      · have c5 := comp s5
        have : (fun b => if b = L then none else upd H5 L (HO.lst (acc ++ [v])) b) = (fun b => if b = L then none else H5 b) := by
          funext b
          by_cases z : b = L
          · rw [if_pos z, if_pos z]
          · rw [if_neg z, if_neg z, upd_ne z]
        rw [this]; exact c5
      · refine ⟨r6.cor.write hF5 (rel1.cor.new hL), r6.len, fun k s hk => (r6.ok k s hk).mono (Same.refl _) fun d' p' e1 e2 => ?_, r6.sep⟩
        subst e1
        obtain ⟨p7, vs7, e7, h7, h8, h9, _⟩ := rel1.wipe1 i |>.ok k _ hk
        rw [e2] at e7
        cases e7
        obtain ⟨p8, vs8, e8, k7, k8, _⟩ := r6.ok k _ hk
        rw [e2] at e8
        cases e8
        exact ⟨upd_ne (fun z => by (rw [z, hL] at h7; cases h7)), k8⟩
      · show lcRunR i pe (ds.drop (j + 1)) (sl.set i .un) S5 (fun ys S2 => Q' (.own ((accd ++ [y]) ++ ys)) S2) E'
        have e9 : (fun (ys : List D) (S2 : List Int) => Q' (.own ((accd ++ [y]) ++ ys)) S2) = fun ys S2 => Q' (.own (accd ++ (y :: ys))) S2 := by
          funext ys S2
          rw [List.append_assoc]
          rfl
        rw [e9]
        exact h5
  · have e0 : j = ds.length := by omega
    subst e0
    rw [List.drop_length] at h2
    refine .inl ⟨(io.mono sF).stop H' _ rel2.cor.fh (Nat.le_refl _), ?_⟩
    have h3 : Q' (.own (accd ++ [])) S' := h2
    rw [List.append_nil] at h3
    have relE : Rel K g F' sl S' σ H' := lc_exc rel1 no sF rel2
    have stF : Stp g F H F' H' := s1.trans ⟨sF, fun a o e q => by
        have hne : a ≠ L := fun z => by rw [z, hL] at e; cases e
        have := st.k a o e q
        simp only [if_neg hne] at this
        exact this, st.n, fun a e => by
        by_cases hne : a = L
        · rw [hne]; exact hL
        · exact st.d a (by simp only [if_neg hne]; exact e)⟩
    exact post (.own accd) S' (.ref L) H' F' stF relE ⟨L, acc, rfl, hLa, hLf, rel1.cor.new hL, ra⟩ (nw_new (s1.d L hL)) h3

section
variable {X : Cx} {W : WX} {elt it : Expr} {scope : Scope} {x : Str} {i : Nat} {px pos : Pos} {pi : PIx} {pe : PEx}
theorem se_lcR (i : Nat) (hst : X.stack = X.env :: X.outer) (hf : X.env.frame = some X.env.locals) (tk : Takes X W) (hc : X.calm = true) (hN : X.N.Nodup) (hi : SI X W (.Name x px) it pi) (ok : BlkOk X.N X.env.scope scope [(x, i)])
    (hg : ∀ (s : Shared) (H : Hp) (C : Addr) (cl : List (Str × Addr)) (fp : List Addr), PG (X.blk s H scope (compEnvC scope cl C X.env) fp) (.Name x px) (gName i))
    (he : ∀ (s : Shared) (H : Hp) (C : Addr) (cl : List (Str × Addr)) (fp : List Addr) (xe : Value → Shared → Prop) (W' : WX), (∀ σ, PassesAt (L2.CX X.prog X.w) (blkX X s H scope (compEnvC scope cl C X.env) fp xe) σ (WE W' σ)) → SE (blkX X s H scope (compEnvC scope cl C X.env) fp xe) W' elt pe)
    (hs : ∀ x, foldedSetIterable it X.env x = pure x := by intro _; rfl) :
    SE X W (.ListComp elt [⟨.Name x px, it, [], 0⟩] scope pos) (pLcR i pi pe) := by
  refine ⟨⟨fun pins s σ H Q I h => ?_⟩⟩
  rw [eval_ListComp]
  refine lc_raises (own := [(x, i)]) (te := fun W' => rdE X.K W' pe) hst hf tk hc hN I hi.pi ok hg (fun s H C cl fp xe W' hx => (he s H C cl fp xe W' hx).pe) hs (rd_lcR σ H Q h) fun D ce t m H' J q hn f => ⟨m, hn, fun h2 sb => ?_⟩
  obtain ⟨f0, f1, f2, f3, f4, f5⟩ := f
  exact ⟨.ref D, H', J.turned (t' := t.toks) (fun b o hb e => (sb.2 b hb).trans e) f0 f1 f3 f4 f5, rfl, q⟩
theorem ss_lcR (i : Nat) {j : Nat} {y : Str} {py spos : Pos} (hst : X.stack = X.env :: X.outer) (hf : X.env.frame = some X.env.locals) (tk : Takes X W) (hc : X.calm = true) (hN : X.N.Nodup) (hy : X.N[j]? = some y) (hyl : X.env.scope.names.lookup y = some .local)
    (hsw : swapsWith (.ListComp elt [⟨.Name x px, it, [], 0⟩] scope pos) (some (.Name y py)) spos.line X.env = pure true) (hi : SI X W (.Name x px) it pi) (ok : BlkOk X.N X.env.scope scope [(x, i)])
    (hg : ∀ (s : Shared) (H : Hp) (C : Addr) (cl : List (Str × Addr)) (fp : List Addr), PG (X.blk s H scope (compEnvC scope cl C X.env) fp) (.Name x px) (gName i))
    (he : ∀ (s : Shared) (H : Hp) (C : Addr) (cl : List (Str × Addr)) (fp : List Addr) (xe : Value → Shared → Prop) (W' : WX), (∀ σ, PassesAt (L2.CX X.prog X.w) (blkX X s H scope (compEnvC scope cl C X.env) fp xe) σ (WE W' σ)) → SE (blkX X s H scope (compEnvC scope cl C X.env) fp xe) W' elt pe)
    (hs : ∀ x, foldedSetIterable it X.env x = pure x := by intro _; rfl) :
    SS X W (.Assign [.Name y py] (.ListComp elt [⟨.Name x px, it, [], 0⟩] scope pos) spos) (pAsg (pLcR i pi pe) (pgName j)) := by
  refine ⟨⟨fun pins s σ H D I h0 => ?_⟩⟩
  obtain ⟨g, F, sl, S, P, rel, hp, lk⟩ := h0
  have h : rdE X.K W (pLcR i pi pe) σ H (fun v H1 => D.nx (σ.set j (some v)) H1) :=
    ⟨g, F, sl, S, _, _, rel, hp, fun r S1 v H1 F1 s1 rel1 rr nw ⟨hl, h1⟩ => lk.nx _ S1 _ H1 F1 s1.f (rel1.store rr (rel.ap nw) hl) h1, lk.exc sl σ⟩
  rw [exec_Assign_Name_used _ _ _ _ hsw]
  refine wpAny_bind (wpAny_standAt (wpAny_bind ?_))
  show wpAny _ X.A (do let _ ← comprehension (.ListComp elt [⟨.Name x px, it, [], 0⟩] scope pos) scope X.env (firstIterPos [⟨.Name x px, it, [], 0⟩] pos) (newList []) false (eval it X.env) (some (assign (.Name y py) X.env))) _ _ s
  refine wpAny_bind (thn (lc_raises (own := [(x, i)]) (te := fun W' => rdE X.K W' pe) (Qf := fun _ t => SP X pins D .next t) hst hf tk hc hN I hi.pi ok hg (fun s H C cl fp xe W' hx => (he s H C cl fp xe W' hx).pe) hs (rd_lcR σ H _ h) fun L ce t m H' J q hn f => ?_) fun _ t hq => wpAny_pure (wpAny_pure hq))
  show wpAny _ _ (assign (.Name y py) X.env (.ref L)) _ _ _
  refine wpAny_assign_Name (store_ok2 (v := V.ref L) J hN hy (.inl hyl) rfl (fun s2 I2 ha => ?_) (.inr hyl))
  obtain ⟨a, sb, ha⟩ := ha
  obtain ⟨f0, f1, f2, f3, f4, f5⟩ := f
  have hne : ce.locals ≠ a := by
    rcases ha with z | z
    · rw [z]; exact f1
    · exact fun e => f4 y a z e.symm
  exact ⟨m, hn.sameBut sb hne, fun h3 sb3 => ⟨_, H', I2.turned (t' := s2.toks) (fun b o hb e => (sb3.2 b hb).trans e) f0 f1 f3 f4 f5, q⟩⟩
end
end Py
end
section
set_option Elab.async false
set_option linter.all false
set_option maxRecDepth 100000
set_option maxHeartbeats 1000000
/-! An own list is lent to a call. -/
namespace Py
open PySem L2 PySem.Spec PyProof.Rows

mutual
/-- no list within -/
def D.nolst : D → Bool
  | .lst _ => false
  | .frl _ => false
  | .tup xs => nolsts xs
  | .obj _ _ xs => nolsts xs
  | _ => true
def nolsts : List D → Bool
  | [] => true
  | d :: ds => d.nolst && nolsts ds
end
def Res.nolst : Res → Bool
  | .dat d => d.nolst
  | .own ds => nolsts ds
  | .drw => true
theorem cut_same {F F' : Hp} {p : Addr} (h : Same F F') (hp : F p = none) : Same F (fun a => if a = p then none else F' a) := fun a o e => by
  have hne : a ≠ p := fun z => by rw [z, hp] at e; cases e
  simp only [if_neg hne]
  exact h a o e
mutual
theorem Rp.cutP {K : PySem.W.Frag} {F : Hp} {p : Addr} {us : List V} (hp : F p = some (.lst us)) : ∀ {v : V} {d : D}, d.nolst = true → Rp K F v d → Rp K (fun a => if a = p then none else F a) v d
  | _, _, _, .non => .non
  | _, _, _, .bl b => .bl b
  | _, _, _, .int i => .int i
  | _, _, _, .str x => .str x
  | _, _, f, .lst h r => by simp [D.nolst] at f
  | _, _, f, .frl h r => by simp [D.nolst] at f
  | _, _, f, .tup (a := a) h r => by
    refine .tup ?_ (RpL.cutP hp (by simpa [D.nolst] using f) r)
    rcases h with (h | ⟨o, h⟩) | h
    · have hne : a ≠ p := fun z => by rw [z, hp] at h; cases h
      exact .inl (.inl (by simp only [if_neg hne]; exact h))
    · have hne : a ≠ p := fun z => by rw [z, hp] at h; cases h
      exact .inl (.inr ⟨o, by simp only [if_neg hne]; exact h⟩)
    · exact .inr h
  | _, _, f, .obj (a := a) (dx := dx) h h2 l r => by
    have n1 : a ≠ p := fun z => by rw [z, hp] at h; cases h
    have n2 : dx ≠ p := fun z => by rw [z, hp] at h2; cases h2
    exact .obj (by simp only [if_neg n1]; exact h) (by simp only [if_neg n2]; exact h2) l (RpL.cutP hp (by simpa [D.nolst] using f) r)
theorem RpL.cutP {K : PySem.W.Frag} {F : Hp} {p : Addr} {us : List V} (hp : F p = some (.lst us)) : ∀ {vs : List V} {ds : List D}, nolsts ds = true → RpL K F vs ds → RpL K (fun a => if a = p then none else F a) vs ds
  | _, _, _, .nil => .nil
  | _, _, f, .cons h r => by
    simp only [nolsts, Bool.and_eq_true] at f
    exact .cons (Rp.cutP hp f.1 h) (RpL.cutP hp f.2 r)
end
def pLend (i : Nat) (p : PEx) : PEx := fun sl S Q _ => ∃ ds, sl[i]? = some (.own ds) ∧ p (sl.set i (.dat (.lst ds))) S (fun r S1 => r.nolst = true ∧ Q r S1) (fun _ _ => False)

theorem rd_lend {K : PySem.W.Frag} {W : WX} {i : Nat} {p : PEx} (σ : L2.St) (H : Hp) (Q : VK) (h : rdE K W (pLend i p) σ H Q) : rdE K W p σ H Q := by
  obtain ⟨g, F, sl, S, Q', E', rel, ⟨ds, hsl, hp⟩, post, exc⟩ := h
  obtain ⟨a, vs, e1, h1, h2, h3, rl⟩ := rel.own hsl
  have hi : i < sl.length := (List.getElem?_eq_some_iff.mp hsl).1
  -- the slots, the list frozen
  have sF : Same F (upd F a (.lst vs)) := Same.upd_new h2
  have rel2 : Rel K g (upd F a (.lst vs)) (sl.set i (.dat (.lst ds))) S σ H := by
    refine ⟨rel.cor.freeze h1 h2 h3, by simpa using rel.len, fun j s hj => ?_, fun j k dj dk q hjk h4 h5 => ?_⟩
    · by_cases hij : i = j
      · subst hij
        rw [List.getElem?_set_self hi] at hj
        cases hj
        exact ⟨.ref a, by rw [e1]; rfl, .lst upd_same (rl.mono sF)⟩
      · rw [List.getElem?_set_ne hij] at hj
        refine (rel.ok j s hj).mono sF fun ds' q e4 e5 => ⟨rfl, ?_⟩
        subst e4
        obtain ⟨p'', vs'', e6, h7, h8, _⟩ := rel.ok j _ hj
        rw [e5] at e6
        cases e6
        rw [upd_ne fun z => rel.sep i j ds ds' a hij hsl hj (by rw [e1]; rfl) (by rw [e5, z])]
        exact h8
    · have n1 : i ≠ j := fun z => by subst z; rw [List.getElem?_set_self hi] at h4; cases h4
      have n2 : i ≠ k := fun z => by subst z; rw [List.getElem?_set_self hi] at h5; cases h5
      rw [List.getElem?_set_ne n1] at h4
      rw [List.getElem?_set_ne n2] at h5
      exact rel.sep j k dj dk q hjk h4 h5
  refine ⟨g, _, _, S, _, _, rel2, hp, fun r S1 v H1 F1 s1 rel1 rr nw hq => ?_, fun _ _ _ _ _ _ _ _ z => z.elim⟩
  obtain ⟨fl, hq⟩ := hq
  have hFa : F1 a = some (.lst vs) := s1.f a _ upd_same
  have sF2 : Same F (fun b => if b = a then none else F1 b) := cut_same (fun b o e => s1.f b o (sF b o e)) h2
  have cF : ∀ b o, (if b = a then none else F1 b) = some o → b ≠ a ∧ F1 b = some o := fun b o e => by
    by_cases z : b = a
    · rw [if_pos z] at e; cases e
    · rw [if_neg z] at e; exact ⟨z, e⟩
  have stp : Stp g F H (fun b => if b = a then none else F1 b) H1 := ⟨sF2, s1.k, fun b o e => by
    obtain ⟨n, e⟩ := cF b o e
    rcases s1.n b o e with z | z
    · rw [upd_ne n] at z; exact .inl z
    · exact .inr z, s1.d⟩
  refine post r S1 v H1 _ stp ⟨⟨fun b o e => sF2 b o (rel.cor.f0 b o e), fun b o e => rel1.cor.fn b o (cF b o e).2, fun b o e => rel1.cor.fh b o (cF b o e).2, rel1.cor.h0, fun b e => ?_⟩, rel.len, fun j s hj => ?_, rel.sep⟩ ?_ nw hq
  · obtain ⟨k1, k2, k3⟩ := rel1.cor.st b e
    refine ⟨k1, ?_, k3⟩
    show (if b = a then none else F1 b) = none
    by_cases z : b = a
    · rw [if_pos z]
    · rw [if_neg z]; exact k2
  · by_cases hij : i = j
    · subst hij
      rw [hsl] at hj
      cases hj
      exact ⟨a, vs, by rw [e1]; rfl, rel1.cor.fh a _ hFa, by simp only [if_true], h3, rl.mono sF2⟩
    · have hj' : (sl.set i (.dat (.lst ds)))[j]? = some s := by rw [List.getElem?_set_ne hij]; exact hj
      cases s with
      | own es =>
        obtain ⟨p', vs', e6, k7, k8, k9, kr⟩ := rel.ok j _ hj
        obtain ⟨p2, vs2, e7, m7, m8, m9, mr⟩ := rel1.ok j _ hj'
        rw [e7] at e6
        cases e6
        have nd : g.dr ≠ some p' := fun z => (rel.cor.st p' z).2.2 k9
        refine ⟨p', vs', e7, s1.k p' _ k7 nd, ?_, k9, kr.mono sF2⟩
        show (if p' = a then none else F1 p') = none
        by_cases z : p' = a
        · rw [if_pos z]
        · rw [if_neg z]; exact m8
      | un => trivial
      | dat d => exact (rel.ok j _ hj).mono sF2 fun _ _ z => nomatch z
      | drw => exact rel.ok j _ hj
      | exc x d px => exact (rel.ok j _ hj).mono sF2 fun _ _ z => nomatch z
  · cases r with
    | dat d => exact Rp.cutP hFa fl rr
    | own es =>
      obtain ⟨p', vs', rfl, k7, k8, k9, kr⟩ := rr
      refine ⟨p', vs', rfl, k7, ?_, k9, RpL.cutP hFa fl kr⟩
      show (if p' = a then none else F1 p') = none
      by_cases z : p' = a
      · rw [if_pos z]
      · rw [if_neg z]; exact k8
    | drw => exact rr
theorem se_lend {X : Cx} {W : WX} {e : Expr} {p : PEx} (i : Nat) (h : SE X W e p) : SE X W e (pLend i p) := ⟨PE.imp h.pe rd_lend⟩
end Py
end
section
set_option Elab.async false
set_option linter.all false
set_option maxRecDepth 100000
set_option maxHeartbeats 1000000
/-! What the top has written, from facts that k_is finds; the end. -/
namespace Py
open PySem PySem.W PySem.Calls PyProof.Rows PySem.HandSPX

theorem def_mk {K : Frag} {h : Heap} {mg : Str → Option Value} {x : Str} {st : Stmt} {ps : List Str} {f : Addr} {oc kV dc pm cd ct : Value} {od an : Option Addr} {sl : Array (Option Value)} (X : K.In h) (G : h.Ns mainGlobals mg)
    (a : nsIn K mainGlobals x = some (some (.ref f))) (l : K.lookup f = some ⟨oc, od, .func (fnOf x x (L2.defArgs st) (L2.defBody st) (L2.defScope st) .none kV dc pm an cd ct), sl⟩) (c : codeIn K cd x = true) (k : keepIn K (.ref f) = true)
    (b : ∀ (kV doc pm : Value) (an : Option Addr) (cdv ct : Value) (us : List Value), us.length = ps.length → bindArgs (fnOf x x (L2.defArgs st) (L2.defBody st) (L2.defScope st) .none kV doc pm an cdv ct) ⟨us, []⟩ = pure (ps.zip us)) : DefAt K mg x st ps :=
  ⟨f, _, L2.fun_mk l c k, mg_of X G a, (L2.fun_mk (st := st) l c k).binds b⟩
theorem ecls_mk {P : Program} {K : Frag} {C D fI cda cc : Addr} {q : Str} {st : Stmt} {nm qq : Str} {N : Addr} {bs : List Value} {sn sub ab col : _} {dd : Option Addr} {k0 k1 k2 k3 k5 : Option Value} {oc ccl cl : Value} {od an cdd cld : Option Addr} {doc pm ct : Value} {osl ccs csl : Array (Option Value)} {vs : Array Value} {file : Str} {tf : Tok}
    (iC : findIn K (.ref C) "__init__" = some (some (.ref fI)))
    (xL : K.lookup C = some (excClassObj nm qq C N bs (errTail D) true sn sub ab col dd k0 k1 k2 k3 k5 "Exception.__new__"))
    (sup : alongIn K "__init__" (errTail D) = some (some (.builtin "Exception.__init__"))) (opq : nsIn K cStatics "thirdparty.any" = some none) (exI : subIn K (.ref C) (.type "Exception") = some true) (slf : mroIn K C (.ref C) = some true)
    (sa : findIn K (.ref C) "__setattr__" = some (some (.builtin "object.__setattr__"))) (tC : typeIn K (.ref fI) = some (.type "function")) (kC : keepIn K (.ref C) = true) (exC : subIn K (.ref C) (.type "BaseException") = some true)
    (tyC : typeIn K (.ref C) = some (.type "type")) (ga : findIn K (.ref C) "__getattribute__" = some (some (.builtin "BaseException.__getattribute__"))) (gg : findIn K (.ref C) "__getattr__" = some none) (hdC : hasDictIn K C = true)
    (l1 : K.lookup fI = some ⟨oc, od, .func (ksFn "__init__" q (L2.defArgs st) (L2.defBody st) (L2.defScope st) .none .none doc pm an (.ref cda) ct cc), osl⟩) (c1 : codeIn K (.ref cda) q = true)
    (l2 : K.lookup cda = some ⟨ccl, cdd, .fields vs, ccs⟩) (v2 : vs[2]? = some (.str file tf)) (fe : ((P.main.file : Str) == file) = true) (l3 : K.lookup cc = some ⟨cl, cld, .cell (some (.ref C)), csl⟩)
    (sg : nsIn K mainGlobals "super" = some none) (top : (P.main.scope.names.lookup ("super" : Str)).isSome = false) : ErrCls P K C D fI q st :=
  ⟨⟨nm, qq, N, bs, sn, sub, ab, col, dd, k0, k1, k2, k3, k5, xL⟩, sup, opq, exI, slf, sa, iC, tC, kC, exC, tyC, ga, gg, hdC, ⟨oc, ccl, cl, od, an, cdd, cld, doc, pm, ct, osl, ccs, csl, cda, cc, vs, file, tf, l1, c1, l2, v2, fe, l3⟩, sg, top⟩
/-- the base of the errors: its own line has no __init__ -/
theorem along_mk {K : Frag} {D : Addr} {nm qq : Str} {N : Addr} {bs : List Value} {sn sub ab col : _} {hd : Bool} {dd : Option Addr} {k0 k1 k2 k3 k5 : Option Value} {mk : String}
    (xD : K.lookup D = some (excClassObj nm qq D N bs [.type "Exception", .type "BaseException", .type "object"] hd sn sub ab col dd k0 k1 k2 k3 k5 mk)) (fD : findIn K (.ref D) "__init__" = some (some (.builtin "Exception.__init__"))) :
    alongIn K "__init__" (errTail D) = some (some (.builtin "Exception.__init__")) := by
  have e : findIn K (.ref D) "__init__" = alongIn K "__init__" (errTail D) := by
    show (match K.lookup D with
      | some ⟨_, _, .cls cd, _⟩ => alongIn K "__init__" cd.mro
      | _ => none) = _
    rw [xD]
  exact e ▸ fD
theorem globI_mk {K : Frag} {h : Heap} {mg : Str → Option Value} {x : Str} {i j : Int} {t : Tok} (X : K.In h) (G : h.Ns mainGlobals mg) (a : nsIn K mainGlobals x = some (some (.int j t))) (e : j = i) : GlobI mg x i :=
  ⟨t, by rw [← e]; exact mg_of X G a⟩
/-- except X catches an error of the class X itself -/
theorem exm_me {K : Frag} {S : Addr} (h1 : subIn K (.ref S) (.type "BaseException") = some true) (h2 : isClsIn K S = true) (h3 : typeIn K (.ref S) = some (.type "type")) (h4 : subIn K (.ref S) (.ref S) = some true) : exmOne K (.ref S) (.ref S) = some true := by
  have a1 : (subIn K (.ref S) (.type "BaseException") == some true) = true := by rw [h1] <;> rfl
  have a3 : (clsIn K S).isSome = true := h2
  have a2 : ((clsIn K S).isSome && typeIn K (.ref S) == some (.type "type")) = true := by rw [a3, h3] <;> rfl
  show (if (subIn K (.ref S) (.type "BaseException") == some true) = true then (if ((clsIn K S).isSome && typeIn K (.ref S) == some (.type "type")) = true then subIn K (.ref S) (.ref S) else none) else none) = some true
  rw [if_pos a1, if_pos a2, h4]
theorem errN1_mk {P : Program} {K : Frag} {h : Heap} {mg : Str → Option Value} {x f : Str} {C D fI : Addr} {q : Str} {st : Stmt} (X : K.In h) (G : h.Ns mainGlobals mg) (aC : nsIn K mainGlobals x = some (some (.ref C))) (T : ErrCls P K C D fI q st)
    (nf : findIn K (.ref C) f = some none) (h1 : ErrCls P K C D fI q st → findIn K (.ref C) f = some none → Err1 P K C D fI q st f) : ErrN1 P K mg x C f :=
  ⟨mg_of X G aC, ⟨D, fI, q, st, h1 T nf⟩, mg_none_of X G T.sn⟩
theorem errN2_mk {P : Program} {K : Frag} {h : Heap} {mg : Str → Option Value} {x f f2 : Str} {C D fI : Addr} {q : Str} {st : Stmt} (X : K.In h) (G : h.Ns mainGlobals mg) (aC : nsIn K mainGlobals x = some (some (.ref C))) (T : ErrCls P K C D fI q st)
    (nf : findIn K (.ref C) f = some none) (nf2 : findIn K (.ref C) f2 = some none) (h1 : ErrCls P K C D fI q st → findIn K (.ref C) f = some none → findIn K (.ref C) f2 = some none → Err2 P K C D fI q st f f2) : ErrN2 P K mg x C f f2 :=
  ⟨mg_of X G aC, ⟨D, fI, q, st, h1 T nf nf2⟩, mg_none_of X G T.sn⟩
/-- law's Fun, by letters -/
theorem law_fun {K : Frag} {h : Heap} {mg : Str → Option Value} {st : Stmt} {f fa : Addr} {oc kV dc pm cd ct : Value} {od an : Option Addr} {sl : Array (Option Value)} (X : K.In h) (G : h.Ns mainGlobals mg) (hfa : mg "law" = some (.ref fa))
    (a : nsIn K mainGlobals "law" = some (some (.ref f))) (l : K.lookup f = some ⟨oc, od, .func (fnOf "law" "law" (L2.defArgs st) (L2.defBody st) (L2.defScope st) .none kV dc pm an cd ct), sl⟩) (c : codeIn K cd "law" = true) (k : keepIn K (.ref f) = true)
    (b : ∀ (kV doc pm : Value) (an : Option Addr) (cdv ct u : Value) (s : Shared), BindsTo s (fnOf "law" "law" (L2.defArgs st) (L2.defBody st) (L2.defScope st) .none kV doc pm an cdv ct) ⟨[u], []⟩ [("script", u)]) :
    ∃ fd, L2.Fun K "law" "law" st fa fd ∧ ∀ (s : Shared) (u : Value), BindsTo s fd ⟨[u], []⟩ [("script", u)] := by
  have e := hfa.symm.trans (mg_of X G a)
  cases e
  exact ⟨_, L2.fun_mk l c k, fun s u => b _ _ _ _ _ _ u s⟩
end Py
end
section
set_option Elab.async false
set_option linter.all false
set_option maxRecDepth 100000
/-! Tools for the pure side. -/
namespace Py
open PySem L2

theorem var_at {i : Nat} {sl : List Slot} {S : List Int} {Q : PQ} {E : PXQ} {d : D} (h : sl[i]? = some (.dat d)) : pVar i sl S Q E = Q (.dat d) S := by unfold pVar; rw [h]
/-- a loop by an invariant: what comes behind is any N -/
theorem forRun_ind {tg : PGx} {body : PSm} {P : PEnds} (Iv : Nat → List Slot → List Int → Prop) {ds : List D}
    (step : ∀ i d sl S (N : List Slot → List Int → Prop), ds[i]? = some d → Iv i sl S → (∀ sl' S', Iv (i + 1) sl' S' → N sl' S') → tg (.dat d) sl S fun sl1 S1 => body { P with nx := N, ct := N, bk := P.nx } sl1 S1)
    (done : ∀ sl S, Iv ds.length sl S → P.nx sl S) : ∀ (j : Nat) sl S, j ≤ ds.length → Iv j sl S → forRun tg body P (ds.drop j) sl S := by
  intro j sl S hj h
  generalize hm : ds.length - j = m
  induction m generalizing j sl S with
  | zero =>
    have e : j = ds.length := by omega
    subst e
    rw [List.drop_length]
    exact done sl S h
  | succ m ih =>
    have hlt : j < ds.length := by omega
    rw [List.drop_eq_getElem_cons hlt]
    refine step j ds[j] sl S _ (List.getElem?_eq_getElem hlt) h fun sl' S' h' => ih (j + 1) sl' S' (by omega) h' (by omega)
theorem for_ind {tg : PGx} {body : PSm} {P : PEnds} {ds : List D} {sl : List Slot} {S : List Int} (Iv : Nat → List Slot → List Int → Prop) (h0 : Iv 0 sl S)
    (step : ∀ i d sl S (N : List Slot → List Int → Prop), ds[i]? = some d → Iv i sl S → (∀ sl' S', Iv (i + 1) sl' S' → N sl' S') → tg (.dat d) sl S fun sl1 S1 => body { P with nx := N, ct := N, bk := P.nx } sl1 S1)
    (done : ∀ sl S, Iv ds.length sl S → P.nx sl S) : forRun tg body P ds sl S := forRun_ind Iv step done 0 sl S (Nat.zero_le _) h0
theorem while_ind {c : PTx} {body : PSm} {P : PEnds} {sl : List Slot} {S : List Int} (Iv : Nat → List Slot → List Int → Prop) (m0 : Nat) (h0 : Iv m0 sl S)
    (step : ∀ m sl S (N : List Slot → List Int → Prop), Iv m sl S → (∀ m2 sl2 S2, m2 < m → Iv m2 sl2 S2 → N sl2 S2) → c sl S (fun b S1 => if b = true then body { P with nx := N, ct := N, bk := P.nx } sl S1 else P.nx sl S1) (fun x S1 => P.ex x sl S1)) : pWhile c body P sl S :=
  ⟨Iv, ⟨m0, h0⟩, fun m sl S h => step m sl S _ h fun m2 sl2 S2 lt h2 => ⟨m2, lt, h2⟩⟩
/-- a comprehension: each item's value by a relation; the draws may go on -/
theorem lc_ind {i : Nat} {pe : PEx} {sl : List Slot} (Pd : D → D → Prop) : ∀ {ds : List D} {S : List Int} {Q : List D → List Int → Prop},
    (∀ d ∈ ds, ∀ (S : List Int) (N : D → List Int → Prop), (∀ y S', Pd d y → N y S') → dat pe (sl.set i (.dat d)) S N fun _ _ => False) → (∀ ys S', Paired Pd ds ys → Q ys S') → lcRun i pYes pe ds sl S Q
  | [], S, Q, _, q => q [] S .nil
  | d :: ds, S, Q, h, q => by
    simp only [lcRun, pYes, if_true]
    refine h d (by simp) S _ fun y S' hy => ?_
    exact lc_ind Pd (fun d' hd => h d' (by simp [hd])) fun ys S'' hp => q (y :: ys) S'' (.cons hy hp)
theorem lc_pair {α : Type} {i : Nat} {pe : PEx} {sl : List Slot} {R : D → α → Prop} (g : α → D) : ∀ {ds : List D} {ms : List α} {S : List Int} {Q : List D → List Int → Prop}, Paired R ds ms →
    (∀ d m, R d m → m ∈ ms → ∀ N : D → List Int → Prop, N (g m) S → dat pe (sl.set i (.dat d)) S N fun _ _ => False) → Q (ms.map g) S → lcRun i pYes pe ds sl S Q
  | _, _, S, Q, .nil, _, q => q
  | _, _, S, Q, .cons (b := m) h r, hs, q => by
    simp only [lcRun, pYes, if_true]
    refine hs _ m h (by simp) _ ?_
    exact lc_pair g r (fun d m' hd hm => hs d m' hd (by simp [hm])) q
theorem lc_draw {α : Type} {i : Nat} {pe : PEx} {sl : List Slot} {R T : D → α → Prop} : ∀ {ds : List D} {ms : List α} {S : List Int} {Q : List D → List Int → Prop}, Paired R ds ms →
    (∀ d m, R d m → m ∈ ms → ∀ (S : List Int) (N : D → List Int → Prop), (∀ y S', T y m → N y S') → dat pe (sl.set i (.dat d)) S N fun _ _ => False) → (∀ ys S', Paired T ys ms → Q ys S') → lcRun i pYes pe ds sl S Q
  | _, _, S, Q, .nil, _, q => q _ _ .nil
  | _, _, S, Q, .cons (b := m) h r, hs, q => by
    simp only [lcRun, pYes, if_true]
    refine hs _ m h (by simp) _ _ fun y S' hy => ?_
    exact lc_draw r (fun d m' hd hm => hs d m' hd (by simp [hm])) fun ys S'' hp => q (y :: ys) S'' (.cons hy hp)
theorem paired_snoc {α β : Type} {R : α → β → Prop} {x : α} {y : β} (h : R x y) : ∀ {xs : List α} {ys : List β}, Paired R xs ys → Paired R (xs ++ [x]) (ys ++ [y])
  | _, _, .nil => .cons h .nil
  | _, _, .cons h2 r => .cons h2 (paired_snoc h r)
theorem paired_get {α β : Type} {R : α → β → Prop} : ∀ {xs : List α} {ys : List β} {i : Nat} {x : α}, Paired R xs ys → xs[i]? = some x → ∃ y, ys[i]? = some y ∧ R x y
  | _, _, _, _, .nil, e => by simp at e
  | _, _, 0, _, .cons h _, e => by simp at e; subst e; exact ⟨_, rfl, h⟩
  | _, _, i + 1, x, .cons _ r, e => by
    obtain ⟨y, h1, h2⟩ := paired_get (i := i) (x := x) r (by simpa using e)
    exact ⟨y, by simpa using h1, h2⟩
theorem take_snoc {α : Type} {xs : List α} {i : Nat} {x : α} (h : xs[i]? = some x) : xs.take (i + 1) = xs.take i ++ [x] := by
  rw [List.take_add_one, h]
  rfl
theorem paired_map {α β : Type} {R : α → β → Prop} {f : β → α} (h : ∀ b, R (f b) b) : ∀ ys : List β, Paired R (ys.map f) ys
  | [] => .nil
  | y :: r => .cons (h y) (paired_map h r)
theorem paired_rng : ∀ (n k : Nat), Paired (fun d (j : Nat) => d = D.int j) ((List.range' k n).map fun i => D.int ((0 : Int) + (i : Nat) * 1)) (List.range' k n)
  | 0, k => .nil
  | n + 1, k => by
    rw [List.range'_succ]
    exact .cons (by simp) (paired_rng n (k + 1))
theorem lc_rng {i n : Nat} {pe : PEx} {sl : List Slot} (g : Nat → D) {S : List Int} {Q : List D → List Int → Prop}
    (h : ∀ j, j < n → ∀ N : D → List Int → Prop, N (g j) S → dat pe (sl.set i (.dat (.int j))) S N fun _ _ => False) (q : Q ((List.range n).map g) S) : lcRun i pYes pe (rng 0 1 n) sl S Q := by
  have p := paired_rng n 0
  rw [← List.range_eq_range'] at p
  exact lc_pair g p (fun d j hd hj => by subst hd; exact h j (List.mem_range.mp hj)) q
/-- without draws, by a function -/
theorem lc_map {i : Nat} {pe : PEx} {sl : List Slot} (f : D → D) : ∀ {ds : List D} {S : List Int} {Q : List D → List Int → Prop},
    (∀ d ∈ ds, ∀ (N : D → List Int → Prop), N (f d) S → dat pe (sl.set i (.dat d)) S N fun _ _ => False) → Q (ds.map f) S → lcRun i pYes pe ds sl S Q
  | [], S, Q, _, q => q
  | d :: ds, S, Q, h, q => by
    simp only [lcRun, pYes, if_true]
    refine h d (by simp) _ ?_
    exact lc_map f (fun d' hd => h d' (by simp [hd])) q
end Py
end
section
set_option Elab.async false
set_option linter.all false
/-! Sums and determinants over the rationals, by columns. -/
namespace LA

def sumN : Nat → (Nat → Rat) → Rat
  | 0, _ => 0
  | n + 1, f => sumN n f + f n
theorem sumN_congr {f g : Nat → Rat} : ∀ {n : Nat}, (∀ i, i < n → f i = g i) → sumN n f = sumN n g
  | 0, _ => rfl
  | n + 1, h => by
    show sumN n f + f n = sumN n g + g n
    rw [sumN_congr fun i hi => h i (Nat.lt_succ_of_lt hi), h n (Nat.lt_succ_self n)]
theorem sumN_zero : ∀ {n : Nat} {f : Nat → Rat}, (∀ i, i < n → f i = 0) → sumN n f = 0
  | 0, _, _ => rfl
  | n + 1, f, h => by
    show sumN n f + f n = 0
    rw [sumN_zero fun i hi => h i (Nat.lt_succ_of_lt hi), h n (Nat.lt_succ_self n)]
    grind
theorem sumN_add (f g : Nat → Rat) (t : Rat) : ∀ n, sumN n (fun i => f i + t * g i) = sumN n f + t * sumN n g
  | 0 => by show (0 : Rat) = 0 + t * 0; grind
  | n + 1 => by
    show sumN n (fun i => f i + t * g i) + (f n + t * g n) = sumN n f + f n + t * (sumN n g + g n)
    rw [sumN_add f g t n]
    grind
theorem sumN_mul (t : Rat) (f : Nat → Rat) : ∀ n, sumN n (fun i => t * f i) = t * sumN n f
  | 0 => by show (0 : Rat) = t * 0; grind
  | n + 1 => by
    show sumN n (fun i => t * f i) + t * f n = t * (sumN n f + f n)
    rw [sumN_mul t f n]
    grind
theorem sumN_one {n k : Nat} {f : Nat → Rat} (hk : k < n) (h : ∀ i, i < n → i ≠ k → f i = 0) : sumN n f = f k := by
  induction n with
  | zero => omega
  | succ n ih =>
    show sumN n f + f n = f k
    by_cases e : k = n
    · subst e
      rw [sumN_zero fun i hi => h i (Nat.lt_succ_of_lt hi) (Nat.ne_of_lt hi)]
      grind
    · rw [ih (by omega) fun i hi hn => h i (Nat.lt_succ_of_lt hi) hn, h n (Nat.lt_succ_self n) (fun z => e z.symm)]
      grind
theorem sumN_swap (f : Nat → Nat → Rat) (m : Nat) : ∀ n, sumN n (fun i => sumN m (fun j => f i j)) = sumN m (fun j => sumN n (fun i => f i j))
  | 0 => by
    exact (sumN_zero fun j _ => rfl).symm
  | n + 1 => by
    show sumN n (fun i => sumN m (fun j => f i j)) + sumN m (fun j => f n j) = sumN m (fun j => sumN n (fun i => f i j) + f n j)
    rw [sumN_swap f m n]
    have := sumN_add (fun j => sumN n (fun i => f i j)) (fun j => f n j) 1 m
    have e : (fun i => sumN n (fun i_1 => f i_1 i) + 1 * f n i) = fun j => sumN n (fun i => f i j) + f n j := by
      funext j
      grind
    rw [e] at this
    rw [this]
    grind
/-- the pairs i ≤ j against the pairs (j + 1, i) -/
theorem sumN_pair {f : Nat → Nat → Rat} : ∀ {n : Nat}, (∀ i j, i ≤ j → j < n → f i j + f (j + 1) i = 0) → sumN (n + 1) (fun i => sumN n (fun j => f i j)) = 0
  | 0, _ => by
    show (0 : Rat) + 0 = 0
    grind
  | n + 1, h => by
    have ih := sumN_pair (f := f) (n := n) fun i j h1 h2 => h i j h1 (Nat.lt_succ_of_lt h2)
    -- the last column, the last row
    have e1 : sumN (n + 1) (fun i => sumN (n + 1) (fun j => f i j)) = sumN (n + 1) (fun i => sumN n (fun j => f i j)) + sumN (n + 1) (fun i => f i n) := by
      have := sumN_add (fun i => sumN n (fun j => f i j)) (fun i => f i n) 1 (n + 1)
      have e : (fun i => sumN n (fun j => f i j) + 1 * f i n) = fun i => sumN (n + 1) (fun j => f i j) := by
        funext i
        show _ = sumN n (fun j => f i j) + f i n
        grind
      rw [e] at this
      rw [this]
      grind
    have e2 : sumN (n + 1) (fun i => f i n) + sumN (n + 1) (fun j => f (n + 1) j) = 0 := by
      have := sumN_add (fun i => f i n) (fun j => f (n + 1) j) 1 (n + 1)
      rw [sumN_zero fun i hi => by have := h i n (by omega) (by omega); grind] at this
      grind
    show sumN (n + 1) (fun i => sumN (n + 1) (fun j => f i j)) + sumN (n + 1) (fun j => f (n + 1) j) = 0
    rw [e1, ih]
    grind

def skip (i a : Nat) : Nat := if a < i then a else a + 1
theorem skip_lt {i a k : Nat} (ha : a < k) : skip i a < k + 1 := by unfold skip; split <;> omega
theorem skip_skip {i j a : Nat} (h : i ≤ j) : skip i (skip j a) = skip (j + 1) (skip i a) := by
  unfold skip
  repeat' split
  all_goals omega
def sg (n : Nat) : Rat := if n % 2 = 0 then 1 else -1
theorem sg_succ (n : Nat) : sg (n + 1) = - sg n := by
  unfold sg
  by_cases h : n % 2 = 0
  · rw [if_pos h, if_neg (by omega)]
  · rw [if_neg h, if_pos (by omega)]
    grind
theorem sg_two (n : Nat) : sg (n + n) = 1 := by
  unfold sg
  rw [if_pos (by omega)]
abbrev Mat := Nat → Nat → Rat
def det : Nat → Mat → Rat
  | 0, _ => 1
  | k + 1, A => sumN (k + 1) fun i => sg (i + k) * A i k * det k (fun a b => A (skip i a) b)
theorem det_congr : ∀ {k : Nat} {A B : Mat}, (∀ a b, a < k → b < k → A a b = B a b) → det k A = det k B
  | 0, _, _, _ => rfl
  | k + 1, A, B, h => sumN_congr fun i hi => by
    rw [h i k hi (Nat.lt_succ_self k), det_congr fun a b ha hb => h (skip i a) b (skip_lt ha) (Nat.lt_succ_of_lt hb)]
def setc (A : Mat) (b : Nat) (u : Nat → Rat) : Mat := fun a j => if j = b then u a else A a j
theorem det_add (u v : Nat → Rat) (t : Rat) : ∀ {k : Nat} {A : Mat} {b : Nat}, b < k → det k (setc A b fun a => u a + t * v a) = det k (setc A b u) + t * det k (setc A b v)
  | 0, _, _, h => by omega
  | k + 1, A, b, h => by
    show sumN (k + 1) (fun i => sg (i + k) * setc A b (fun a => u a + t * v a) i k * det k (fun a j => setc A b (fun a => u a + t * v a) (skip i a) j)) = sumN (k + 1) (fun i => sg (i + k) * setc A b u i k * det k (fun a j => setc A b u (skip i a) j)) + t * sumN (k + 1) (fun i => sg (i + k) * setc A b v i k * det k (fun a j => setc A b v (skip i a) j))
    rw [← sumN_add]
    refine sumN_congr fun i hi => ?_
    by_cases e : b = k
    · subst e
      have m : ∀ w : Nat → Rat, det b (fun a j => setc A b w (skip i a) j) = det b (fun a j => A (skip i a) j) := fun w => det_congr fun a j _ hj => by
        unfold setc
        rw [if_neg (by omega)]
      rw [m, m, m]
      have s : ∀ w : Nat → Rat, setc A b w i b = w i := fun w => if_pos rfl
      rw [s, s, s]
      grind
    · have s : ∀ w : Nat → Rat, setc A b w i k = A i k := fun w => if_neg (fun z => e z.symm)
      rw [s, s, s]
      have m : ∀ w : Nat → Rat, (fun a j => setc A b w (skip i a) j) = setc (fun a j => A (skip i a) j) b (fun a => w (skip i a)) := fun w => rfl
      rw [m, m, m]
      have ih := det_add (fun a => u (skip i a)) (fun a => v (skip i a)) t (k := k) (A := fun a j => A (skip i a) j) (b := b) (by omega)
      rw [ih]
      grind
theorem setc_self (A : Mat) (b : Nat) : setc A b (fun a => A a b) = A := by
  funext a j
  unfold setc
  split
  · rename_i e; rw [e]
  · rfl
theorem setc_comm (A : Mat) {b c : Nat} (h : b ≠ c) (u v : Nat → Rat) : setc (setc A b u) c v = setc (setc A c v) b u := by
  funext a j
  unfold setc
  by_cases h1 : j = c
  · rw [if_pos h1, if_neg (by omega), if_pos h1]
  · rw [if_neg h1]
    by_cases h2 : j = b
    · rw [if_pos h2, if_pos h2]
    · rw [if_neg h2, if_neg h2, if_neg h1]
theorem det_col0 {k : Nat} {A : Mat} {b : Nat} (h : b < k) : det k (setc A b fun _ => 0) = 0 := by
  have e := det_add (fun _ => 0) (fun _ => 0) 1 (A := A) h
  have z : (fun _ : Nat => (0 : Rat) + 1 * 0) = fun _ => 0 := by funext a; grind
  rw [z] at e
  grind
/-- where two equal columns make 0, two exchanged ones change the sign -/
theorem det_asym {k : Nat} (alt : ∀ (B : Mat) (l m : Nat), l < m → m < k → (∀ a, a < k → B a l = B a m) → det k B = 0) {A : Mat} {l m : Nat} (hl : l < m) (hm : m < k) : det k (setc (setc A l fun a => A a m) m fun a => A a l) = - det k A := by
  have hlm : l ≠ m := Nat.ne_of_lt hl
  have hl' : l < k := Nat.lt_trans hl hm
  have eq : ∀ w : Nat → Rat, det k (setc (setc A l w) m w) = 0 := fun w => alt _ l m hl hm fun a _ => by
    unfold setc
    rw [if_neg hlm, if_pos rfl, if_pos rfl]
  have first : ∀ u v w : Nat → Rat, det k (setc (setc A l fun a => u a + 1 * v a) m w) = det k (setc (setc A l u) m w) + 1 * det k (setc (setc A l v) m w) := fun u v w => by
    rw [setc_comm A hlm, setc_comm A hlm, setc_comm A hlm]
    exact det_add u v 1 hl'
  have h0 := eq fun a => A a l + 1 * A a m
  rw [first, det_add _ _ 1 hm, det_add _ _ 1 hm, eq, eq, setc_self A l] at h0
  have e1 : det k (setc A m fun a => A a m) = det k A := by rw [setc_self]
  rw [e1] at h0
  grind
theorem det_alt : ∀ (k : Nat) (A : Mat) (l m : Nat), l < m → m < k → (∀ a, a < k → A a l = A a m) → det k A = 0
  | 0, _, _, _, _, h, _ => by omega
  | k + 1, A, l, m, hl, hm, he => by
    have ih := det_alt k
    by_cases e : m < k
    · refine sumN_zero fun i hi => ?_
      rw [ih _ l m hl e fun a ha => he _ (skip_lt ha)]
      grind
    · have e : m = k := by omega
      subst e
      -- next to each other
      have near : ∀ (n : Nat) (B : Mat), m = n + 1 → (∀ a, a < m + 1 → B a n = B a m) → det (m + 1) B = 0 := fun n B hn hB => by
        subst hn
        show sumN (n + 2) (fun i => sg (i + (n + 1)) * B i (n + 1) * sumN (n + 1) (fun j => sg (j + n) * B (skip i j) n * det n (fun a b => B (skip i (skip j a)) b))) = 0
        have z := sumN_pair (f := fun i j => sg (i + (n + 1)) * B i (n + 1) * (sg (j + n) * B (skip i j) n * det n (fun a b => B (skip i (skip j a)) b))) (n := n + 1) fun i j hij hj => by
          have s1 : skip i j = j + 1 := by unfold skip; rw [if_neg (by omega)]
          have s2 : skip (j + 1) i = i := by unfold skip; rw [if_pos (by omega)]
          have s3 : (fun a b => B (skip i (skip j a)) b) = fun a b => B (skip (j + 1) (skip i a)) b := by
            funext a b
            rw [skip_skip hij]
          rw [s3, s1, s2]
          have b1 := hB i (by omega)
          have b2 := hB (j + 1) (by omega)
          have g1 : sg (i + (n + 1)) = - sg (i + n) := sg_succ (i + n)
          have g2 : sg (j + 1 + (n + 1)) = sg (j + n) := by
            have : j + 1 + (n + 1) = j + n + 1 + 1 := by omega
            rw [this, sg_succ, sg_succ]
            grind
          rw [g1, g2, b1, b2]
          grind
        rw [← z]
        refine sumN_congr fun i _ => ?_
        rw [← sumN_mul]
      by_cases e2 : l + 1 = m
      · exact near l A e2.symm he
      · -- l is brought next to m
        obtain ⟨n, hn⟩ : ∃ n, m = n + 1 := ⟨m - 1, by omega⟩
        have hln : l < n := by omega
        have hB : det (m + 1) (setc (setc A l fun a => A a n) n fun a => A a l) = 0 := near n _ hn fun a ha => by
          have := he a ha
          unfold setc
          rw [if_pos rfl, if_neg (by omega), if_neg (by omega)]
          exact this
        have hs : det (m + 1) (setc (setc A l fun a => A a n) n fun a => A a l) = - det (m + 1) A := by
          show sumN (m + 1) (fun i => sg (i + m) * setc (setc A l fun a => A a n) n (fun a => A a l) i m * det m (fun a b => setc (setc A l fun a => A a n) n (fun a => A a l) (skip i a) b)) = - sumN (m + 1) (fun i => sg (i + m) * A i m * det m (fun a b => A (skip i a) b))
          have neg : - sumN (m + 1) (fun i => sg (i + m) * A i m * det m (fun a b => A (skip i a) b)) = sumN (m + 1) (fun i => (-1) * (sg (i + m) * A i m * det m (fun a b => A (skip i a) b))) := by
            rw [sumN_mul]
            grind
          rw [neg]
          refine sumN_congr fun i hi => ?_
          have c : setc (setc A l fun a => A a n) n (fun a => A a l) i m = A i m := by
            unfold setc
            rw [if_neg (by omega), if_neg (by omega)]
          have d : det m (fun a b => setc (setc A l fun a => A a n) n (fun a => A a l) (skip i a) b) = - det m (fun a b => A (skip i a) b) :=
            det_asym ih (A := fun a b => A (skip i a) b) hln (by omega)
          rw [c, d]
          grind
        rw [hB] at hs
        grind
theorem det_sum {k : Nat} {A : Mat} {b : Nat} (hb : b < k) (x : Nat → Rat) (C : Nat → Nat → Rat) : ∀ n, det k (setc A b fun a => sumN n fun t => x t * C t a) = sumN n fun t => x t * det k (setc A b (C t))
  | 0 => det_col0 hb
  | n + 1 => by
    show det k (setc A b fun a => sumN n (fun t => x t * C t a) + x n * C n a) = sumN n (fun t => x t * det k (setc A b (C t))) + x n * det k (setc A b (C n))
    rw [det_add _ _ _ hb, det_sum hb x C n]
/-- a column replaced by the sum of the columns, by weights -/
theorem det_cramer {k : Nat} {A : Mat} {b : Nat} (hb : b < k) (x : Nat → Rat) : det k (setc A b fun a => sumN k fun t => x t * A a t) = x b * det k A := by
  rw [det_sum hb x (fun t a => A a t) k, sumN_one hb]
  · rw [setc_self]
  · intro t ht hn
    have z : det k (setc A b fun a => A a t) = 0 := by
      rcases Nat.lt_or_gt_of_ne hn with h | h
      · exact det_alt k _ t b h hb fun a _ => by unfold setc; rw [if_neg hn, if_pos rfl]
      · exact det_alt k _ b t h ht fun a _ => by unfold setc; rw [if_neg hn, if_pos rfl]
    rw [z]
    grind
/-- the last column, less a sum of those ahead -/
theorem det_last {k : Nat} {A : Mat} (y : Nat → Rat) : det (k + 1) A = det (k + 1) (setc A k fun a => A a k + (-1) * sumN k fun t => y t * A a t) := by
  rw [det_add _ _ _ (Nat.lt_succ_self k), setc_self, det_sum (Nat.lt_succ_self k) y (fun t a => A a t) k, sumN_zero fun t ht => by
    rw [det_alt (k + 1) _ t k ht (Nat.lt_succ_self k) fun a _ => by unfold setc; rw [if_neg (Nat.ne_of_lt ht), if_pos rfl]]
    grind]
  grind
/-- .. that is 0 but at the foot -/
theorem det_foot {k : Nat} {A : Mat} (h : ∀ a, a < k → A a k = 0) : det (k + 1) A = A k k * det k A := by
  show sumN (k + 1) (fun i => sg (i + k) * A i k * det k (fun a b => A (skip i a) b)) = _
  rw [sumN_one (Nat.lt_succ_self k) fun i hi hn => by rw [h i (by omega)]; grind, sg_two]
  have : det k (fun a b => A (skip k a) b) = det k A := det_congr fun a b ha _ => by unfold skip; rw [if_pos ha]
  rw [this]
  grind
/-! whole numbers -/
def sgZ (n : Nat) : Int := if n % 2 = 0 then 1 else -1
def sumZ : Nat → (Nat → Int) → Int
  | 0, _ => 0
  | n + 1, f => sumZ n f + f n
def detZ : Nat → (Nat → Nat → Int) → Int
  | 0, _ => 1
  | k + 1, A => sumZ (k + 1) fun i => sgZ (i + k) * A i k * detZ k (fun a b => A (skip i a) b)
theorem sumZ_cast : ∀ (n : Nat) (f : Nat → Int), ((sumZ n f : Int) : Rat) = sumN n fun i => (f i : Rat)
  | 0, _ => rfl
  | n + 1, f => by
    show ((sumZ n f + f n : Int) : Rat) = sumN n (fun i => (f i : Rat)) + f n
    rw [Rat.intCast_add, sumZ_cast n f]
theorem detZ_cast : ∀ (k : Nat) (A : Nat → Nat → Int), ((detZ k A : Int) : Rat) = det k fun a b => (A a b : Rat)
  | 0, _ => rfl
  | k + 1, A => by
    show ((sumZ (k + 1) fun i => sgZ (i + k) * A i k * detZ k (fun a b => A (skip i a) b) : Int) : Rat) = sumN (k + 1) fun i => sg (i + k) * (A i k : Rat) * det k (fun a b => ((A (skip i a) b : Int) : Rat))
    rw [sumZ_cast]
    refine sumN_congr fun i _ => ?_
    rw [Rat.intCast_mul, Rat.intCast_mul, detZ_cast k]
    have : ((sgZ (i + k) : Int) : Rat) = sg (i + k) := by
      unfold sgZ sg
      split <;> rfl
    rw [this]
theorem sumZ_le {B : Nat} : ∀ {n : Nat} {f : Nat → Int}, (∀ i, i < n → (f i).natAbs ≤ B) → (sumZ n f).natAbs ≤ n * B
  | 0, _, _ => by show (0 : Int).natAbs ≤ _; simp
  | n + 1, f, h => by
    show (sumZ n f + f n).natAbs ≤ (n + 1) * B
    have h1 := sumZ_le (f := f) fun i hi => h i (Nat.lt_succ_of_lt hi)
    have h2 := h n (Nat.lt_succ_self n)
    have h3 := Int.natAbs_add_le (sumZ n f) (f n)
    rw [Nat.add_mul, Nat.one_mul]
    omega
def fct : Nat → Nat
  | 0 => 1
  | n + 1 => (n + 1) * fct n
theorem detZ_le {B : Nat} : ∀ {k : Nat} {A : Nat → Nat → Int}, (∀ a b, a < k → b < k → (A a b).natAbs ≤ B) → (detZ k A).natAbs ≤ fct k * B ^ k
  | 0, _, _ => by show (1 : Int).natAbs ≤ 1 * B ^ 0; simp
  | k + 1, A, h => by
    show (sumZ (k + 1) _).natAbs ≤ _
    refine Nat.le_trans (sumZ_le (B := B * (fct k * B ^ k)) fun i hi => ?_) ?_
    · rw [Int.natAbs_mul, Int.natAbs_mul]
      have h1 := h i k hi (Nat.lt_succ_self k)
      have h2 := detZ_le (k := k) (A := fun a b => A (skip i a) b) fun a b ha hb => h _ _ (skip_lt ha) (Nat.lt_succ_of_lt hb)
      have h3 : (sgZ (i + k)).natAbs = 1 := by unfold sgZ; split <;> rfl
      rw [h3, Nat.one_mul]
      exact Nat.mul_le_mul h1 h2
    · show (k + 1) * (B * (fct k * B ^ k)) ≤ (k + 1) * fct k * B ^ (k + 1)
      rw [Nat.pow_succ]
      apply Nat.le_of_eq
      simp [Nat.mul_assoc, Nat.mul_comm, Nat.mul_left_comm]
end LA
end
section
set_option Elab.async false
set_option linter.all false
/-! Ranks by null spaces; fraction free elimination. -/
namespace LA

theorem sumN_skip (f : Nat → Rat) : ∀ {n p : Nat}, p ≤ n → sumN (n + 1) f = sumN n (fun i => f (skip p i)) + f p
  | 0, p, h => by
    have : p = 0 := by omega
    subst this
    rfl
  | n + 1, p, h => by
    show sumN (n + 1) f + f (n + 1) = sumN n (fun i => f (skip p i)) + f (skip p n) + f p
    by_cases e : p ≤ n
    · rw [sumN_skip f e]
      have : skip p n = n + 1 := by unfold skip; rw [if_neg (by omega)]
      rw [this]
      grind
    · have e : p = n + 1 := by omega
      subst e
      have : skip (n + 1) n = n := by unfold skip; rw [if_pos (by omega)]
      rw [this]
      have : sumN n (fun i => f (skip (n + 1) i)) = sumN n f := sumN_congr fun i hi => by unfold skip; rw [if_pos (by omega)]
      rw [this]
      rfl
theorem unskip (p i : Nat) : (if skip p i < p then skip p i else skip p i - 1) = i := by
  unfold skip
  by_cases z : i < p
  · rw [if_pos z, if_pos z]
  · rw [if_neg z, if_neg (by omega)]
    omega
/-- more unknowns than equations -/
theorem many_free : ∀ (k m : Nat) (c : Nat → Nat → Rat), k < m → ∃ d : Nat → Rat, (∃ i, i < m ∧ d i ≠ 0) ∧ ∀ l, l < k → sumN m (fun i => d i * c i l) = 0
  | 0, m, c, h => ⟨fun _ => 1, ⟨0, h, by decide⟩, fun l hl => by omega⟩
  | k + 1, m, c, h => by
    by_cases all : ∀ i, i < m → c i k = 0
    · obtain ⟨d, nz, e⟩ := many_free k m c (by omega)
      refine ⟨d, nz, fun l hl => ?_⟩
      by_cases z : l = k
      · subst z
        exact sumN_zero fun i hi => by rw [all i hi]; grind
      · exact e l (by omega)
    · obtain ⟨p, hp⟩ := Classical.not_forall.mp all
      obtain ⟨hpm, hp⟩ := Classical.not_imp.mp hp
      obtain ⟨n, rfl⟩ : ∃ n, m = n + 1 := ⟨m - 1, by omega⟩
      obtain ⟨d, ⟨i0, hi0, nz⟩, e⟩ := many_free k n (fun i l => c (skip p i) l - c (skip p i) k / c p k * c p l) (by omega)
      let t : Rat := - (sumN n (fun i => d i * c (skip p i) k) / c p k)
      have val : ∀ l, sumN (n + 1) (fun i => (if i = p then t else d (if i < p then i else i - 1)) * c i l) = sumN n (fun i => d i * c (skip p i) l) + t * c p l := fun l => by
        rw [sumN_skip _ (Nat.lt_succ_iff.mp hpm), if_pos rfl]
        have : sumN n (fun i => (if skip p i = p then t else d (if skip p i < p then skip p i else skip p i - 1)) * c (skip p i) l) = sumN n (fun i => d i * c (skip p i) l) := sumN_congr fun i _ => by
          have e1 : skip p i ≠ p := by unfold skip; split <;> omega
          have e2 := unskip p i
          rw [if_neg e1, e2]
        rw [this]
      refine ⟨fun i => if i = p then t else d (if i < p then i else i - 1), ⟨skip p i0, skip_lt hi0, ?_⟩, fun l hl => ?_⟩
      · have e1 : skip p i0 ≠ p := by unfold skip; split <;> omega
        have e2 := unskip p i0
        show (if skip p i0 = p then t else d (if skip p i0 < p then skip p i0 else skip p i0 - 1)) ≠ 0
        rw [if_neg e1, e2]
        exact nz
      · rw [val]
        by_cases z : l = k
        · subst z
          show sumN n (fun i => d i * c (skip p i) l) + - (sumN n (fun i => d i * c (skip p i) l) / c p l) * c p l = 0
          grind
        · have e1 := e l (by omega)
          have e2 : sumN n (fun i => d i * (c (skip p i) l - c (skip p i) k / c p k * c p l)) = sumN n (fun i => d i * c (skip p i) l) + (- (c p l / c p k)) * sumN n (fun i => d i * c (skip p i) k) := by
            rw [← sumN_add]
            refine sumN_congr fun i _ => ?_
            grind
          rw [e2] at e1
          show sumN n (fun i => d i * c (skip p i) l) + - (sumN n (fun i => d i * c (skip p i) k) / c p k) * c p l = 0
          grind

def InN (m n : Nat) (A : Mat) (x : Nat → Rat) : Prop := ∀ r, r < m → sumN n (fun j => A r j * x j) = 0
theorem InN.sum {m n : Nat} {A : Mat} (x : Nat → Rat) (v : Nat → Nat → Rat) (l : Nat) (h : ∀ i, i < l → InN m n A (v i)) : InN m n A (fun j => sumN l fun i => x i * v i j) := fun r hr => by
  have e : (fun j => A r j * sumN l (fun i => x i * v i j)) = fun j => sumN l (fun i => x i * (A r j * v i j)) := by
    funext j
    rw [← sumN_mul]
    refine sumN_congr fun i _ => ?_
    grind
  rw [e, sumN_swap (fun j i => x i * (A r j * v i j)) l n]
  refine sumN_zero fun i hi => ?_
  rw [sumN_mul, h i hi r hr]
  grind
theorem InN.congr {m n : Nat} {A : Mat} {x y : Nat → Rat} (h : InN m n A x) (e : ∀ j, j < n → x j = y j) : InN m n A y := fun r hr => by
  rw [← h r hr]
  exact sumN_congr fun j hj => by rw [e j hj]
structure RkBy (m n : Nat) (A : Mat) (k : Nat) (c : Nat → Nat) : Prop where
  inj : ∀ s t, s < k → t < k → c s = c t → s = t
  lt : ∀ t, t < k → c t < n
  uniq : ∀ x, InN m n A x → (∀ j, j < n → (∀ t, t < k → c t ≠ j) → x j = 0) → ∀ j, j < n → x j = 0
  sol : ∀ f : Nat → Rat, ∃ x, InN m n A x ∧ ∀ j, j < n → (∀ t, t < k → c t ≠ j) → x j = f j
def Rk (m n : Nat) (A : Mat) (k : Nat) : Prop := ∃ c, RkBy m n A k c
theorem Rk.congr {m m' n : Nat} {A A' : Mat} {k : Nat} (h : Rk m n A k) (e : ∀ x, InN m n A x ↔ InN m' n A' x) : Rk m' n A' k := by
  obtain ⟨c, h⟩ := h
  exact ⟨c, h.inj, h.lt, fun x hx => h.uniq x ((e x).mpr hx), fun f => by
    obtain ⟨x, hx, q⟩ := h.sol f
    exact ⟨x, (e x).mp hx, q⟩⟩
theorem Rk.le {m n : Nat} {A : Mat} {k k' : Nat} (h : Rk m n A k) (h' : Rk m n A k') : k' ≤ k := by
  obtain ⟨c, h⟩ := h
  obtain ⟨c', h'⟩ := h'
  rcases Nat.lt_or_ge k k' with lt | ge
  · exfalso
    -- the null vector of each free place
    have vs : ∀ j, ∃ v, InN m n A v ∧ ∀ i, i < n → (∀ t, t < k → c t ≠ i) → v i = if (∀ t, t < k → c t ≠ j) ∧ i = j then 1 else 0 := fun j => by
      obtain ⟨x, hx, q⟩ := h.sol fun i => if (∀ t, t < k → c t ≠ j) ∧ i = j then 1 else 0
      exact ⟨x, hx, q⟩
    let v : Nat → Nat → Rat := fun j => Classical.choose (vs j)
    have vN : ∀ j, InN m n A (v j) := fun j => (Classical.choose_spec (vs j)).1
    have vF : ∀ j i, i < n → (∀ t, t < k → c t ≠ i) → v j i = if (∀ t, t < k → c t ≠ j) ∧ i = j then 1 else 0 := fun j => (Classical.choose_spec (vs j)).2
    obtain ⟨d, ⟨s0, hs0, nz⟩, eq⟩ := many_free k k' (fun s l => (if c' s = c l then 1 else 0) - v (c' s) (c l)) lt
    -- x = sum of d s at c' s
    let x : Nat → Rat := fun j => sumN k' fun s => d s * (if c' s = j then 1 else 0)
    let y : Nat → Rat := fun j => sumN k' fun s => d s * v (c' s) j
    have hy : InN m n A y := InN.sum d (fun s => v (c' s)) k' fun s _ => vN _
    have hxy : ∀ j, j < n → y j = x j := fun j hj => by
      by_cases fr : ∀ t, t < k → c t ≠ j
      · show sumN k' (fun s => d s * v (c' s) j) = sumN k' (fun s => d s * (if c' s = j then 1 else 0))
        refine sumN_congr fun s hs => ?_
        rw [vF (c' s) j hj fr]
        by_cases e : c' s = j
        · rw [if_pos e, if_pos ⟨by rw [e]; exact fr, e.symm⟩]
        · rw [if_neg e, if_neg fun z => e z.2.symm]
      · obtain ⟨t, ht⟩ := Classical.not_forall.mp fr
        obtain ⟨ht, hc⟩ := Classical.not_imp.mp ht
        have hc : c t = j := Classical.not_not.mp hc
        have e1 := eq t ht
        have e2 : sumN k' (fun i => d i * ((if c' i = c t then 1 else 0) - v (c' i) (c t))) = x (c t) + (-1) * y (c t) := by
          show _ = sumN k' (fun s => d s * (if c' s = c t then 1 else 0)) + (-1) * sumN k' (fun s => d s * v (c' s) (c t))
          rw [← sumN_add]
          refine sumN_congr fun s _ => ?_
          grind
        rw [e2] at e1
        rw [← hc]
        grind
    have z := h'.uniq x (hy.congr hxy) fun j hj fr => sumN_zero fun s hs => by
      rw [if_neg (fr s hs)]
      grind
    have z0 := z (c' s0) (h'.lt s0 hs0)
    have : x (c' s0) = d s0 := by
      show sumN k' (fun s => d s * (if c' s = c' s0 then 1 else 0)) = d s0
      rw [sumN_one hs0 fun s hs hn => by rw [if_neg fun e => hn (h'.inj s s0 hs hs0 e)]; grind, if_pos rfl]
      grind
    rw [this] at z0
    exact nz z0
  · exact ge
theorem Rk.eq {m n : Nat} {A : Mat} {k k' : Nat} (h : Rk m n A k) (h' : Rk m n A k') : k = k' := Nat.le_antisymm (h'.le h) (h.le h')

/-! ### Bareiss -/
/-- k pivots: rows 0 .. k - 1 of R, columns c 0 .. c (k - 1); with the row i and the column j -/
def mn (R : Mat) (c : Nat → Nat) (k i j : Nat) : Rat := det (k + 1) fun a b => R (if a < k then a else i) (if b < k then c b else j)
def pv (R : Mat) (c : Nat → Nat) (k : Nat) : Rat := det k fun a b => R a (c b)
/-- every column is a sum of the pivots' ones, in the pivots' rows -/
def Solv (R : Mat) (c : Nat → Nat) (k : Nat) : Prop := ∀ j, ∃ y : Nat → Rat, ∀ a, a < k → R a j = sumN k fun t => y t * R a (c t)
theorem mn_val {R : Mat} {c : Nat → Nat} {k : Nat} {j : Nat} {y : Nat → Rat} (h : ∀ a, a < k → R a j = sumN k fun t => y t * R a (c t)) (i : Nat) :
    mn R c k i j = (R i j - sumN k fun t => y t * R i (c t)) * pv R c k := by
  unfold mn
  rw [det_last y]
  rw [det_foot fun a ha => ?_]
  · have e1 : setc (fun a b => R (if a < k then a else i) (if b < k then c b else j)) k (fun a => R (if a < k then a else i) (if k < k then c k else j) + (-1) * sumN k fun t => y t * R (if a < k then a else i) (if t < k then c t else j)) k k = R i j - sumN k fun t => y t * R i (c t) := by
      unfold setc
      rw [if_pos rfl]
      dsimp only
      rw [if_neg (Nat.lt_irrefl k), if_neg (Nat.lt_irrefl k)]
      have : sumN k (fun t => y t * R i (if t < k then c t else j)) = sumN k (fun t => y t * R i (c t)) := sumN_congr fun t ht => by rw [if_pos ht]
      rw [this]
      grind
    have e2 : det k (setc (fun a b => R (if a < k then a else i) (if b < k then c b else j)) k (fun a => R (if a < k then a else i) (if k < k then c k else j) + (-1) * sumN k fun t => y t * R (if a < k then a else i) (if t < k then c t else j))) = pv R c k := det_congr fun a b ha hb => by
      unfold setc
      rw [if_neg (Nat.ne_of_lt hb)]
      dsimp only
      rw [if_pos ha, if_pos hb]
    rw [e1, e2]
  · unfold setc
    rw [if_pos rfl]
    dsimp only
    rw [if_pos ha, if_neg (Nat.lt_irrefl k), h a ha]
    have : sumN k (fun t => y t * R a (if t < k then c t else j)) = sumN k (fun t => y t * R a (c t)) := sumN_congr fun t ht => by rw [if_pos ht]
    rw [this]
    grind
theorem pv_succ {R : Mat} {c : Nat → Nat} {k : Nat} : pv R c (k + 1) = mn R c k k (c k) := by
  unfold pv mn
  refine det_congr fun a b ha hb => ?_
  have e1 : (if a < k then a else k) = a := by split <;> omega
  have e2 : (if b < k then c b else c k) = c b := by
    split
    · rfl
    · have : b = k := by omega
      rw [this]
  rw [e1, e2]
theorem solv_succ {R : Mat} {c : Nat → Nat} {k : Nat} (h : Solv R c k) (hp : pv R c (k + 1) ≠ 0) : Solv R c (k + 1) := fun j => by
  obtain ⟨y, hy⟩ := h j
  obtain ⟨u, hu⟩ := h (c k)
  have hp2 := mn_val hu k
  rw [← pv_succ] at hp2
  have hS : R k (c k) - sumN k (fun t => u t * R k (c t)) ≠ 0 := fun z => hp (by rw [hp2, z]; grind)
  generalize hq : (R k j - sumN k fun t => y t * R k (c t)) / (R k (c k) - sumN k fun t => u t * R k (c t)) = q
  refine ⟨fun t => if t < k then y t - q * u t else q, fun a ha => ?_⟩
  show R a j = sumN k (fun t => (if t < k then y t - q * u t else q) * R a (c t)) + (if k < k then y k - q * u k else q) * R a (c k)
  rw [if_neg (Nat.lt_irrefl k)]
  have e : sumN k (fun t => (if t < k then y t - q * u t else q) * R a (c t)) = sumN k (fun t => y t * R a (c t)) + (-q) * sumN k (fun t => u t * R a (c t)) := by
    rw [← sumN_add]
    refine sumN_congr fun t ht => ?_
    rw [if_pos ht]
    grind
  rw [e]
  by_cases hk : a < k
  · rw [hy a hk, hu a hk]
    grind
  · have : a = k := by omega
    subst this
    have hq' : q * (R a (c a) - sumN a fun t => u t * R a (c t)) = R a j - sumN a fun t => y t * R a (c t) := by
      rw [← hq]
      grind
    grind
/-- the step -/
theorem bareiss {R : Mat} {c : Nat → Nat} {k i j : Nat} (h : Solv R c k) (hi : k < i) : mn R c k i j * mn R c k k (c k) - mn R c k i (c k) * mn R c k k j = pv R c k * mn R c (k + 1) i j := by
  obtain ⟨y, hy⟩ := h j
  have v1 := mn_val hy i
  have v2 := mn_val hy k
  have key : mn R c (k + 1) i j = (R i j - sumN k fun t => y t * R i (c t)) * mn R c k k (c k) - (R k j - sumN k fun t => y t * R k (c t)) * mn R c k i (c k) := by
    unfold mn
    rw [det_last fun t => if t < k then y t else 0]
    show sumN (k + 2) _ = _
    let B : Mat := setc (fun a b => R (if a < k + 1 then a else i) (if b < k + 1 then c b else j)) (k + 1) fun a => R (if a < k + 1 then a else i) (if k + 1 < k + 1 then c (k + 1) else j) + (-1) * sumN (k + 1) fun t => (if t < k then y t else 0) * R (if a < k + 1 then a else i) (if t < k + 1 then c t else j)
    show sumN (k + 2) (fun r => sg (r + (k + 1)) * B r (k + 1) * det (k + 1) (fun a b => B (skip r a) b)) = _
    have col : ∀ a, B a (k + 1) = R (if a < k + 1 then a else i) j - sumN k fun t => y t * R (if a < k + 1 then a else i) (c t) := fun a => by
      show setc _ (k + 1) _ a (k + 1) = _
      unfold setc
      rw [if_pos rfl]
      dsimp only
      rw [if_neg (Nat.lt_irrefl (k + 1))]
      show _ + (-1) * (sumN k (fun t => (if t < k then y t else 0) * R (if a < k + 1 then a else i) (if t < k + 1 then c t else j)) + (if k < k then y k else 0) * R (if a < k + 1 then a else i) (if k < k + 1 then c k else j)) = _
      rw [if_neg (Nat.lt_irrefl k)]
      have : sumN k (fun t => (if t < k then y t else 0) * R (if a < k + 1 then a else i) (if t < k + 1 then c t else j)) = sumN k (fun t => y t * R (if a < k + 1 then a else i) (c t)) := sumN_congr fun t ht => by rw [if_pos ht, if_pos (Nat.lt_succ_of_lt ht)]
      rw [this]
      grind
    have oth : ∀ a b, b < k + 1 → B a b = R (if a < k + 1 then a else i) (c b) := fun a b hb => by
      show setc _ (k + 1) _ a b = _
      unfold setc
      rw [if_neg (Nat.ne_of_lt hb)]
      dsimp only
      rw [if_pos hb]
    have up : ∀ a, a < k → B a (k + 1) = 0 := fun a ha => by
      rw [col, if_pos (Nat.lt_succ_of_lt ha), hy a ha]
      grind
    show sumN (k + 1) (fun r => sg (r + (k + 1)) * B r (k + 1) * det (k + 1) (fun a b => B (skip r a) b)) + sg (k + 1 + (k + 1)) * B (k + 1) (k + 1) * det (k + 1) (fun a b => B (skip (k + 1) a) b) = _
    rw [sumN_one (Nat.lt_succ_self k) fun r hr hn => by rw [up r (by omega)]; grind, sg_two]
    have s1 : sg (k + (k + 1)) = -1 := by
      have : k + (k + 1) = k + k + 1 := by omega
      rw [this, sg_succ, sg_two]
    rw [s1, col, col, if_pos (Nat.lt_succ_self k), if_neg (Nat.lt_irrefl (k + 1))]
    have d1 : det (k + 1) (fun a b => B (skip k a) b) = det (k + 1) (fun a b => R (if a < k then a else i) (if b < k then c b else c k)) := det_congr fun a b ha hb => by
      rw [oth _ _ hb]
      have e1 : (if skip k a < k + 1 then skip k a else i) = if a < k then a else i := by
        unfold skip
        by_cases z : a < k
        · rw [if_pos z, if_pos z, if_pos (Nat.lt_succ_of_lt z)]
        · rw [if_neg z, if_neg z, if_neg (by omega)]
      have e2 : (if b < k then c b else c k) = c b := by
        split
        · rfl
        · have : b = k := by omega
          rw [this]
      rw [e1, e2]
    have d2 : det (k + 1) (fun a b => B (skip (k + 1) a) b) = det (k + 1) (fun a b => R (if a < k then a else k) (if b < k then c b else c k)) := det_congr fun a b ha hb => by
      rw [oth _ _ hb]
      have e1 : (if skip (k + 1) a < k + 1 then skip (k + 1) a else i) = if a < k then a else k := by
        unfold skip
        rw [if_pos ha, if_pos ha]
        by_cases z : a < k
        · rw [if_pos z]
        · rw [if_neg z]; omega
      have e2 : (if b < k then c b else c k) = c b := by
        split
        · rfl
        · have : b = k := by omega
          rw [this]
      rw [e1, e2]
    rw [d1, d2]
    grind
  rw [key, v1, v2]
  grind
end LA
end
section
set_option Elab.async false
set_option linter.all false
/-! The elimination's steps, by functions. -/
namespace LA
theorem mn_congr {R R' : Mat} {c c' : Nat → Nat} {k i i' : Nat} (hr : ∀ a, a < k → R a = R' a) (hc : ∀ t, t < k → c t = c' t) (hi : R i = R' i') (j : Nat) : mn R c k i j = mn R' c' k i' j := by
  unfold mn
  refine det_congr fun a b ha hb => ?_
  have e1 : R (if a < k then a else i) = R' (if a < k then a else i') := by
    by_cases h : a < k
    · rw [if_pos h, if_pos h, hr a h]
    · rw [if_neg h, if_neg h, hi]
  have e2 : (if b < k then c b else j) = if b < k then c' b else j := by
    by_cases h : b < k
    · rw [if_pos h, if_pos h, hc b h]
    · rw [if_neg h, if_neg h]
  rw [e1, e2]
theorem pv_congr {R R' : Mat} {c c' : Nat → Nat} {k : Nat} (hr : ∀ a, a < k → R a = R' a) (hc : ∀ t, t < k → c t = c' t) : pv R c k = pv R' c' k := det_congr fun a b ha hb => by
  rw [hr a ha, hc b hb]
theorem solv_congr {R R' : Mat} {c c' : Nat → Nat} {k : Nat} (hr : ∀ a, a < k → R a = R' a) (hc : ∀ t, t < k → c t = c' t) (h : Solv R c k) : Solv R' c' k := fun j => by
  obtain ⟨y, hy⟩ := h j
  refine ⟨y, fun a ha => ?_⟩
  rw [← hr a ha, hy a ha]
  exact sumN_congr fun t ht => by rw [hc t ht]
theorem mn_zero (R : Mat) (c : Nat → Nat) (i j : Nat) : mn R c 0 i j = R i j := by
  show (0 : Rat) + sg (0 + 0) * R i j * 1 = R i j
  have : sg (0 + 0) = 1 := rfl
  rw [this]
  grind
theorem pv_zero (R : Mat) (c : Nat → Nat) : pv R c 0 = 1 := rfl
/-- the state of tb_echelon's loop: m rows, w columns, k pivots at c, the columns ahead of col are done; E what stands in left -/
structure St (m w col k : Nat) (R : Mat) (c : Nat → Nat) (E : Nat → Nat → Rat) : Prop where
  few : k ≤ m
  pin : ∀ t, t < k → c t < col
  asc : ∀ s t, s < t → t < k → c s < c t
  slv : Solv R c k
  piv0 : ∀ t, t ≤ k → pv R c t ≠ 0
  val : ∀ i j, i < m → j < w → E i j = mn R c (min i k) i j
  zl : ∀ i j, i < k → j < c i → E i j = 0
  zr : ∀ i j, k ≤ i → i < m → j < col → E i j = 0
theorem St.init {m w : Nat} {R : Mat} {E : Nat → Nat → Rat} (c : Nat → Nat) (h : ∀ i j, i < m → j < w → E i j = R i j) : St m w 0 0 R c E :=
  ⟨Nat.zero_le _, fun _ z => by omega, fun _ _ _ z => by omega, fun j => ⟨fun _ => 0, fun a ha => by omega⟩, fun t ht => by
    have : t = 0 := by omega
    rw [this, pv_zero]
    decide, fun i j hi hj => by rw [Nat.min_zero, mn_zero]; exact h i j hi hj, fun _ _ z => by omega, fun _ _ _ _ z => by omega⟩
theorem St.skip {m w col k : Nat} {R : Mat} {c : Nat → Nat} {E : Nat → Nat → Rat} (s : St m w col k R c E) (h : ∀ i, k ≤ i → i < m → E i col = 0) : St m w (col + 1) k R c E :=
  ⟨s.few, fun t ht => Nat.lt_succ_of_lt (s.pin t ht), s.asc, s.slv, s.piv0, s.val, s.zl, fun i j h1 h2 h3 => by
    by_cases e : j = col
    · rw [e]; exact h i h1 h2
    · exact s.zr i j h1 h2 (by omega)⟩
/-- two rows behind the pivots are exchanged -/
theorem St.swap {m w col k : Nat} {R R' : Mat} {c : Nat → Nat} {E E' : Nat → Nat → Rat} (s : St m w col k R c E) (f : Nat → Nat) (f1 : ∀ a, a < k → f a = a) (f2 : ∀ a, k ≤ a → a < m → k ≤ f a ∧ f a < m) (hR : ∀ a, R' a = R (f a)) (hE : ∀ i, i < m → E' i = E (f i)) : St m w col k R' c E' := by
  have r : ∀ a, a < k → R a = R' a := fun a ha => by rw [hR, f1 a ha]
  refine ⟨s.few, s.pin, s.asc, solv_congr r (fun _ _ => rfl) s.slv, fun t ht => ?_, fun i j hi hj => ?_, fun i j hi hj => ?_, fun i j h1 h2 h3 => ?_⟩
  · rw [← pv_congr (fun a ha => r a (by omega)) fun _ _ => rfl]
    exact s.piv0 t ht
  · rw [hE i hi]
    by_cases h : i < k
    · rw [f1 i h, s.val i j hi hj]
      exact mn_congr (fun a ha => r a (by omega)) (fun _ _ => rfl) (r i h) j
    · obtain ⟨g1, g2⟩ := f2 i (by omega) hi
      rw [s.val (f i) j g2 hj]
      have e1 : min (f i) k = k := by omega
      have e2 : min i k = k := by omega
      rw [e1, e2]
      exact mn_congr r (fun _ _ => rfl) (hR i).symm j
  · have : i < m := Nat.lt_of_lt_of_le hi s.few
    rw [hE i this, f1 i hi]
    exact s.zl i j hi hj
  · rw [hE i h2]
    obtain ⟨g1, g2⟩ := f2 i h1 h2
    exact s.zr (f i) j g1 g2 h3
/-- the row k is the pivots' next one; E' behind it is by the step -/
theorem St.pivot {m w col k : Nat} {R : Mat} {c c' : Nat → Nat} {E E' : Nat → Nat → Rat} (s : St m w col k R c E) (hk : k < m) (hw : col < w) (hp : E k col ≠ 0) (hc : ∀ t, t < k → c' t = c t) (hck : c' k = col)
    (h1 : ∀ i j, i ≤ k → E' i j = E i j) (h2 : ∀ i j, k < i → i < m → j < w → pv R c k * E' i j = E i j * E k col - E i col * E k j) : St m w (col + 1) (k + 1) R c' E' := by
  have vk : ∀ j, j < w → E k j = mn R c' k k j := fun j hj => by
    rw [s.val k j hk hj, Nat.min_self]
    exact mn_congr (fun _ _ => rfl) (fun t ht => (hc t ht).symm) rfl j
  have vi : ∀ i j, k < i → i < m → j < w → E i j = mn R c' k i j := fun i j hi him hj => by
    have : min i k = k := by omega
    rw [s.val i j him hj, this]
    exact mn_congr (fun _ _ => rfl) (fun t ht => (hc t ht).symm) rfl j
  have pk : pv R c k = pv R c' k := pv_congr (fun _ _ => rfl) fun t ht => (hc t ht).symm
  have pk0 := s.piv0 k (Nat.le_refl _)
  have pn : pv R c' (k + 1) ≠ 0 := by
    rw [pv_succ, hck, ← vk col hw]
    exact hp
  have sv : Solv R c' k := solv_congr (fun _ _ => rfl) (fun t ht => (hc t ht).symm) s.slv
  refine ⟨hk, fun t ht => ?_, fun a b hab hb => ?_, solv_succ sv pn, fun t ht => ?_, fun i j hi hj => ?_, fun i j hi hj => ?_, fun i j hi him hj => ?_⟩
  · by_cases e : t = k
    · rw [e, hck]; omega
    · rw [hc t (by omega)]
      have := s.pin t (by omega)
      omega
  · by_cases e : b = k
    · rw [e, hck, hc a (by omega)]
      exact s.pin a (by omega)
    · rw [hc a (by omega), hc b (by omega)]
      exact s.asc a b hab (by omega)
  · by_cases e : t = k + 1
    · rw [e]; exact pn
    · rw [← pv_congr (R := R) (R' := R) (c := c) (c' := c') (fun _ _ => rfl) fun u hu => (hc u (by omega)).symm]
      exact s.piv0 t (by omega)
  · by_cases h : i ≤ k
    · rw [h1 i j h, s.val i j hi hj]
      have e1 : min i k = i := by omega
      have e2 : min i (k + 1) = i := by omega
      rw [e1, e2]
      exact mn_congr (fun _ _ => rfl) (fun t ht => (hc t (by omega)).symm) rfl j
    · have hki : k < i := by omega
      have e2 : min i (k + 1) = k + 1 := by omega
      rw [e2]
      have b := bareiss (c := c') (j := j) sv hki
      have g := h2 i j hki hi hj
      rw [hck, ← vi i j hki hi hj, ← vk col hw, ← vi i col hki hi hw, ← vk j hj, ← pk] at b
      have : pv R c k * E' i j = pv R c k * mn R c' (k + 1) i j := by rw [g, b]
      grind
  · by_cases e : i = k
    · rw [e, hck] at hj
      rw [e, h1 k j (Nat.le_refl _)]
      exact s.zr k j (Nat.le_refl _) hk hj
    · rw [hc i (by omega)] at hj
      rw [h1 i j (by omega)]
      exact s.zl i j (by omega) hj
  · have hki : k < i := by omega
    have g := h2 i j hki him (by omega)
    have z : E i j * E k col - E i col * E k j = 0 := by
      by_cases e : j = col
      · rw [e]; grind
      · rw [s.zr i j (by omega) him (by omega), s.zr k j (Nat.le_refl _) hk (by omega)]
        grind
    rw [z] at g
    grind
end LA
end
section
set_option Elab.async false
set_option linter.all false
/-! What the eliminated rows tell. -/
namespace LA
theorem sum_img {n k : Nat} {c : Nat → Nat} {f : Nat → Rat} (inj : ∀ s t, s < k → t < k → c s = c t → s = t) (lt : ∀ t, t < k → c t < n) (h : ∀ j, j < n → (∀ t, t < k → c t ≠ j) → f j = 0) : sumN n f = sumN k fun t => f (c t) := by
  have e1 : sumN n f = sumN n fun j => sumN k fun t => if c t = j then f j else 0 := sumN_congr fun j hj => by
    by_cases im : ∀ t, t < k → c t ≠ j
    · rw [h j hj im, sumN_zero fun t ht => by rw [if_neg (im t ht)]]
    · obtain ⟨t, ht⟩ := Classical.not_forall.mp im
      obtain ⟨ht, hc⟩ := Classical.not_imp.mp ht
      have hc : c t = j := Classical.not_not.mp hc
      rw [sumN_one ht fun s hs hn => by rw [if_neg fun e => hn (inj s t hs ht (by rw [e, hc]))], if_pos hc]
  rw [e1, sumN_swap (fun j t => if c t = j then f j else 0) k n]
  refine sumN_congr fun t ht => ?_
  rw [sumN_one (lt t ht) fun j hj hn => by rw [if_neg fun e => hn e.symm], if_pos rfl]
section
variable {m w col k : Nat} {R : Mat} {c : Nat → Nat} {E : Nat → Nat → Rat}
theorem St.inj (s : St m w col k R c E) : ∀ a b, a < k → b < k → c a = c b → a = b := fun a b ha hb e => by
  rcases Nat.lt_trichotomy a b with h | h | h
  · have := s.asc a b h hb; omega
  · exact h
  · have := s.asc b a h ha; omega
/-- a column with nothing behind the pivots' rows is a sum of the pivots' columns -/
theorem St.col_sum (s : St m w col k R c E) {j : Nat} (hj : j < w) (h : ∀ i, k ≤ i → i < m → E i j = 0) : ∃ y : Nat → Rat, ∀ i, i < m → R i j = sumN k fun t => y t * R i (c t) := by
  obtain ⟨y, hy⟩ := s.slv j
  refine ⟨y, fun i hi => ?_⟩
  by_cases hk : i < k
  · exact hy i hk
  · have e := mn_val hy i
    have v := s.val i j hi hj
    have : min i k = k := by omega
    rw [this, h i (by omega) hi] at v
    rw [← v] at e
    have p := s.piv0 k (Nat.le_refl _)
    grind
/-- the weights times the last pivot, by a determinant -/
theorem pv_mul {y : Nat → Rat} {b : Nat → Rat} (hy : ∀ a, a < k → b a = sumN k fun t => y t * R a (c t)) {t : Nat} (ht : t < k) : pv R c k * y t = det k (setc (fun a b => R a (c b)) t b) := by
  have e := det_cramer (k := k) (A := fun a b => R a (c b)) ht y
  have : det k (setc (fun a b => R a (c b)) t b) = det k (setc (fun a b => R a (c b)) t fun a => sumN k fun t => y t * R a (c t)) := det_congr fun a l ha hl => by
    unfold setc
    by_cases z : l = t
    · rw [if_pos z, if_pos z, hy a ha]
    · rw [if_neg z, if_neg z]
  rw [this, e]
  show pv R c k * y t = y t * pv R c k
  grind
theorem mn_lin {i j : Nat} {y : Nat → Rat} {l : Nat} (h : ∀ a, a ≤ i → R a j = sumN l fun t => y t * R a (c t)) : mn R c i i j = sumN l fun t => y t * mn R c i i (c t) := by
  have e : ∀ q, mn R c i i q = det (i + 1) (setc (fun a b => R (if a < i then a else i) (if b < i then c b else 0)) i fun a => R (if a < i then a else i) q) := fun q => by
    unfold mn
    refine det_congr fun a b ha hb => ?_
    unfold setc
    by_cases z : b = i
    · rw [if_pos z]
      show R (if a < i then a else i) (if b < i then c b else q) = R (if a < i then a else i) q
      rw [if_neg (show ¬ b < i by omega)]
    · rw [if_neg z]
      show R (if a < i then a else i) (if b < i then c b else q) = R (if a < i then a else i) (if b < i then c b else 0)
      rw [if_pos (show b < i by omega), if_pos (show b < i by omega)]
  rw [e j]
  have e2 : (fun a => R (if a < i then a else i) j) = fun a => sumN l fun t => y t * R (if a < i then a else i) (c t) := by
    funext a
    exact h _ (by split <;> omega)
  rw [e2, det_sum (Nat.lt_succ_self i) y (fun t a => R (if a < i then a else i) (c t)) l]
  exact sumN_congr fun t _ => by rw [e (c t)]
/-- the step of the back substitution -/
theorem St.back (s : St m w col k R c E) (hcw : col ≤ w) {j : Nat} (hj : j < w) {y : Nat → Rat} (hy : ∀ a, a < k → R a j = sumN k fun t => y t * R a (c t)) {i : Nat} (hi : i < k) :
    E i j = sumN k fun t => y t * (if i ≤ t then E i (c t) else 0) := by
  have him : i < m := Nat.lt_of_lt_of_le hi s.few
  have e0 : min i k = i := by omega
  have v := s.val i j him hj
  rw [e0, mn_lin fun a ha => hy a (by omega)] at v
  rw [v]
  refine sumN_congr fun t ht => ?_
  have v2 := s.val i (c t) him (Nat.lt_of_lt_of_le (s.pin t ht) hcw)
  rw [e0] at v2
  rw [← v2]
  by_cases z : i ≤ t
  · rw [if_pos z]
  · rw [if_neg z, s.zl i (c t) hi (s.asc t i (by omega) hi)]
/-- a row behind the pivots is a sum of rows -/
theorem mn_rows (R : Mat) (c : Nat → Nat) {k i m : Nat} (hk : k ≤ i) (hi : i < m) : ∃ l : Nat → Rat, ∀ j, sumN m (fun a => l a * R a j) = mn R c k i j := by
  let q : Nat → Rat := fun a => sg (a + k) * det k fun x b => R (if skip a x < k then skip a x else i) (c b)
  refine ⟨fun a => if a < k then q a else if a = i then q k else 0, fun j => ?_⟩
  have e : mn R c k i j = sumN k (fun a => q a * R a j) + q k * R i j := by
    show sumN (k + 1) (fun a => sg (a + k) * R (if a < k then a else i) (if k < k then c k else j) * det k (fun x b => R (if skip a x < k then skip a x else i) (if b < k then c b else j))) = _
    have d : ∀ a, det k (fun x b => R (if skip a x < k then skip a x else i) (if b < k then c b else j)) = det k fun x b => R (if skip a x < k then skip a x else i) (c b) := fun a => det_congr fun x b _ hb => by rw [if_pos hb]
    have body : ∀ a, sg (a + k) * R (if a < k then a else i) (if k < k then c k else j) * det k (fun x b => R (if skip a x < k then skip a x else i) (if b < k then c b else j)) = q a * R (if a < k then a else i) j := fun a => by
      rw [if_neg (Nat.lt_irrefl k), d a]
      show _ = sg (a + k) * det k _ * R (if a < k then a else i) j
      grind
    rw [sumN_congr fun a _ => body a]
    show sumN k (fun a => q a * R (if a < k then a else i) j) + q k * R (if k < k then k else i) j = _
    rw [if_neg (Nat.lt_irrefl k)]
    have : sumN k (fun a => q a * R (if a < k then a else i) j) = sumN k (fun a => q a * R a j) := sumN_congr fun a ha => by rw [if_pos ha]
    rw [this]
  rw [e]
  -- the first k rows, and the row i
  have split : ∀ n, k ≤ n → sumN n (fun a => (if a < k then q a else if a = i then q k else 0) * R a j) = sumN k (fun a => q a * R a j) + if i < n then q k * R i j else 0 := by
    intro n
    induction n with
    | zero =>
      intro h
      have : k = 0 := by omega
      subst this
      rw [if_neg (by omega)]
      show (0 : Rat) = 0 + 0
      grind
    | succ n ih =>
      intro h
      by_cases z : k = n + 1
      · rw [z, if_neg (by omega)]
        have : sumN (n + 1) (fun a => (if a < n + 1 then q a else if a = i then q (n + 1) else 0) * R a j) = sumN (n + 1) (fun a => q a * R a j) := sumN_congr fun a ha => by rw [if_pos ha]
        rw [this]
        grind
      · show sumN n _ + (if n < k then q n else if n = i then q k else 0) * R n j = _
        have hn : ¬ n < k := by omega
        rw [ih (by omega), if_neg hn]
        by_cases y : n = i
        · have g1 : ¬ i < n := by omega
          have g2 : i < n + 1 := by omega
          rw [if_pos y, if_neg g1, if_pos g2, y]
          grind
        · rw [if_neg y]
          by_cases x : i < n
          · have g2 : i < n + 1 := by omega
            rw [if_pos x, if_pos g2]
            grind
          · have g2 : ¬ i < n + 1 := by omega
            rw [if_neg x, if_neg g2]
            grind
  rw [split m (by omega), if_pos hi]
/-- the rank -/
theorem St.rk (s : St m w col k R c E) (hcw : col ≤ w) : RkBy m col R k c := by
  refine ⟨s.inj, s.pin, fun x hx hz j hj => ?_, fun f => ?_⟩
  · by_cases im : ∀ t, t < k → c t ≠ j
    · exact hz j hj im
    · obtain ⟨t, ht⟩ := Classical.not_forall.mp im
      obtain ⟨ht, hc⟩ := Classical.not_imp.mp ht
      have hc : c t = j := Classical.not_not.mp hc
      have e := pv_mul (R := R) (c := c) (k := k) (y := fun t => x (c t)) (b := fun _ => 0) (fun a ha => by
        have := hx a (Nat.lt_of_lt_of_le ha s.few)
        rw [sum_img (f := fun j => R a j * x j) s.inj s.pin fun j hj h => by rw [hz j hj h]; grind] at this
        rw [← this]
        exact sumN_congr fun t _ => by grind) ht
      rw [det_col0 ht] at e
      have p := s.piv0 k (Nat.le_refl _)
      rw [← hc]
      grind
  · have ys : ∀ j, ∃ y : Nat → Rat, j < col → ∀ i, i < m → R i j = sumN k fun t => y t * R i (c t) := fun j => by
      by_cases h : j < col
      · obtain ⟨y, hy⟩ := s.col_sum (j := j) (by omega) fun i h1 h2 => s.zr i j h1 h2 h
        exact ⟨y, fun _ => hy⟩
      · exact ⟨fun _ => 0, fun z => absurd z h⟩
    let y : Nat → Nat → Rat := fun j => Classical.choose (ys j)
    have hy : ∀ j, j < col → ∀ i, i < m → R i j = sumN k fun t => y j t * R i (c t) := fun j => Classical.choose_spec (ys j)
    let fr : Nat → Bool := fun j => decide (∀ t, t < k → c t ≠ j)
    have frs : ∀ j, fr j = true ↔ ∀ t, t < k → c t ≠ j := fun j => by simp [fr]
    -- g: f at the free places, else 0
    let g : Nat → Rat := fun j => if fr j = true then f j else 0
    let p : Nat → Rat := fun t => - sumN col fun j => g j * y j t
    let x : Nat → Rat := fun j => g j + sumN k fun t => p t * (if c t = j then 1 else 0)
    refine ⟨x, fun i hi => ?_, fun j hj h => ?_⟩
    · have e1 : sumN col (fun j => R i j * x j) = sumN col (fun j => R i j * g j) + 1 * sumN col (fun j => R i j * sumN k fun t => p t * (if c t = j then 1 else 0)) := by
        rw [← sumN_add]
        exact sumN_congr fun j _ => by show R i j * (g j + _) = _; grind
      have e2 : sumN col (fun j => R i j * sumN k fun t => p t * (if c t = j then 1 else 0)) = sumN k fun t => p t * R i (c t) := by
        have : (fun j => R i j * sumN k fun t => p t * (if c t = j then 1 else 0)) = fun j => sumN k fun t => R i j * (p t * (if c t = j then 1 else 0)) := by
          funext j
          rw [sumN_mul]
        rw [this, sumN_swap (fun j t => R i j * (p t * (if c t = j then 1 else 0))) k col]
        refine sumN_congr fun t ht => ?_
        rw [sumN_one (s.pin t ht) fun j hj hn => by rw [if_neg fun e => hn e.symm]; grind, if_pos rfl]
        grind
      have e3 : sumN col (fun j => R i j * g j) = sumN k fun t => (sumN col fun j => g j * y j t) * R i (c t) := by
        have : sumN col (fun j => R i j * g j) = sumN col fun j => sumN k fun t => g j * (y j t * R i (c t)) := sumN_congr fun j hj => by
          rw [hy j hj i hi, sumN_mul]
          grind
        rw [this, sumN_swap (fun j t => g j * (y j t * R i (c t))) k col]
        refine sumN_congr fun t _ => ?_
        have : (fun j => g j * (y j t * R i (c t))) = fun j => R i (c t) * (g j * y j t) := by
          funext j
          grind
        rw [this, sumN_mul]
        grind
      rw [e1, e2, e3]
      have e4 : sumN k (fun t => (sumN col fun j => g j * y j t) * R i (c t)) + 1 * sumN k (fun t => p t * R i (c t)) = 0 := by
        rw [← sumN_add]
        exact sumN_zero fun t _ => by show _ + 1 * (- (sumN col fun j => g j * y j t) * R i (c t)) = 0; grind
      exact e4
    · show g j + sumN k (fun t => p t * (if c t = j then 1 else 0)) = f j
      rw [sumN_zero fun t ht => by rw [if_neg (h t ht)]; grind]
      show (if fr j = true then f j else 0) + 0 = f j
      rw [if_pos ((frs j).mpr h)]
      grind
end
end LA
end
section
set_option Elab.async false
set_option linter.all false
/-! Ranks: the elimination without division, wide tables, turned ones, unit columns. -/
namespace LA
theorem not_piv {k : Nat} {c : Nat → Nat} {j : Nat} (h : ¬ ∀ t, t < k → c t ≠ j) : ∃ t, t < k ∧ c t = j := by
  obtain ⟨t, ht⟩ := Classical.not_forall.mp h
  obtain ⟨ht, hc⟩ := Classical.not_imp.mp ht
  exact ⟨t, ht, Classical.not_not.mp hc⟩
theorem sumN_upd (a x : Nat → Rat) (δ : Rat) {n p : Nat} (hp : p < n) : sumN n (fun j => a j * (if j = p then x j + δ else x j)) = sumN n (fun j => a j * x j) + δ * a p := by
  have e : (fun j => a j * (if j = p then x j + δ else x j)) = fun j => a j * x j + δ * (if j = p then a j else 0) := by
    funext j
    by_cases h : j = p
    · rw [if_pos h, if_pos h]; grind
    · rw [if_neg h, if_neg h]; grind
  rw [e, sumN_add, sumN_one (f := fun j => if j = p then a j else 0) hp fun i _ hn => if_neg hn, if_pos rfl]
structure Fl (m n col k : Nat) (A E : Mat) (c : Nat → Nat) : Prop where
  few : k ≤ m
  pin : ∀ t, t < k → c t < col
  asc : ∀ s t, s < t → t < k → c s < c t
  nz : ∀ t, t < k → E t (c t) ≠ 0
  zl : ∀ t j, t < k → j < c t → E t j = 0
  zr : ∀ i j, k ≤ i → i < m → j < col → E i j = 0
  eqN : ∀ x, InN m n E x ↔ InN m n A x
section
variable {m n col k : Nat} {A E : Mat} {c : Nat → Nat}
theorem Fl.init (c : Nat → Nat) (h : ∀ i, i < m → ∃ t : Rat, t ≠ 0 ∧ ∀ j, j < n → E i j = t * A i j) : Fl m n 0 0 A E c :=
  ⟨Nat.zero_le _, fun _ z => by omega, fun _ _ _ z => by omega, fun _ z => by omega, fun _ _ z => by omega, fun _ _ _ _ z => by omega, fun x => by
    have e : ∀ i, i < m → ∃ t : Rat, t ≠ 0 ∧ sumN n (fun j => E i j * x j) = t * sumN n (fun j => A i j * x j) := fun i hi => by
      obtain ⟨t, t0, ht⟩ := h i hi
      refine ⟨t, t0, ?_⟩
      rw [← sumN_mul]
      exact sumN_congr fun j hj => by rw [ht j hj]; grind
    constructor
    · intro hx i hi
      obtain ⟨t, t0, ht⟩ := e i hi
      have := hx i hi
      grind
    · intro hx i hi
      obtain ⟨t, t0, ht⟩ := e i hi
      have := hx i hi
      grind⟩
theorem Fl.skip (h : Fl m n col k A E c) (z : ∀ i, k ≤ i → i < m → E i col = 0) : Fl m n (col + 1) k A E c :=
  ⟨h.few, fun t ht => Nat.lt_succ_of_lt (h.pin t ht), h.asc, h.nz, h.zl, fun i j h1 h2 h3 => by
    by_cases e : j = col
    · rw [e]; exact z i h1 h2
    · exact h.zr i j h1 h2 (by omega), h.eqN⟩
def swp (k s i : Nat) : Nat := if i = k then s else if i = s then k else i
theorem Fl.pivot (h : Fl m n col k A E c) {s : Nat} {E' : Mat} {c' : Nat → Nat} (hcol : col < n) (hs : k ≤ s) (hsm : s < m) (nz : E s col ≠ 0) (c1 : ∀ t, t < k → c' t = c t) (c2 : c' k = col)
    (e1 : ∀ i j, i < k → E' i j = E i j) (e2 : ∀ j, E' k j = E s j) (e3 : ∀ i j, k < i → i < m → j < n → E' i j = E (swp k s i) j * E s col - E s j * E (swp k s i) col) : Fl m n (col + 1) (k + 1) A E' c' := by
  have km : k < m := by omega
  have sw : ∀ i, k ≤ i → i < m → k ≤ swp k s i ∧ swp k s i < m := fun i h1 h2 => by
    unfold swp
    split
    · omega
    · split <;> omega
  refine ⟨by omega, fun t ht => ?_, fun a b hab hb => ?_, fun t ht => ?_, fun t j ht hj => ?_, fun i j h1 h2 h3 => ?_, fun x => ?_⟩
  · by_cases z : t < k
    · rw [c1 t z]; exact Nat.lt_succ_of_lt (h.pin t z)
    · have : t = k := by omega
      rw [this, c2]; omega
  · by_cases z : b < k
    · rw [c1 a (by omega), c1 b z]; exact h.asc a b hab z
    · have : b = k := by omega
      rw [this, c2, c1 a (by omega)]
      exact h.pin a (by omega)
  · by_cases z : t < k
    · rw [c1 t z, e1 t _ z]; exact h.nz t z
    · have : t = k := by omega
      rw [this, c2, e2]; exact nz
  · by_cases z : t < k
    · rw [c1 t z] at hj
      rw [e1 t _ z]; exact h.zl t j z hj
    · have : t = k := by omega
      subst this
      rw [c2] at hj
      rw [e2]; exact h.zr s j hs hsm hj
  · have sj := sw i (by omega) h2
    rw [e3 i j (by omega) h2 (by omega)]
    by_cases z : j = col
    · subst z; grind
    · rw [h.zr _ j sj.1 sj.2 (by omega), h.zr s j hs hsm (by omega)]
      grind
  · rw [← h.eqN x]
    have d3 : ∀ i, k < i → i < m → sumN n (fun j => E' i j * x j) = E s col * sumN n (fun j => E (swp k s i) j * x j) + (- E (swp k s i) col) * sumN n (fun j => E s j * x j) := fun i h1 h2 => by
      rw [← sumN_mul, ← sumN_add]
      exact sumN_congr fun j hj => by rw [e3 i j h1 h2 hj]; grind
    have d2 : sumN n (fun j => E' k j * x j) = sumN n (fun j => E s j * x j) := sumN_congr fun j hj => by rw [e2]
    have d1 : ∀ i, i < k → sumN n (fun j => E' i j * x j) = sumN n (fun j => E i j * x j) := fun i hi => sumN_congr fun j hj => by rw [e1 i j hi]
    constructor
    · intro hx i hi
      have s0 : sumN n (fun j => E s j * x j) = 0 := by rw [← d2]; exact hx k km
      by_cases z : i < k
      · rw [← d1 i z]; exact hx i hi
      · by_cases z2 : i = s
        · rw [z2]; exact s0
        · by_cases z3 : i = k
          · -- row k stands at s
            have a := d3 s (by omega) hsm
            rw [hx s hsm, s0] at a
            have : swp k s s = k := by
              unfold swp
              rw [if_neg (by omega), if_pos rfl]
            rw [this] at a
            rw [z3]
            grind
          · have a := d3 i (by omega) hi
            rw [hx i hi, s0] at a
            have : swp k s i = i := by
              unfold swp
              rw [if_neg z3, if_neg z2]
            rw [this] at a
            grind
    · intro hx i hi
      have s0 := hx s hsm
      by_cases z : i < k
      · rw [d1 i z]; exact hx i hi
      · by_cases z3 : i = k
        · rw [z3, d2]; exact s0
        · rw [d3 i (by omega) hi, s0, hx _ (sw i (by omega) hi).2]
          grind
theorem Fl.below (h : Fl m n col k A E c) {t i : Nat} (ht : t < k) (hi : t < i) (him : i < m) : E i (c t) = 0 := by
  by_cases z : i < k
  · exact h.zl i _ z (h.asc t i hi z)
  · exact h.zr i _ (by omega) him (h.pin t ht)
theorem Fl.inj (h : Fl m n col k A E c) : ∀ a b, a < k → b < k → c a = c b → a = b := fun a b ha hb e => by
  rcases Nat.lt_trichotomy a b with q | q | q
  · have := h.asc a b q hb; omega
  · exact q
  · have := h.asc b a q ha; omega
theorem Fl.fill (h : Fl m n col k A E c) (hc : col ≤ n) (f : Nat → Rat) : ∀ s, s ≤ k → ∃ x : Nat → Rat, (∀ j, (∀ t, t < k → c t ≠ j) → x j = f j) ∧ ∀ i, k - s ≤ i → i < k → sumN n (fun j => E i j * x j) = 0
  | 0, _ => ⟨f, fun _ _ => rfl, fun i h1 h2 => by omega⟩
  | s + 1, hs => by
    obtain ⟨x, hx, hz⟩ := h.fill hc f s (by omega)
    have tk : k - (s + 1) < k := by omega
    have pn : c (k - (s + 1)) < n := Nat.lt_of_lt_of_le (h.pin _ tk) hc
    refine ⟨fun j => if j = c (k - (s + 1)) then x j + - sumN n (fun j => E (k - (s + 1)) j * x j) / E (k - (s + 1)) (c (k - (s + 1))) else x j, fun j hj => ?_, fun i h1 h2 => ?_⟩
    · show (if j = c (k - (s + 1)) then _ else _) = _
      rw [if_neg (fun e => hj _ tk e.symm)]
      exact hx j hj
    · rw [sumN_upd _ _ _ pn]
      by_cases e : i = k - (s + 1)
      · subst e
        have := h.nz _ tk
        grind
      · rw [hz i (by omega) h2, h.below tk (by omega) (Nat.lt_of_lt_of_le h2 h.few)]
        grind
theorem Fl.rk (h : Fl m n n k A E c) : Rk m n A k := by
  refine Rk.congr ⟨c, h.inj, h.pin, fun x hx hz => ?_, fun f => ?_⟩ h.eqN
  · have key : ∀ s, s ≤ k → ∀ t, k - s ≤ t → t < k → x (c t) = 0 := by
      intro s
      induction s with
      | zero => intro _ t h1 h2; omega
      | succ s ih =>
        intro hs t h1 h2
        by_cases e : k - s ≤ t
        · exact ih (by omega) t e h2
        · have r := hx t (Nat.lt_of_lt_of_le h2 h.few)
          rw [sumN_one (h.pin t h2) fun j hj hn => ?_] at r
          · have := h.nz t h2
            grind
          · by_cases a : j < c t
            · rw [h.zl t j h2 a]; grind
            · by_cases b : ∀ t, t < k → c t ≠ j
              · rw [hz j hj b]; grind
              · obtain ⟨u, hu, cu⟩ := not_piv b
                have : t < u := by
                  rcases Nat.lt_trichotomy t u with q | q | q
                  · exact q
                  · subst q; omega
                  · have := h.asc u t q h2; omega
                rw [← cu, ih (by omega) u (by omega) hu]
                grind
    intro j hj
    by_cases b : ∀ t, t < k → c t ≠ j
    · exact hz j hj b
    · obtain ⟨u, hu, cu⟩ := not_piv b
      rw [← cu]
      exact key k (Nat.le_refl _) u (by omega) hu
  · obtain ⟨x, h1, h2⟩ := h.fill (Nat.le_refl _) f k (Nat.le_refl _)
    refine ⟨x, fun i hi => ?_, fun j _ hj => h1 j hj⟩
    by_cases z : i < k
    · exact h2 i (by omega) z
    · exact sumN_zero fun j hj => by rw [h.zr i j (by omega) hi hj]; grind
end
/-! ### turned tables -/
theorem rk_tr_le {m n : Nat} {A : Mat} {k k' : Nat} {c c' : Nat → Nat} (h : RkBy m n A k c) (h' : RkBy n m (fun i j => A j i) k' c') : k' ≤ k := by
  rcases Nat.lt_or_ge k k' with lt | ge
  · exfalso
    obtain ⟨d, ⟨s0, hs0, nz⟩, eq⟩ := many_free k k' (fun i l => A (c' i) (c l)) lt
    let x : Nat → Rat := fun r => sumN k' fun i => d i * (if c' i = r then 1 else 0)
    -- the sum of the rows
    have sx : ∀ g : Nat → Rat, sumN m (fun r => g r * x r) = sumN k' fun i => d i * g (c' i) := fun g => by
      have e : (fun r => g r * x r) = fun r => sumN k' fun i => g r * (d i * (if c' i = r then 1 else 0)) := by
        funext r
        rw [sumN_mul]
      rw [e, sumN_swap (fun r i => g r * (d i * (if c' i = r then 1 else 0))) k' m]
      refine sumN_congr fun i hi => ?_
      rw [sumN_one (h'.lt i hi) fun r _ hn => by rw [if_neg fun z => hn z.symm]; grind, if_pos rfl]
      grind
    have hN : InN n m (fun i j => A j i) x := fun j hj => by
      show sumN m (fun r => A r j * x r) = 0
      by_cases b : ∀ t, t < k → c t ≠ j
      · obtain ⟨v, hv, fv⟩ := h.sol fun q => if q = j then 1 else 0
        have t1 : sumN m (fun r => x r * sumN n (fun q => A r q * v q)) = 0 := sumN_zero fun r hr => by rw [hv r hr]; grind
        have e1 : (fun r => x r * sumN n (fun q => A r q * v q)) = fun r => sumN n (fun q => x r * (A r q * v q)) := by
          funext r
          rw [sumN_mul]
        rw [e1, sumN_swap (fun r q => x r * (A r q * v q)) n m] at t1
        have e2 : (fun q => sumN m (fun r => x r * (A r q * v q))) = fun q => v q * sumN m (fun r => A r q * x r) := by
          funext q
          rw [← sumN_mul]
          exact sumN_congr fun r _ => by grind
        rw [e2, sumN_one hj fun q hq hn => ?_] at t1
        · rw [fv j hj b, if_pos rfl] at t1
          grind
        · by_cases b2 : ∀ t, t < k → c t ≠ q
          · rw [fv q hq b2, if_neg hn]; grind
          · obtain ⟨u, hu, cu⟩ := not_piv b2
            rw [← cu, sx, eq u hu]; grind
      · obtain ⟨u, hu, cu⟩ := not_piv b
        rw [← cu, sx]
        exact eq u hu
    have z := h'.uniq x hN (fun j _ hj => sumN_zero fun i hi => by rw [if_neg (hj i hi)]; grind) (c' s0) (h'.lt s0 hs0)
    have : x (c' s0) = d s0 := by
      show sumN k' (fun i => d i * (if c' i = c' s0 then 1 else 0)) = d s0
      rw [sumN_one hs0 fun i hi hn => by rw [if_neg fun z => hn (h'.inj i s0 hi hs0 z)]; grind, if_pos rfl]
      grind
    rw [this] at z
    exact nz z
  · exact ge
theorem rk_tr {m n : Nat} {A : Mat} {k k' : Nat} (h : Rk m n A k) (h' : Rk n m (fun i j => A j i) k') : k = k' := by
  obtain ⟨c, h⟩ := h
  obtain ⟨c', h'⟩ := h'
  exact Nat.le_antisymm (rk_tr_le h' h) (rk_tr_le h h')
/-! ### one column more -/
section
variable {m n k : Nat} {A W : Mat} {b : Nat → Rat}
theorem wide_sum (hW : ∀ i j, i < m → j < n → W i j = A i j) (hb : ∀ i, i < m → W i n = b i) (x : Nat → Rat) {i : Nat} (hi : i < m) : sumN (n + 1) (fun j => W i j * x j) = sumN n (fun j => A i j * x j) + b i * x n := by
  show sumN n (fun j => W i j * x j) + W i n * x n = _
  rw [hb i hi, sumN_congr fun j hj => by rw [hW i j hi hj]]
theorem rk_wide_sol (h : Rk m n A k) (hW : ∀ i j, i < m → j < n → W i j = A i j) (hb : ∀ i, i < m → W i n = b i) {y : Nat → Rat} (hy : ∀ i, i < m → sumN n (fun j => A i j * y j) = b i) : Rk m (n + 1) W k := by
  obtain ⟨c, h⟩ := h
  refine ⟨c, h.inj, fun t ht => Nat.lt_succ_of_lt (h.lt t ht), fun x hx hz j hj => ?_, fun f => ?_⟩
  · have xn : x n = 0 := hz n (by omega) fun t ht e => by have := h.lt t ht; omega
    by_cases e : j = n
    · rw [e]; exact xn
    · refine h.uniq x (fun i hi => ?_) (fun j hj q => hz j (by omega) q) j (by omega)
      have := hx i hi
      rw [wide_sum hW hb x hi, xn] at this
      grind
  · obtain ⟨z, hz, fz⟩ := h.sol fun j => f j + f n * y j
    refine ⟨fun j => if j = n then f n else z j + (- f n) * y j, fun i hi => ?_, fun j hj q => ?_⟩
    · rw [wide_sum hW hb _ hi]
      have e : sumN n (fun j => A i j * (if j = n then f n else z j + (- f n) * y j)) = sumN n (fun j => A i j * z j) + (- f n) * sumN n (fun j => A i j * y j) := by
        rw [← sumN_add]
        exact sumN_congr fun j hj => by rw [if_neg (by omega)]; grind
      rw [e, hz i hi, hy i hi]
      show _ + b i * (if n = n then f n else _) = 0
      rw [if_pos rfl]
      grind
    · show (if j = n then f n else z j + (- f n) * y j) = f j
      by_cases e : j = n
      · rw [if_pos e, e]
      · rw [if_neg e, fz j (by omega) q]; grind
theorem rk_wide_cert (h : Rk m n A k) (hW : ∀ i j, i < m → j < n → W i j = A i j) (hb : ∀ i, i < m → W i n = b i) {μ : Nat → Rat} (h0 : ∀ j, j < n → sumN m (fun i => μ i * A i j) = 0) (h1 : sumN m (fun i => μ i * b i) ≠ 0) : Rk m (n + 1) W (k + 1) := by
  obtain ⟨c, h⟩ := h
  let c' : Nat → Nat := fun t => if t < k then c t else n
  have p1 : ∀ t, t < k → c' t = c t := fun t ht => if_pos ht
  have p2 : c' k = n := if_neg (by omega)
  have off : ∀ j, (∀ t, t < k + 1 → c' t ≠ j) ↔ (j ≠ n ∧ ∀ t, t < k → c t ≠ j) := fun j => by
    constructor
    · intro q
      refine ⟨fun e => q k (by omega) (by rw [p2, e]), fun t ht => ?_⟩
      have := q t (by omega)
      rwa [p1 t ht] at this
    · intro q t ht
      by_cases z : t < k
      · rw [p1 t z]; exact q.2 t z
      · have : t = k := by omega
        rw [this, p2]; exact fun e => q.1 e.symm
  refine ⟨c', fun s t hs ht e => ?_, fun t ht => ?_, fun x hx hz j hj => ?_, fun f => ?_⟩
  · by_cases z : s < k
    · by_cases z2 : t < k
      · rw [p1 s z, p1 t z2] at e; exact h.inj s t z z2 e
      · have : t = k := by omega
        rw [this, p1 s z, p2] at e
        have := h.lt s z; omega
    · by_cases z2 : t < k
      · have : s = k := by omega
        rw [this, p1 t z2, p2] at e
        have := h.lt t z2; omega
      · omega
  · by_cases z : t < k
    · rw [p1 t z]; exact Nat.lt_succ_of_lt (h.lt t z)
    · have : t = k := by omega
      rw [this, p2]; omega
  · have xn : x n = 0 := by
      have s : sumN m (fun i => μ i * sumN (n + 1) (fun j => W i j * x j)) = 0 := sumN_zero fun i hi => by rw [hx i hi]; grind
      have e : sumN m (fun i => μ i * sumN (n + 1) (fun j => W i j * x j)) = sumN m (fun i => sumN n (fun j => μ i * (A i j * x j)) + x n * (μ i * b i)) := sumN_congr fun i hi => by
        rw [wide_sum hW hb x hi, sumN_mul]; grind
      rw [e, sumN_add, sumN_swap (fun i j => μ i * (A i j * x j)) n m] at s
      have e2 : sumN n (fun j => sumN m (fun i => μ i * (A i j * x j))) = 0 := sumN_zero fun j hj => by
        have : (fun i => μ i * (A i j * x j)) = fun i => x j * (μ i * A i j) := by
          funext i; grind
        rw [this, sumN_mul, h0 j hj]; grind
      rw [e2] at s
      grind
    by_cases e : j = n
    · rw [e]; exact xn
    · refine h.uniq x (fun i hi => ?_) (fun j hj q => hz j (by omega) ((off j).mpr ⟨by omega, q⟩)) j (by omega)
      have := hx i hi
      rw [wide_sum hW hb x hi, xn] at this
      grind
  · obtain ⟨z, hz, fz⟩ := h.sol f
    refine ⟨fun j => if j = n then 0 else z j, fun i hi => ?_, fun j hj q => ?_⟩
    · rw [wide_sum hW hb _ hi]
      have e : sumN n (fun j => A i j * (if j = n then 0 else z j)) = 0 := by
        rw [← hz i hi]
        exact sumN_congr fun j hj => by rw [if_neg (by omega)]
      rw [e]
      show _ + b i * (if n = n then 0 else _) = 0
      rw [if_pos rfl]
      grind
    · obtain ⟨q1, q2⟩ := (off j).mp q
      show (if j = n then 0 else z j) = f j
      rw [if_neg q1]; exact fz j (by omega) q2
end
/-! ### rows with unit columns are free -/
theorem rk_unit {r n : Nat} {F : Mat} {g : Nat → Nat} (inj : ∀ s t, s < r → t < r → g s = g t → s = t) (lt : ∀ t, t < r → g t < n) (one : ∀ t, t < r → F t (g t) = 1) (zero : ∀ s t, s < r → t < r → s ≠ t → F s (g t) = 0) : Rk r n F r := by
  refine ⟨g, inj, lt, fun x hx hz j hj => ?_, fun f => ?_⟩
  · by_cases b : ∀ t, t < r → g t ≠ j
    · exact hz j hj b
    · obtain ⟨u, hu, gu⟩ := not_piv b
      have e := hx u hu
      rw [sumN_one (lt u hu) fun q hq hn => ?_] at e
      · rw [one u hu] at e
        rw [← gu]
        grind
      · by_cases b2 : ∀ t, t < r → g t ≠ q
        · rw [hz q hq b2]; grind
        · obtain ⟨v, hv, gv⟩ := not_piv b2
          rw [← gv, zero u v hu hv fun e => hn (by rw [← gv, e])]
          grind
  · let h : Nat → Rat := fun j => sumN r fun s => (if g s = j then 1 else 0)
    let f' : Nat → Rat := fun j => if h j = 0 then f j else 0
    have h1 : ∀ j, (∀ t, t < r → g t ≠ j) → h j = 0 := fun j b => sumN_zero fun s hs => by rw [if_neg (b s hs)]
    let S : Nat → Rat := fun s => sumN n fun q => F s q * f' q
    refine ⟨fun j => f' j + (-1) * sumN r fun s => (if g s = j then 1 else 0) * S s, fun t ht => ?_, fun j hj b => ?_⟩
    · have e : (fun j => F t j * (f' j + (-1) * sumN r fun s => (if g s = j then 1 else 0) * S s)) = fun j => F t j * f' j + (-1) * sumN r (fun s => F t j * ((if g s = j then 1 else 0) * S s)) := by
        funext j
        rw [sumN_mul]; grind
      rw [e, sumN_add, sumN_swap (fun j s => F t j * ((if g s = j then 1 else 0) * S s)) r n]
      have e2 : sumN r (fun s => sumN n (fun j => F t j * ((if g s = j then 1 else 0) * S s))) = sumN r fun s => F t (g s) * S s := sumN_congr fun s hs => by
        rw [sumN_one (lt s hs) fun j _ hn => by rw [if_neg fun z => hn z.symm]; grind, if_pos rfl]
        grind
      rw [e2, sumN_one ht fun s hs hn => by rw [zero t s ht hs fun z => hn z.symm]; grind, one t ht]
      show S t + _ = 0
      grind
    · show f' j + (-1) * (sumN r fun s => (if g s = j then 1 else 0) * S s) = f j
      rw [sumN_zero (n := r) fun s hs => by rw [if_neg (b s hs)]; grind]
      show (if h j = 0 then f j else 0) + _ = f j
      rw [if_pos (h1 j b)]
      grind
end LA
end
section
set_option Elab.async false
set_option linter.all false
/-! Rationals: sizes. -/
namespace K05
open PySem L2 Py LA
def fits (i : Int) : Prop := i.natAbs.log2 < 9000
theorem cross {q : Rat} {a b : Int} (hb : b ≠ 0) (h : q = Rat.divInt a b) : q.num * b = a * q.den := by
  rw [← Rat.num_divInt_den q] at h
  exact (Rat.divInt_eq_divInt_iff (by have := q.den_nz; omega) hb).mp h
theorem den_of {q : Rat} {L : Nat} {z : Int} (h : q * (L : Rat) = z) : q.den ∣ L := by
  have e : q.num * (L : Int) = z * q.den := by
    have h1 : Rat.divInt q.num q.den * Rat.divInt L 1 = Rat.divInt z 1 := by
      rw [Rat.num_divInt_den, Rat.divInt_eq_div, Rat.divInt_eq_div, show (((L : Nat) : Int) : Rat) = (L : Rat) from rfl, ← h]
      have : ((1 : Int) : Rat) = 1 := rfl
      rw [this]
      grind
    rw [Rat.divInt_mul_divInt] at h1
    have := (Rat.divInt_eq_divInt_iff (by have := q.den_nz; simp; omega) (by decide)).mp h1
    simpa using this
  have d : q.den ∣ q.num.natAbs * L := by
    have : (q.num * (L : Int)).natAbs = (z * (q.den : Int)).natAbs := by rw [e]
    rw [Int.natAbs_mul, Int.natAbs_mul] at this
    simp at this
    rw [this]
    exact Nat.dvd_mul_left ..
  exact Nat.Coprime.dvd_of_dvd_mul_left (Nat.Coprime.symm q.reduced) d
theorem of_den {q : Rat} {L : Nat} (h : q.den ∣ L) : ∃ z : Int, q * (L : Rat) = z := by
  obtain ⟨k, rfl⟩ := h
  refine ⟨q.num * k, ?_⟩
  have e : q * (q.den : Rat) = q.num := by
    have := Rat.num_divInt_den q
    rw [Rat.divInt_eq_div] at this
    have hd : ((q.den : Int) : Rat) ≠ 0 := by
      intro z
      have : (q.den : Int) = 0 := by exact_mod_cast z
      have := q.den_nz
      omega
    have e2 : ((q.den : Nat) : Rat) = ((q.den : Int) : Rat) := rfl
    rw [e2]
    grind
  have e3 : ((q.den * k : Nat) : Rat) = (q.den : Rat) * (k : Rat) := by
    exact_mod_cast rfl
  rw [e3, Rat.intCast_mul]
  have e4 : (((k : Nat) : Int) : Rat) = (k : Rat) := rfl
  rw [e4]
  grind
theorem den_add {p q : Rat} {L : Nat} (hp : p.den ∣ L) (hq : q.den ∣ L) : (p + q).den ∣ L := by
  obtain ⟨y, hy⟩ := of_den hp
  obtain ⟨z, hz⟩ := of_den hq
  refine den_of (z := y + z) ?_
  rw [Rat.intCast_add]
  grind
theorem den_mul {p q : Rat} {L M : Nat} (hp : p.den ∣ L) (hq : q.den ∣ M) : (p * q).den ∣ L * M := by
  obtain ⟨y, hy⟩ := of_den hp
  obtain ⟨z, hz⟩ := of_den hq
  refine den_of (z := y * z) ?_
  have e3 : ((L * M : Nat) : Rat) = (L : Rat) * (M : Rat) := by exact_mod_cast rfl
  rw [Rat.intCast_mul, e3]
  grind
/-- a bound of the value -/
def vb (N : Nat) (q : Rat) : Prop := q.num.natAbs ≤ N * q.den
theorem vb_num {N L : Nat} {q : Rat} (h : vb N q) (hd : q.den ∣ L) (hL : 0 < L) : q.num.natAbs ≤ N * L := Nat.le_trans h (Nat.mul_le_mul_left N (Nat.le_of_dvd hL hd))
theorem vb_add {M N : Nat} {p q : Rat} (hp : vb M p) (hq : vb N q) : vb (M + N) (p + q) := by
  have hpd : (0 : Nat) < p.den := Nat.pos_of_ne_zero p.den_nz
  have hqd : (0 : Nat) < q.den := Nat.pos_of_ne_zero q.den_nz
  have h : p + q = Rat.divInt (p.num * q.den + q.num * p.den) (p.den * q.den) := by
    have := Rat.divInt_add_divInt p.num q.num (d₁ := p.den) (d₂ := q.den) (by omega) (by omega)
    rw [Rat.num_divInt_den, Rat.num_divInt_den] at this
    exact this
  have hD : ((p.den : Int) * q.den) ≠ 0 := Int.mul_ne_zero (by omega) (by omega)
  have c := cross hD h
  have c2 : (p + q).num.natAbs * (p.den * q.den) = (p.num * q.den + q.num * p.den).natAbs * (p + q).den := by
    have := congrArg Int.natAbs c
    rw [Int.natAbs_mul, Int.natAbs_mul, Int.natAbs_mul] at this
    simpa using this
  have b1 : (p.num * q.den + q.num * p.den).natAbs ≤ (M + N) * (p.den * q.den) := by
    refine Nat.le_trans (Int.natAbs_add_le _ _) ?_
    rw [Int.natAbs_mul, Int.natAbs_mul]
    simp only [Int.natAbs_natCast]
    have h1 := Nat.mul_le_mul_right q.den hp
    have h2 := Nat.mul_le_mul_right p.den hq
    have e1 : N * q.den * p.den = N * (p.den * q.den) := by rw [Nat.mul_assoc, Nat.mul_comm q.den]
    have e2 : M * p.den * q.den = M * (p.den * q.den) := by rw [Nat.mul_assoc]
    rw [Nat.add_mul]
    omega
  have b2 : (p + q).num.natAbs * (p.den * q.den) ≤ ((M + N) * (p + q).den) * (p.den * q.den) := by
    rw [c2]
    exact Nat.le_trans (Nat.mul_le_mul_right _ b1) (Nat.le_of_eq (by ac_rfl))
  exact Nat.le_of_mul_le_mul_right b2 (Nat.mul_pos hpd hqd)
theorem vb_mul {M N : Nat} {p q : Rat} (hp : vb M p) (hq : vb N q) : vb (M * N) (p * q) := by
  have hpd : (0 : Nat) < p.den := Nat.pos_of_ne_zero p.den_nz
  have hqd : (0 : Nat) < q.den := Nat.pos_of_ne_zero q.den_nz
  have h : p * q = Rat.divInt (p.num * q.num) (p.den * q.den) := by
    have := Rat.divInt_mul_divInt p.num q.num (d₁ := p.den) (d₂ := q.den)
    rw [Rat.num_divInt_den, Rat.num_divInt_den] at this
    exact this
  have hD : ((p.den : Int) * q.den) ≠ 0 := Int.mul_ne_zero (by omega) (by omega)
  have c := cross hD h
  have c2 : (p * q).num.natAbs * (p.den * q.den) = (p.num.natAbs * q.num.natAbs) * (p * q).den := by
    have := congrArg Int.natAbs c
    rw [Int.natAbs_mul, Int.natAbs_mul, Int.natAbs_mul, Int.natAbs_mul] at this
    simpa using this
  have b1 : p.num.natAbs * q.num.natAbs ≤ (M * N) * (p.den * q.den) := by
    refine Nat.le_trans (Nat.mul_le_mul hp hq) (Nat.le_of_eq ?_)
    rw [Nat.mul_assoc, Nat.mul_assoc, Nat.mul_left_comm p.den]
  have b2 : (p * q).num.natAbs * (p.den * q.den) ≤ ((M * N) * (p * q).den) * (p.den * q.den) := by
    rw [c2]
    exact Nat.le_trans (Nat.mul_le_mul_right _ b1) (Nat.le_of_eq (by ac_rfl))
  exact Nat.le_of_mul_le_mul_right b2 (Nat.mul_pos hpd hqd)
theorem add_divInt (p q : Rat) : p + q = Rat.divInt (p.num * q.den + q.num * p.den) (p.den * q.den) := by
  have hpd : (0 : Nat) < p.den := Nat.pos_of_ne_zero p.den_nz
  have hqd : (0 : Nat) < q.den := Nat.pos_of_ne_zero q.den_nz
  have := Rat.divInt_add_divInt p.num q.num (d₁ := p.den) (d₂ := q.den) (by omega) (by omega)
  rw [Rat.num_divInt_den, Rat.num_divInt_den] at this
  exact this
theorem mul_divInt (p q : Rat) : p * q = Rat.divInt (p.num * q.num) (p.den * q.den) := by
  have := Rat.divInt_mul_divInt p.num q.num (d₁ := p.den) (d₂ := q.den)
  rw [Rat.num_divInt_den, Rat.num_divInt_den] at this
  exact this
theorem den_ne (p q : Rat) : ((p.den : Int) * q.den) ≠ 0 := Int.mul_ne_zero (by have := p.den_nz; omega) (by have := q.den_nz; omega)
def sz (b : Nat) (i : Int) : Prop := i.natAbs < 2 ^ b
theorem sz_log {b : Nat} {i : Int} (h : sz b i) : i.natAbs.log2 ≤ b := by
  by_cases z : i.natAbs = 0
  · rw [z]; simp
  · exact Nat.le_of_lt ((Nat.log2_lt z).mpr h)
theorem sz_mul {a b : Nat} {i j : Int} (h1 : sz a i) (h2 : sz b j) : sz (a + b) (i * j) := by
  unfold sz at *
  rw [Int.natAbs_mul, Nat.pow_add]
  exact Nat.mul_lt_mul'' h1 h2
theorem sz_add {b : Nat} {i j : Int} (h1 : sz b i) (h2 : sz b j) : sz (b + 1) (i + j) := by
  unfold sz at *
  rw [Nat.pow_succ]
  have := Int.natAbs_add_le i j
  omega
theorem sz_mono {a b : Nat} {i : Int} (h : sz a i) (hab : a ≤ b) : sz b i := Nat.lt_of_lt_of_le h (Nat.pow_le_pow_right (by decide) hab)
theorem cmul {a b : Nat} {i j : Int} (h1 : sz a i) (h2 : sz b j) (h : a + b < 1000000) : CMulW i j := by
  have := sz_log h1
  have := sz_log h2
  unfold CMulW
  omega
theorem fits_sz {b : Nat} {i : Int} (h : sz b i) (hb : b < 9000) : fits i := Nat.lt_of_le_of_lt (sz_log h) hb
theorem sz_gcd {b : Nat} {i j : Int} (h : sz b j) (hj : j ≠ 0) : sz b (Int.gcd i j) := by
  unfold sz at *
  rw [Int.natAbs_natCast]
  exact Nat.lt_of_le_of_lt (Nat.le_of_dvd (by omega) (Int.gcd_dvd_natAbs_right i j)) h
end K05
end
section
set_option linter.all false
set_option maxRecDepth 100000
/-! The promises of the defs. -/
namespace K05
open PySem L2 Py LA
/-- a number as the law and the program have it -/
def nD (q : Rat) : D := .tup [.int q.num, .int q.den]
def zL (zs : List Int) : D := .lst (zs.map .int)
def qT (r : List Rat) : D := .tup (r.map nD)
def qL (r : List Rat) : D := .lst (r.map nD)
def isRow (d : D) (r : List Rat) : Prop := d = qT r ∨ d = qL r
def isI : D → Bool
  | .int _ => true
  | _ => false
def numOf : D → Option Rat
  | .int i => some i
  | .tup [.int a, .int b] => if 1 ≤ b then some (Rat.divInt a b) else none
  | .lst [.int a, .int b] => if 1 ≤ b then some (Rat.divInt a b) else none
  | _ => none
def okI : D → Prop
  | .int i => fits i
  | .obj _ _ _ => False
  | _ => True
def okN : D → Prop
  | .obj _ _ _ => False
  | .frl _ => False
  | .tup xs => ∀ x ∈ xs, okI x
  | .lst xs => ∀ x ∈ xs, okI x
  | _ => True
def numsOf : List D → List Rat ⊕ D
  | [] => .inl []
  | x :: r => match numOf x with
    | none => .inr x
    | some q => match numsOf r with
      | .inl qs => .inl (q :: qs)
      | .inr b => .inr b
def okT (d : D) : Prop := noObj d ∧ ∀ xs, d.seq = some xs → ∀ x ∈ xs, noObj x
def isRw (many : Int) (d : D) : Bool := match d.seq with
  | some xs => decide ((xs.length : Int) = many)
  | none => false
def isTab (d : D) (many : Int) : Bool := match d.seq with
  | some rs => rs.all (isRw many)
  | none => false

def sp_nu_integer : PSpec := fun rs S Q _ => ∃ d, rs = [.dat d] ∧ noObj d ∧ Q (.dat (.bl (isI d))) S
def sp_nu_gcd : PSpec := fun rs S Q _ => ∃ a b : Int, rs = [.dat (.int a), .dat (.int b)] ∧ Q (.dat (.int (Int.gcd a b))) S
def sp_nu_low : PSpec := fun rs S Q _ => ∃ a b : Int, rs = [.dat (.int a), .dat (.int b)] ∧ b ≠ 0 ∧ fits (Int.gcd a b) ∧ Q (.dat (nD (Rat.divInt a b))) S
def sp_number (C_BadNumber C_BadTable C_TooMuch : Addr) : PSpec := fun rs S Q E => ∃ d, rs = [.dat d] ∧ okN d ∧ match numOf d with
  | some q => Q (.dat (nD q)) S
  | none => E ⟨C_BadNumber, ["handed"], [d]⟩ S
def sp_tb_look (C_BadNumber C_BadTable C_TooMuch : Addr) : PSpec := fun rs S Q E => ∃ d m word, rs = [.dat d, .dat m, .dat (.str word)] ∧ noObj m ∧ okT d ∧ match m with
  | .int n => if n < 0 then E ⟨C_BadTable, ["handed"], [.str "many"]⟩ S else if isTab d n then Q (.dat .non) S else E ⟨C_BadTable, ["handed"], [.str word]⟩ S
  | _ => E ⟨C_BadTable, ["handed"], [.str "many"]⟩ S
def sp_tb_look_due (C_BadNumber C_BadTable C_TooMuch : Addr) : PSpec := fun rs S Q E => ∃ d xs due, rs = [.dat d, .dat due] ∧ d.seq = some xs ∧ noObj due ∧ match due.seq with
  | some ys => if ys.length = xs.length then Q (.dat .non) S else E ⟨C_BadTable, ["handed"], [.str "due"]⟩ S
  | none => E ⟨C_BadTable, ["handed"], [.str "due"]⟩ S
def sp_tb_look_size (C_BadNumber C_BadTable C_TooMuch : Addr) : PSpec := fun rs S Q E => ∃ d xs, ∃ n m : Int, rs = [.dat d, .dat (.int n), .dat (.int m)] ∧ d.seq = some xs ∧ if m < (xs.length : Int) ∨ m < n then E ⟨C_TooMuch, ["word", "most"], [.str "table", .int m]⟩ S else Q (.dat .non) S
def sp_tb_numbers (C_BadNumber C_BadTable C_TooMuch : Addr) : PSpec := fun rs S Q E => ∃ d xs, rs = [.dat d] ∧ d.seq = some xs ∧ xs.length ≤ sizeLine ∧ (∀ x ∈ xs, okN x) ∧ match numsOf xs with
  | .inl qs => Q (.dat (qT qs)) S
  | .inr b => E ⟨C_BadNumber, ["handed"], [b]⟩ S
def sp_tb_lists : PSpec := fun rs S Q _ => ∃ d, ∃ many : Int, rs = [.dat d, .dat (.int many)] ∧ okT d ∧ Q (.dat (.bl (isTab d many))) S
def SQ (b : Nat) (q : Rat) : Prop := sz b q.num ∧ q.den < 2 ^ b
def rat (r : List Rat) (i : Nat) : Rat := r.getD i 0
def dotR (r s : List Rat) : Rat := sumN r.length fun i => rat r i * rat s i
/-- what the law draws -/
def N0 : Nat := 5 * 10 ^ 39
def DQ (q : Rat) : Prop := q.den ∣ 6 ∧ vb N0 q
def sp__law_int : PSpec := fun rs S Q _ => ∃ d, rs = [.dat d] ∧ noObj d ∧ Q (.dat (.bl (isI d))) S
def sp__law_next : PSpec := fun rs S Q _ => ∃ many : Int, rs = [.drw, .dat (.int many)] ∧ 0 < many ∧ ∀ (n : Int) S', 0 ≤ n → n < many → Q (.dat (.int n)) S'
def sp__law_gcd : PSpec := fun rs S Q _ => ∃ (a b : Int) (n : Nat), rs = [.dat (.int a), .dat (.int b)] ∧ sz n b ∧ n ≤ 2 ^ 40 ∧ Q (.dat (.int (Int.gcd a b))) S
def sp__law_num : PSpec := fun rs S Q _ => ∃ (a b : Int) (n : Nat), rs = [.dat (.int a), .dat (.int b)] ∧ b ≠ 0 ∧ sz n b ∧ n < 9000 ∧ Q (.dat (nD (Rat.divInt a b))) S
def sp__law_nplus : PSpec := fun rs S Q _ => (∃ (p q : Rat) (b : Nat), rs = [.dat (nD p), .dat (nD q)] ∧ SQ b p ∧ SQ b q ∧ b ≤ 100000 ∧ p.den * q.den < 2 ^ 8999 ∧ Q (.dat (nD (p + q))) S) ∨
  ∃ (p : Rat) (a : Int) (c b : Nat), rs = [.dat (nD p), .dat (.tup [.int a, .int (c : Nat)])] ∧ 0 < c ∧ SQ b p ∧ sz b a ∧ c < 2 ^ b ∧ b ≤ 100000 ∧ p.den * c < 2 ^ 8999 ∧ Q (.dat (nD (p + Rat.divInt a c))) S
def sp__law_ntimes : PSpec := fun rs S Q _ => ∃ (p q : Rat) (b : Nat), rs = [.dat (nD p), .dat (nD q)] ∧ SQ b p ∧ SQ b q ∧ b ≤ 100000 ∧ p.den * q.den < 2 ^ 8999 ∧ Q (.dat (nD (p * q))) S
def sp__law_is_num : PSpec := fun rs S Q _ => ∃ (q : Rat) (b : Nat), rs = [.dat (nD q)] ∧ SQ b q ∧ b ≤ 100000 ∧ Q (.dat (.bl true)) S
def sp__law_drawn : PSpec := fun rs S Q _ => rs = [.drw] ∧ ∀ q S', DQ q → Q (.dat (nD q)) S'
def sp__law_dot : PSpec := fun rs S Q _ => ∃ (d1 d2 : D) (r s : List Rat) (b N L : Nat), rs = [.dat d1, .dat d2] ∧ isRow d1 r ∧ isRow d2 s ∧ r.length ≤ s.length ∧ r.length ≤ 64 ∧ b ≤ 50000 ∧ 0 < L ∧ L < 2 ^ 4000 ∧ N < 2 ^ 50000 ∧
  (∀ i, i < r.length → SQ b (rat r i) ∧ SQ b (rat s i) ∧ (rat r i).den * (rat s i).den ∣ L ∧ vb N (rat r i * rat s i)) ∧ Q (.dat (nD (dotR r s))) S
def isMat (d : D) (M : List (List Rat)) : Prop := ∃ ds, (d = .lst ds ∨ d = .tup ds) ∧ Paired isRow ds M
def ent (M : List (List Rat)) (i j : Nat) : Rat := rat (M.getD i []) j
def mixR (w : List Rat) (M : List (List Rat)) (many : Nat) : List Rat := (List.range many).map fun j => sumN w.length fun i => rat w i * ent M i j
def sp__law_mix : PSpec := fun rs S Q _ => ∃ (d1 d2 : D) (w : List Rat) (M : List (List Rat)) (many b N L : Nat), rs = [.dat d1, .dat d2, .dat (.int many)] ∧ isRow d1 w ∧ isMat d2 M ∧ w.length ≤ M.length ∧ M.length ≤ 64 ∧ many ≤ 64 ∧ (∀ m ∈ M, many ≤ m.length) ∧ b ≤ 50000 ∧ 0 < L ∧ L < 2 ^ 4000 ∧ N < 2 ^ 50000 ∧
  (∀ i j, i < w.length → j < many → SQ b (rat w i) ∧ SQ b (ent M i j) ∧ (rat w i).den * (ent M i j).den ∣ L ∧ vb N (rat w i * ent M i j)) ∧ Q (.own ((mixR w M many).map nD)) S
/-- a number as it is handed in -/
def HQ (d : D) (q : Rat) : Prop := (q.den = 1 ∧ d = .int q.num) ∨ d = .lst [.int (q.num * 6), .int (q.den * 6)] ∨ d = nD q
def HRow (l : D) (r : List Rat) : Prop := ∃ ds, (l = .tup ds ∨ l = .lst ds) ∧ Paired HQ ds r
def sp__law_asked : PSpec := fun rs S Q _ => ∃ (q : Rat) (b : Nat), rs = [.drw, .dat (nD q)] ∧ SQ b q ∧ b ≤ 100000 ∧ (q.den = 1 → ∀ S', Q (.dat (.int q.num)) S') ∧ (∀ S', Q (.own [.int (q.num * 6), .int (q.den * 6)]) S') ∧ ∀ S', Q (.dat (nD q)) S'
def sp__law_handed : PSpec := fun rs S Q _ => ∃ (d : D) (M : List (List Rat)) (b : Nat), rs = [.drw, .dat d] ∧ isMat d M ∧ M.length ≤ 64 ∧ (∀ m ∈ M, m.length ≤ 64 ∧ ∀ q ∈ m, SQ b q) ∧ b ≤ 100000 ∧ ∀ ls S', Paired HRow ls M → Q (.dat (.tup ls)) S' ∧ Q (.own ls) S'
def sp__law_is_row : PSpec := fun rs S Q _ => ∃ (r : List Rat) (b : Nat) (many : Int), rs = [.dat (qT r), .dat (.int many)] ∧ (r.length : Int) = many ∧ (∀ q ∈ r, SQ b q) ∧ b ≤ 100000 ∧ Q (.dat (.bl true)) S
/-- the columns -/
def colsR (M : List (List Rat)) (many : Nat) : List (List Rat) := (List.range many).map fun j => M.map fun m => rat m j
def sp__law_turned : PSpec := fun rs S Q _ => ∃ (d : D) (M : List (List Rat)) (many : Nat), rs = [.dat d, .dat (.int many)] ∧ isMat d M ∧ M.length ≤ 64 ∧ many ≤ 64 ∧ (∀ m ∈ M, many ≤ m.length) ∧ Q (.own ((colsR M many).map qL)) S
def sp_tb_turned : PSpec := fun rs S Q _ => ∃ (d : D) (M : List (List Rat)) (many : Nat), rs = [.dat d, .dat (.int many)] ∧ isMat d M ∧ M.length ≤ 64 ∧ many ≤ 64 ∧ (∀ m ∈ M, many ≤ m.length) ∧ Q (.own ((colsR M many).map qT)) S
/-- a row that the law makes -/
def RowQ (N many : Nat) (m : List Rat) : Prop := m.length = many ∧ ∀ q ∈ m, q.den ∣ 6 ∧ vb N q
def sp__law_rows : PSpec := fun rs S Q _ => ∃ many : Nat, rs = [.drw, .dat (.int many)] ∧ many ≤ 5 ∧ ∀ (M : List (List Rat)) (S' : List Int), M.length ≤ 5 → (∀ m ∈ M, RowQ (6 * N0) many m) → Q (.own (M.map qL)) S'
def zent (M : List (List Int)) (i j : Nat) : Int := (M.getD i []).getD j 0
def sp_tb_spot : PSpec := fun rs S Q _ => ∃ (M : List (List Int)) (low c : Nat), rs = [.dat (.lst (M.map zL)), .dat (.int low), .dat (.int c)] ∧ low ≤ M.length ∧ M.length ≤ 64 ∧ (∀ r ∈ M, c < r.length) ∧
  (∀ k : Nat, low ≤ k → k < M.length → zent M k c ≠ 0 → (∀ j, low ≤ j → j < k → zent M j c = 0) → Q (.dat (.int k)) S) ∧ ((∀ k, low ≤ k → k < M.length → zent M k c = 0) → Q (.dat .non) S)
/-- a row made whole: times c > 0, c at most L -/
def Clr (L : Nat) (row : List Rat) (zs : List Int) : Prop := zs.length = row.length ∧ ∃ c : Rat, 0 < c ∧ (∀ i, i < row.length → ((zs.getD i 0 : Int) : Rat) = c * rat row i) ∧ ∀ i, i < row.length → (zs.getD i 0).natAbs ≤ (rat row i).num.natAbs * L
def sp_tb_clear : PSpec := fun rs S Q _ => ∃ (d : D) (row : List Rat) (L : Nat), rs = [.dat d] ∧ isRow d row ∧ row.length ≤ 64 ∧ 0 < L ∧ L < 2 ^ 64 ∧ (∀ q ∈ row, q.den ∣ L ∧ sz 8000 q.num) ∧ ∀ zs, Clr L row zs → Q (.own (zs.map .int)) S ∧ Q (.dat (zL zs)) S
/-- what tb_echelon gives: the rows in the order o, the pivots' columns, the minors -/
structure Ech (M : List (List Int)) (col w : Nat) (piv : List Nat) (L : List (List Int)) (o : Nat → Nat) : Prop where
  lt : ∀ a, a < M.length → o a < M.length
  onto : ∀ b, b < M.length → ∃ a, a < M.length ∧ o a = b
  inj : ∀ a b, a < M.length → b < M.length → o a = o b → a = b
  len : L.length = M.length
  wid : ∀ r ∈ L, r.length = w
  st : St M.length w col piv.length (fun a j => (zent M (o a) j : Rat)) (fun t => piv.getD t 0) (fun i j => (zent L i j : Rat))
def nL (ns : List Nat) : D := .lst (ns.map fun n => .int (n : Nat))
def sp_tb_echelon : PSpec := fun rs S Q _ => ∃ (M : List (List Int)) (n w : Nat), rs = [.dat (.lst (M.map zL)), .dat (.int n)] ∧ n ≤ w ∧ w ≤ 64 ∧ M.length ≤ 64 ∧ (∀ r ∈ M, r.length = w ∧ ∀ z ∈ r, sz 300 z) ∧ (M.length ≤ 6 ∨ n ≤ 6) ∧
  ∀ piv L o, Ech M n w piv L o → Q (.dat (.tup [nL piv, .lst (L.map zL)])) S
def sp__law_stream : PSpec := fun rs S Q _ => ∃ ns : List Int, rs = [.dat (.frl (ns.map .int))] ∧ ns.length ≤ 63 ∧ ∀ l : List Int, Q (.own (l.map .int)) S
/-- full[j] = z j: the whole numbers of the back substitution; d the last pivot -/
def sumZr (n : Nat) (f : Nat → Int) : Int := sumZ n f
def sp_tb_filled : PSpec := fun rs S Q _ => ∃ (L : List (List Int)) (piv : List Nat) (n w c0 : Nat) (d : Int) (z : Nat → Int) (f : D), rs = [.dat (nL piv), .dat (.lst (L.map zL)), .dat (.int n), .dat f] ∧
  ((f = .non ∧ n < w ∧ (∀ j, j < n → (∀ t, t < piv.length → piv.getD t 0 ≠ j) → z j = 0) ∧ ∀ i, i < piv.length → sumZr n (fun j => zent L i j * z j) = zent L i n * d) ∨
    (f = .int c0 ∧ c0 < n ∧ (∀ t, t < piv.length → piv.getD t 0 ≠ c0) ∧ z c0 = d ∧ (∀ j, j < n → j ≠ c0 → (∀ t, t < piv.length → piv.getD t 0 ≠ j) → z j = 0) ∧ ∀ i, i < piv.length → sumZr n (fun j => zent L i j * z j) = 0)) ∧
  n ≤ w ∧ w ≤ 64 ∧ piv.length ≤ L.length ∧ L.length ≤ 64 ∧ (∀ r ∈ L, r.length = w) ∧ (∀ t, t < piv.length → piv.getD t 0 < n) ∧ (∀ s t, s < t → t < piv.length → piv.getD s 0 < piv.getD t 0) ∧
  (∀ i, i < piv.length → zent L i (piv.getD i 0) ≠ 0 ∧ ∀ j, j < piv.getD i 0 → zent L i j = 0) ∧ d = (if piv.length = 0 then 1 else zent L (piv.length - 1) (piv.getD (piv.length - 1) 0)) ∧
  (∀ i j, sz 2420 (zent L i j)) ∧ (∀ j, sz 2420 (z j)) ∧ sz 2420 d ∧ Q (.dat (qT ((List.range n).map fun j => Rat.divInt (z j) d))) S
/-! ### tables -/
abbrev ZM (M : List (List Int)) : Mat := fun i j => (zent M i j : Rat)
abbrev AM (M : List (List Rat)) : Mat := fun i j => ent M i j
/-- numbers that are told: D a common bottom -/
def TS (D : Nat) (x : List Rat) : Prop := ∀ q ∈ x, q.den ∣ D ∧ sz 2420 q.num
structure Bas (m n : Nat) (A : Mat) (fs : List (List Rat)) (k D : Nat) : Prop where
  pos : 0 < D
  low : D < 2 ^ 2420
  len : fs.length + k = n
  each : ∀ f ∈ fs, f.length = n ∧ TS D f
  zero : ∀ s i, s < fs.length → i < m → sumN n (fun j => A i j * ent fs s j) = 0
  free : Rk fs.length n (AM fs) fs.length
  rk : Rk m n A k
structure Sol (m n : Nat) (A : Mat) (b : Nat → Rat) (x : List Rat) (D : Nat) : Prop where
  pos : 0 < D
  low : D < 2 ^ 2420
  len : x.length = n
  ts : TS D x
  eq : ∀ i, i < m → sumN n (fun j => A i j * rat x j) = b i
/-- weights that show that there is no answer -/
structure Wgt (m n : Nat) (A : Mat) (b : Nat → Rat) (x : List Rat) (D : Nat) : Prop where
  pos : 0 < D
  low : D < 2 ^ 2420
  len : x.length = m
  ts : TS D x
  zero : ∀ j, j < n → sumN m (fun i => rat x i * A i j) = 0
  one : sumN m (fun i => rat x i * b i) = 1
def Cert (m n : Nat) (A : Mat) (b : Nat → Rat) : Prop := ∃ μ : Nat → Rat, (∀ j, j < n → sumN m (fun i => μ i * A i j) = 0) ∧ sumN m (fun i => μ i * b i) = 1
/-- a number with the bottom's multiple L -/
def CQ (L : Nat) (q : Rat) : Prop := q.den ∣ L ∧ q.num.natAbs * L < 2 ^ 300
def LOk (L : Nat) : Prop := 0 < L ∧ L < 2 ^ 64
def CT (L n : Nat) (rows : List (List Rat)) : Prop := ∀ r ∈ rows, r.length = n ∧ ∀ q ∈ r, CQ L q
def sp_tb_free : PSpec := fun rs S Q _ => ∃ (M L : List (List Int)) (piv : List Nat) (o : Nat → Nat) (n w : Nat), rs = [.dat (nL piv), .dat (.lst (L.map zL)), .dat (.int n)] ∧ Ech M n w piv L o ∧ n ≤ w ∧ w ≤ 64 ∧ M.length ≤ 64 ∧ (∀ r ∈ M, r.length = w ∧ ∀ z ∈ r, sz 300 z) ∧ (M.length ≤ 6 ∨ n ≤ 6) ∧ ∀ fs k D, Bas M.length n (ZM M) fs k D → Q (.dat (.tup (fs.map qT))) S
def sp_tb_answers : PSpec := fun rs S Q _ => ∃ (d1 d2 : D) (rows : List (List Rat)) (due : List Rat) (n L : Nat), rs = [.dat d1, .dat d2, .dat (.int n)] ∧ isMat d1 rows ∧ isRow d2 due ∧ due.length = rows.length ∧ n ≤ 50 ∧ rows.length ≤ 50 ∧ (rows.length ≤ 6 ∨ n ≤ 6) ∧ LOk L ∧ CT L n rows ∧ (∀ q ∈ due, CQ L q) ∧
  (∀ x fs k D D', Sol rows.length n (AM rows) (rat due) x D → Bas rows.length n (AM rows) fs k D' → Q (.dat (.tup [qT x, .tup (fs.map qT)])) S) ∧ (Cert rows.length n (AM rows) (rat due) → Q (.dat .non) S)
def sp_tb_base : PSpec := fun rs S Q _ => ∃ (d : D) (rows : List (List Rat)) (n L : Nat), rs = [.dat d, .dat (.int n)] ∧ isMat d rows ∧ n ≤ 50 ∧ rows.length ≤ 50 ∧ (rows.length ≤ 6 ∨ n ≤ 6) ∧ LOk L ∧ CT L n rows ∧ ∀ fs k D, Bas rows.length n (AM rows) fs k D → Q (.dat (.tup (fs.map qT))) S
def sp_tb_rank : PSpec := fun rs S Q _ => ∃ (d : D) (rows : List (List Rat)) (n L : Nat), rs = [.dat d, .dat (.int n)] ∧ isMat d rows ∧ n ≤ 50 ∧ rows.length ≤ 50 ∧ (rows.length ≤ 6 ∨ n ≤ 6) ∧ LOk L ∧ CT L n rows ∧ ∀ k, Rk rows.length n (AM rows) k → Q (.dat (.int k)) S
def sp_tb_paper : PSpec := fun rs S Q _ => ∃ (d1 d2 : D) (rows : List (List Rat)) (due : List Rat) (n L : Nat), rs = [.dat d1, .dat d2, .dat (.int n)] ∧ isMat d1 rows ∧ isRow d2 due ∧ due.length = rows.length ∧ n ≤ 49 ∧ rows.length ≤ 50 ∧ (rows.length ≤ 6 ∨ n ≤ 5) ∧ LOk L ∧ CT L n rows ∧ (∀ q ∈ due, CQ L q) ∧ Cert rows.length n (AM rows) (rat due) ∧
  ∀ x D, Wgt rows.length n (AM rows) (rat due) x D → Q (.dat (qT x)) S
/-- the rows of a handed table -/
def tabOf : List D → List (List Rat) ⊕ D
  | [] => .inl []
  | r :: rs => match numsOf (r.seq.getD []) with
    | .inr b => .inr b
    | .inl q => match tabOf rs with
      | .inl qs => .inl (q :: qs)
      | .inr b => .inr b
def okR (xs : List D) : Prop := ∀ x ∈ xs, ∀ y ∈ x.seq.getD [], okN y
def sp_solve (C_BadNumber C_BadTable C_TooMuch : Addr) : PSpec := fun rs S Q E => ∃ d due m, rs = [.dat d, .dat due, .dat m] ∧ noObj m ∧ okT d ∧ noObj due ∧ match m with
  | .int n => if n < 0 then E ⟨C_BadTable, ["handed"], [.str "many"]⟩ S else if isTab d n = false then E ⟨C_BadTable, ["handed"], [.str "rows"]⟩ S else
    match d.seq, due.seq with
    | none, _ => True
    | some _, none => E ⟨C_BadTable, ["handed"], [.str "due"]⟩ S
    | some xs, some ys => if ys.length ≠ xs.length then E ⟨C_BadTable, ["handed"], [.str "due"]⟩ S else if 40 < xs.length ∨ 40 < n then E ⟨C_TooMuch, ["word", "most"], [.str "table", .int 40]⟩ S else okR xs ∧ match tabOf xs with
      | .inr b => E ⟨C_BadNumber, ["handed"], [b]⟩ S
      | .inl rows => (∀ y ∈ ys, okN y) ∧ match numsOf ys with
        | .inr b => E ⟨C_BadNumber, ["handed"], [b]⟩ S
        | .inl gs => ∃ L, LOk L ∧ CT L n.toNat rows ∧ (∀ q ∈ gs, CQ L q) ∧ (rows.length ≤ 6 ∨ n.toNat ≤ 5) ∧
          (∀ x fs k D D', Sol rows.length n.toNat (AM rows) (rat gs) x D → Bas rows.length n.toNat (AM rows) fs k D' → Q (.dat (.tup [.str "all", qT x, .tup (fs.map qT)])) S) ∧
          (∀ x D, Wgt rows.length n.toNat (AM rows) (rat gs) x D → Q (.dat (.tup [.str "none", qT x])) S)
  | _ => E ⟨C_BadTable, ["handed"], [.str "many"]⟩ S
def sp_rank (C_BadNumber C_BadTable C_TooMuch : Addr) : PSpec := fun rs S Q E => ∃ d m, rs = [.dat d, .dat m] ∧ noObj m ∧ okT d ∧ match m with
  | .int n => if n < 0 then E ⟨C_BadTable, ["handed"], [.str "many"]⟩ S else if isTab d n = false then E ⟨C_BadTable, ["handed"], [.str "rows"]⟩ S else
    match d.seq with
    | none => True
    | some xs => if 40 < xs.length ∨ 40 < n then E ⟨C_TooMuch, ["word", "most"], [.str "table", .int 40]⟩ S else okR xs ∧ match tabOf xs with
      | .inr b => E ⟨C_BadNumber, ["handed"], [b]⟩ S
      | .inl rows => ∃ L, LOk L ∧ CT L n.toNat rows ∧ (rows.length ≤ 6 ∨ n.toNat ≤ 6) ∧ ∀ k, Rk rows.length n.toNat (AM rows) k → Q (.dat (.int k)) S
  | _ => E ⟨C_BadTable, ["handed"], [.str "many"]⟩ S
def sp_number_ties (C_BadNumber C_BadTable C_TooMuch : Addr) : PSpec := fun rs S Q E => ∃ d m, rs = [.dat d, .dat m] ∧ noObj m ∧ okT d ∧ match m with
  | .int n => if n < 0 then E ⟨C_BadTable, ["handed"], [.str "many"]⟩ S else if isTab d n = false then E ⟨C_BadTable, ["handed"], [.str "vectors"]⟩ S else
    match d.seq with
    | none => True
    | some xs => if 40 < xs.length ∨ 40 < n then E ⟨C_TooMuch, ["word", "most"], [.str "table", .int 40]⟩ S else okR xs ∧ match tabOf xs with
      | .inr b => E ⟨C_BadNumber, ["handed"], [b]⟩ S
      | .inl rows => ∃ L, LOk L ∧ CT L n.toNat rows ∧ (rows.length ≤ 6 ∨ n.toNat ≤ 6) ∧ ∀ fs k D, Bas n.toNat rows.length (fun i j => AM rows j i) fs k D → Q (.dat (.tup (fs.map qT))) S
  | _ => E ⟨C_BadTable, ["handed"], [.str "many"]⟩ S
def sp__law_rank : PSpec := fun rs S Q _ => ∃ (d : D) (M : List (List Rat)) (many L : Nat), rs = [.dat d, .dat (.int many)] ∧ isMat d M ∧ many ≤ 50 ∧ M.length ≤ 50 ∧ (M.length ≤ 6 ∨ many ≤ 6) ∧ 0 < L ∧ L < 2 ^ 4000 ∧ (∀ r ∈ M, r.length = many ∧ ∀ q ∈ r, q.den ∣ L ∧ sz 2500 q.num) ∧ ∀ k, Rk M.length many (AM M) k → Q (.dat (.int k)) S
/-- a number of the law's tables -/
def LQ (q : Rat) : Prop := q.den ∣ 36 ∧ q.num.natAbs < 2 ^ 285
def LT (n : Nat) (rows : List (List Rat)) : Prop := ∀ r ∈ rows, r.length = n ∧ ∀ q ∈ r, LQ q
def sp__law_is_base : PSpec := fun rs S Q _ => ∃ (d : D) (fs rows : List (List Rat)) (n k D : Nat) (r : Int), rs = [.dat (.tup (fs.map qT)), .dat d, .dat (.int n), .dat (.int r)] ∧ isMat d rows ∧ rows.length ≤ 6 ∧ n ≤ 6 ∧ LT n rows ∧ Bas rows.length n (AM rows) fs k D ∧ r = fs.length ∧ Q (.dat (.bl true)) S
def sp__law_judged : PSpec := fun rs S Q _ => ∃ (rows : List (List Rat)) (due : List Rat) (n : Nat), rs = [.drw, .dat (.lst (rows.map qL)), .dat (qL due), .dat (.int n)] ∧ due.length = rows.length ∧ rows.length ≤ 6 ∧ n ≤ 5 ∧ LT n rows ∧ (∀ q ∈ due, LQ q) ∧
  ∀ S', ((∃ y : Nat → Rat, ∀ i, i < rows.length → sumN n (fun j => ent rows i j * y j) = rat due i) → Q (.dat (.str "all")) S') ∧ (Cert rows.length n (AM rows) (rat due) → Q (.dat (.str "none")) S')
def sp__law_counted : PSpec := fun rs S Q _ => ∃ (rows : List (List Rat)) (n : Nat), rs = [.drw, .dat (.lst (rows.map qL)), .dat (.int n)] ∧ rows.length ≤ 6 ∧ n ≤ 5 ∧ LT n rows ∧ ∀ S', Q (.dat (.bl true)) S'
def words8 : List String := ["many", "many", "rows", "due", "rows", "vectors", "many", "due"]
def sp__law_word : PSpec := fun rs S Q _ => ∃ i : Nat, rs = [.dat (.int i)] ∧ i < 8 ∧ Q (.dat (.str (words8.getD i ""))) S
def bad4 (i : Nat) : D := if i = 0 then .tup [.int 1, .int 0] else if i = 1 then .non else if i = 2 then .bl true else .tup [.int 1, .int (-2)]
def sp__law_bad_value : PSpec := fun rs S Q _ => ∃ i : Nat, rs = [.dat (.int i)] ∧ i < 4 ∧ Q (.own [bad4 i]) S
def sp__law_much : PSpec := fun rs S Q _ => ∃ i : Nat, i < 3 ∧ ((rs = [.dat (.int i), .dat (.int 40)] ∧ Q (.own [.non, .int (if i = 0 then 1 else 0)]) S) ∨ (rs = [.dat (.int i), .dat (.int 41)] ∧ Q (.own [.tup [.str "table", .int 40], .non]) S))
def sp__law_refused : PSpec := fun rs S Q _ => rs = [] ∧ Q (.dat (.bl true)) S
def sp_law : PSpec := lawSpec
end K05
end
section
set_option Elab.async false
set_option linter.all false
set_option maxRecDepth 100000
/-! The readings of the defs (printed by gen.py). -/
namespace K05
open PySem L2 Py
section
variable (C_BadNumber C_BadTable C_TooMuch : Addr)
/-- nu_integer: slots 0 value -/
def p_nu_integer : PSm := pSeq (pRet (pAndV (pIsi "int" (pVar 0)) (pNotV (pIsi "bool" (pVar 0))))) (pNext)
/-- nu_gcd: slots 0 a, 1 b -/
def p_nu_gcd : PSm := pSeq (pAsg (pCB fAbs (pCons (pVar 0) (pNil))) (pgName 0)) (pSeq (pAsg (pCB fAbs (pCons (pVar 1) (pNil))) (pgName 1)) (pSeq (pWhile (pTst (pBin fNe (pVar 1) (pC (.int 0)))) (pSeq (pPar 0 1 (pCons (pVar 1) (pCons (pBin fMod (pVar 0) (pVar 1)) (pNil)))) (pNext))) (pSeq (pRetN 0) (pNext))))
/-- nu_low: slots 0 a, 1 b, 2 c -/
def p_nu_low : PSm := pSeq (pAsg (pCall sp_nu_gcd (pCons (pVar 0) (pCons (pVar 1) (pNil)))) (pgName 2)) (pSeq (pIf (pTst (pBin fLt (pVar 1) (pC (.int 0)))) (pSeq (pAsg (pNeg (pVar 2)) (pgName 2)) (pNext)) (pNext)) (pSeq (pRet (pTup (pCons (pBin fDiv (pVar 0) (pVar 2)) (pCons (pBin fDiv (pVar 1) (pVar 2)) (pNil))))) (pNext)))
/-- number: slots 0 value, 1 a, 2 b -/
def p_number : PSm := pSeq (pIf (pTst (pCall sp_nu_integer (pCons (pVar 0) (pNil)))) (pSeq (pRet (pTup (pCons (pCB fInt (pCons (pVar 0) (pNil))) (pCons (pC (.int 1)) (pNil))))) (pNext)) (pNext)) (pSeq (pIf (pAnd (pTst (pIsi2 "tuple" "list" (pVar 0))) (pTst (pBin fEq (pLen (pQVar 0)) (pC (.int 2))))) (pSeq (pAsg (pVar 0) (pgTup 2 (pgCons (pgName 1) (pgCons (pgName 2) (pgNil))))) (pSeq (pIf (pAnd (pTst (pCall sp_nu_integer (pCons (pVar 1) (pNil)))) (pAnd (pTst (pCall sp_nu_integer (pCons (pVar 2) (pNil)))) (pTst (pBin fGe (pVar 2) (pC (.int 1)))))) (pSeq (pRet (pCall sp_nu_low (pCons (pVar 1) (pCons (pVar 2) (pNil))))) (pNext)) (pNext)) (pNext))) (pNext)) (pSeq (pRaise C_BadNumber ["handed"] (pCons (pVar 0) (pNil))) (pNext)))
/-- tb_lists: slots 0 rows, 1 many, 2 row -/
def p_tb_lists : PSm := pSeq (pIf (pNotT (pTst (pIsi2 "tuple" "list" (pVar 0)))) (pSeq (pRet (pC (.bl false))) (pNext)) (pNext)) (pSeq (pFor (pISeq (pVar 0)) (pgName 2) (pSeq (pIf (pOr (pNotT (pTst (pIsi2 "tuple" "list" (pVar 2)))) (pTst (pBin fNe (pLen (pQVar 2)) (pVar 1)))) (pSeq (pRet (pC (.bl false))) (pNext)) (pNext)) (pNext))) (pSeq (pRet (pC (.bl true))) (pNext)))
/-- tb_look: slots 0 rows, 1 many, 2 word -/
def p_tb_look : PSm := pSeq (pIf (pOr (pNotT (pTst (pCall sp_nu_integer (pCons (pVar 1) (pNil))))) (pTst (pBin fLt (pVar 1) (pC (.int 0))))) (pSeq (pRaise C_BadTable ["handed"] (pCons (pC (.str "many")) (pNil))) (pNext)) (pNext)) (pSeq (pIf (pNotT (pTst (pCall sp_tb_lists (pCons (pVar 0) (pCons (pVar 1) (pNil)))))) (pSeq (pRaise C_BadTable ["handed"] (pCons (pVar 2) (pNil))) (pNext)) (pNext)) (pNext))
/-- tb_look_due: slots 0 rows, 1 due -/
def p_tb_look_due : PSm := pSeq (pIf (pOr (pNotT (pTst (pIsi2 "tuple" "list" (pVar 1)))) (pTst (pBin fNe (pLen (pQVar 1)) (pLen (pQVar 0))))) (pSeq (pRaise C_BadTable ["handed"] (pCons (pC (.str "due")) (pNil))) (pNext)) (pNext)) (pNext)
/-- tb_look_size: slots 0 rows, 1 many, 2 most -/
def p_tb_look_size : PSm := pSeq (pIf (pOr (pTst (pBin fGt (pLen (pQVar 0)) (pVar 2))) (pTst (pBin fGt (pVar 1) (pVar 2)))) (pSeq (pRaise C_TooMuch ["word", "most"] (pCons (pC (.str "table")) (pCons (pVar 2) (pNil)))) (pNext)) (pNext)) (pNext)
/-- tb_numbers: slots 0 row, 1 w -/
def p_tb_numbers : PSm := pSeq (pRet (pToT (pQOf (pLcR 1 (pISeq (pVar 0)) (pCall (sp_number C_BadNumber C_BadTable C_TooMuch) (pCons (pVar 1) (pNil))))))) (pNext)
/-- tb_clear: slots 0 row, 1 low, 2 w, 3 told, 4 d -/
def p_tb_clear : PSm := pSeq (pAsg (pC (.int 1)) (pgName 1)) (pSeq (pFor (pISeq (pVar 0)) (pgName 2) (pSeq (pAsg (pCB fLcm (pCons (pVar 1) (pCons (pIx (pQVar 2) (pC (.int 1))) (pNil)))) (pgName 1)) (pNext))) (pSeq (pAsg (pLc 2 (pISeq (pVar 0)) (pYes) (pBin fMul (pIx (pQVar 2) (pC (.int 0))) (pBin fDiv (pVar 1) (pIx (pQVar 2) (pC (.int 1)))))) (pgName 3)) (pSeq (pAsg (pC (.int 0)) (pgName 4)) (pSeq (pFrz 3 (pFor (pISeq (pVar 3)) (pgName 2) (pSeq (pAsg (pCB fGcd (pCons (pVar 4) (pCons (pVar 2) (pNil)))) (pgName 4)) (pNext)))) (pSeq (pIf (pTst (pBin fGt (pVar 4) (pC (.int 1)))) (pSeq (pFrz 3 (pAsg (pLc 2 (pISeq (pVar 3)) (pYes) (pBin fDiv (pVar 2) (pVar 4))) (pgName 3))) (pNext)) (pNext)) (pSeq (pRetN 3) (pNext)))))))
/-- tb_spot: slots 0 left, 1 low, 2 c, 3 k -/
def p_tb_spot : PSm := pSeq (pFor (pRng2 (pCons (pVar 1) (pCons (pLen (pQVar 0)) (pNil)))) (pgName 3) (pSeq (pIf (pTst (pBin fNe (pIx (pQOf (pIx (pQVar 0) (pVar 3))) (pVar 2)) (pC (.int 0)))) (pSeq (pRetN 3) (pNext)) (pNext)) (pNext))) (pSeq (pRet (pC .non)) (pNext))
/-- tb_echelon: slots 0 rows, 1 many, 2 left, 3 pivots, 4 last, 5 c, 6 at, 7 spot, 8 lead, 9 k, 10 row, 11 j -/
def p_tb_echelon : PSm := pSeq (pAsg (pLc 10 (pISeq (pVar 0)) (pYes) (pToL (pQVar 10))) (pgName 2)) (pSeq (pAsg (pLst (pNil)) (pgName 3)) (pSeq (pAsg (pC (.int 1)) (pgName 4)) (pSeq (pFor (pRng1 (pCons (pVar 1) (pNil))) (pgName 5) (pSeq (pAsg (pLen (pQVar 3)) (pgName 6)) (pSeq (pAsg (pLend 2 (pCall sp_tb_spot (pCons (pVar 2) (pCons (pVar 6) (pCons (pVar 5) (pNil)))))) (pgName 7)) (pSeq (pIf (pTst (pBin fNotN (pVar 7) (pC .non))) (pSeq (pAsg (pTup (pCons (pIx (pQVar 2) (pVar 7)) (pCons (pIx (pQVar 2) (pVar 6)) (pNil)))) (pgTup 2 (pgCons (pgSub 2 (pVar 6)) (pgCons (pgSub 2 (pVar 7)) (pgNil))))) (pSeq (pAsg (pIx (pQVar 2) (pVar 6)) (pgName 8)) (pSeq (pFor (pRng2 (pCons (pBin fAdd (pVar 6) (pC (.int 1))) (pCons (pLen (pQVar 2)) (pNil)))) (pgName 9) (pSeq (pAsg (pIx (pQVar 2) (pVar 9)) (pgName 10)) (pSeq (pAsg (pLc 11 (pRng1 (pCons (pLen (pQVar 10)) (pNil))) (pYes) (pBin fDiv (pBin fSub (pBin fMul (pIx (pQVar 10) (pVar 11)) (pIx (pQVar 8) (pVar 5))) (pBin fMul (pIx (pQVar 10) (pVar 5)) (pIx (pQVar 8) (pVar 11)))) (pVar 4))) (pgSub 2 (pVar 9))) (pNext)))) (pSeq (pAsg (pIx (pQVar 8) (pVar 5)) (pgName 4)) (pSeq (pApp 3 (pVar 5)) (pNext)))))) (pNext)) (pNext))))) (pSeq (pFrz 3 (pFrz 2 (pRet (pTup (pCons (pVar 3) (pCons (pVar 2) (pNil))))))) (pNext)))))
/-- tb_filled: slots 0 pivots, 1 left, 2 many, 3 free, 4 scale, 5 full, 6 k, 7 c, 8 row, 9 w, 10 j -/
def p_tb_filled : PSm := pSeq (pAsg (pC (.int 1)) (pgName 4)) (pSeq (pIf (pTst (pBin fGt (pLen (pQVar 0)) (pC (.int 0)))) (pSeq (pAsg (pIx (pQOf (pIx (pQVar 1) (pBin fSub (pLen (pQVar 0)) (pC (.int 1))))) (pIx (pQVar 0) (pNeg (pC (.int 1))))) (pgName 4)) (pNext)) (pNext)) (pSeq (pAsg (pBin fMul (pLst (pCons (pC (.int 0)) (pNil))) (pVar 2)) (pgName 5)) (pSeq (pIf (pTst (pBin fNotN (pVar 3) (pC .non))) (pSeq (pAsg (pVar 4) (pgSub 5 (pVar 3))) (pNext)) (pNext)) (pSeq (pFor (pRngD (pCons (pBin fSub (pLen (pQVar 0)) (pC (.int 1))) (pCons (pNeg (pC (.int 1))) (pCons (pNeg (pC (.int 1))) (pNil))))) (pgName 6) (pSeq (pAsg (pIx (pQVar 0) (pVar 6)) (pgName 7)) (pSeq (pAsg (pIx (pQVar 1) (pVar 6)) (pgName 8)) (pSeq (pAsg (pC (.int 0)) (pgName 9)) (pSeq (pIf (pTst (pBin fIsN (pVar 3) (pC .non))) (pSeq (pAsg (pBin fMul (pIx (pQVar 8) (pVar 2)) (pVar 4)) (pgName 9)) (pNext)) (pNext)) (pSeq (pFor (pRng2 (pCons (pBin fAdd (pVar 7) (pC (.int 1))) (pCons (pVar 2) (pNil)))) (pgName 10) (pSeq (pAsg (pBin fSub (pVar 9) (pBin fMul (pIx (pQVar 8) (pVar 10)) (pIx (pQVar 5) (pVar 10)))) (pgName 9)) (pNext))) (pSeq (pAsg (pBin fDiv (pVar 9) (pIx (pQVar 8) (pVar 7))) (pgSub 5 (pVar 7))) (pNext)))))))) (pSeq (pFrz 5 (pRet (pToT (pQOf (pLc 9 (pISeq (pVar 5)) (pYes) (pCall sp_nu_low (pCons (pVar 9) (pCons (pVar 4) (pNil))))))))) (pNext))))))
/-- tb_free: slots 0 pivots, 1 left, 2 many, 3 c -/
def p_tb_free : PSm := pSeq (pRet (pToT (pQOf (pLc 3 (pRng1 (pCons (pVar 2) (pNil))) (pTst (pBin (fIn true) (pVar 3) (pVar 0))) (pCall sp_tb_filled (pCons (pVar 0) (pCons (pVar 1) (pCons (pVar 2) (pCons (pVar 3) (pNil)))))))))) (pNext)
/-- tb_answers: slots 0 rows, 1 due, 2 many, 3 wide, 4 pivots, 5 left, 6 k -/
def p_tb_answers : PSm := pSeq (pAsg (pLc 6 (pRng1 (pCons (pLen (pQVar 0)) (pNil))) (pYes) (pCall sp_tb_clear (pCons (pBin fAdd (pToL (pQOf (pIx (pQVar 0) (pVar 6)))) (pLst (pCons (pIx (pQVar 1) (pVar 6)) (pNil)))) (pNil)))) (pgName 3)) (pSeq (pFrz 3 (pAsg (pCall sp_tb_echelon (pCons (pVar 3) (pCons (pVar 2) (pNil)))) (pgTup 2 (pgCons (pgName 4) (pgCons (pgName 5) (pgNil)))))) (pSeq (pFor (pRng2 (pCons (pLen (pQVar 4)) (pCons (pLen (pQVar 5)) (pNil)))) (pgName 6) (pSeq (pIf (pTst (pBin fNe (pIx (pQOf (pIx (pQVar 5) (pVar 6))) (pVar 2)) (pC (.int 0)))) (pSeq (pRet (pC .non)) (pNext)) (pNext)) (pNext))) (pSeq (pRet (pTup (pCons (pCall sp_tb_filled (pCons (pVar 4) (pCons (pVar 5) (pCons (pVar 2) (pCons (pC .non) (pNil)))))) (pCons (pCall sp_tb_free (pCons (pVar 4) (pCons (pVar 5) (pCons (pVar 2) (pNil))))) (pNil))))) (pNext))))
/-- tb_base: slots 0 rows, 1 many, 2 pivots, 3 left, 4 row -/
def p_tb_base : PSm := pSeq (pAsg (pCall sp_tb_echelon (pCons (pLc 4 (pISeq (pVar 0)) (pYes) (pCall sp_tb_clear (pCons (pVar 4) (pNil)))) (pCons (pVar 1) (pNil)))) (pgTup 2 (pgCons (pgName 2) (pgCons (pgName 3) (pgNil))))) (pSeq (pRet (pCall sp_tb_free (pCons (pVar 2) (pCons (pVar 3) (pCons (pVar 1) (pNil)))))) (pNext))
/-- tb_rank: slots 0 rows, 1 many, 2 row -/
def p_tb_rank : PSm := pSeq (pRet (pLen (pQOf (pIx (pQOf (pCall sp_tb_echelon (pCons (pLc 2 (pISeq (pVar 0)) (pYes) (pCall sp_tb_clear (pCons (pVar 2) (pNil)))) (pCons (pVar 1) (pNil))))) (pC (.int 0)))))) (pNext)
/-- tb_turned: slots 0 rows, 1 many, 2 c, 3 row -/
def p_tb_turned : PSm := pSeq (pRet (pLc 2 (pRng1 (pCons (pVar 1) (pNil))) (pYes) (pToT (pQOf (pLc 3 (pISeq (pVar 0)) (pYes) (pIx (pQVar 3) (pVar 2))))))) (pNext)
/-- tb_paper: slots 0 rows, 1 due, 2 many, 3 table, 4 goal -/
def p_tb_paper : PSm := pSeq (pAsg (pBin fAdd (pCall sp_tb_turned (pCons (pVar 0) (pCons (pVar 2) (pNil)))) (pLst (pCons (pToT (pQVar 1)) (pNil)))) (pgName 3)) (pSeq (pAsg (pBin fAdd (pBin fMul (pLst (pCons (pTup (pCons (pC (.int 0)) (pCons (pC (.int 1)) (pNil)))) (pNil))) (pVar 2)) (pLst (pCons (pTup (pCons (pC (.int 1)) (pCons (pC (.int 1)) (pNil)))) (pNil)))) (pgName 4)) (pSeq (pFrz 3 (pFrz 4 (pRet (pIx (pQOf (pCall sp_tb_answers (pCons (pVar 3) (pCons (pVar 4) (pCons (pLen (pQVar 0)) (pNil)))))) (pC (.int 0)))))) (pNext)))
/-- solve: slots 0 rows, 1 due, 2 many, 3 table, 4 goal, 5 found, 6 row -/
def p_solve : PSm := pSeq (pDrop (pCall (sp_tb_look C_BadNumber C_BadTable C_TooMuch) (pCons (pVar 0) (pCons (pVar 2) (pCons (pC (.str "rows")) (pNil)))))) (pSeq (pDrop (pCall (sp_tb_look_due C_BadNumber C_BadTable C_TooMuch) (pCons (pVar 0) (pCons (pVar 1) (pNil))))) (pSeq (pDrop (pCall (sp_tb_look_size C_BadNumber C_BadTable C_TooMuch) (pCons (pVar 0) (pCons (pVar 2) (pCons (pC (.int 40)) (pNil)))))) (pSeq (pAsg (pLcR 6 (pISeq (pVar 0)) (pCall (sp_tb_numbers C_BadNumber C_BadTable C_TooMuch) (pCons (pVar 6) (pNil)))) (pgName 3)) (pSeq (pAsg (pCall (sp_tb_numbers C_BadNumber C_BadTable C_TooMuch) (pCons (pVar 1) (pNil))) (pgName 4)) (pSeq (pFrz 3 (pAsg (pCall sp_tb_answers (pCons (pVar 3) (pCons (pVar 4) (pCons (pVar 2) (pNil))))) (pgName 5))) (pSeq (pIf (pTst (pBin fIsN (pVar 5) (pC .non))) (pSeq (pFrz 3 (pRet (pTup (pCons (pC (.str "none")) (pCons (pCall sp_tb_paper (pCons (pVar 3) (pCons (pVar 4) (pCons (pVar 2) (pNil))))) (pNil)))))) (pNext)) (pNext)) (pSeq (pRet (pTup (pCons (pC (.str "all")) (pCons (pIx (pQVar 5) (pC (.int 0))) (pCons (pIx (pQVar 5) (pC (.int 1))) (pNil)))))) (pNext))))))))
/-- rank: slots 0 rows, 1 many, 2 row -/
def p_rank : PSm := pSeq (pDrop (pCall (sp_tb_look C_BadNumber C_BadTable C_TooMuch) (pCons (pVar 0) (pCons (pVar 1) (pCons (pC (.str "rows")) (pNil)))))) (pSeq (pDrop (pCall (sp_tb_look_size C_BadNumber C_BadTable C_TooMuch) (pCons (pVar 0) (pCons (pVar 1) (pCons (pC (.int 40)) (pNil)))))) (pSeq (pRet (pCall sp_tb_rank (pCons (pLcR 2 (pISeq (pVar 0)) (pCall (sp_tb_numbers C_BadNumber C_BadTable C_TooMuch) (pCons (pVar 2) (pNil)))) (pCons (pVar 1) (pNil))))) (pNext)))
/-- number_ties: slots 0 vectors, 1 many, 2 table, 3 row -/
def p_number_ties : PSm := pSeq (pDrop (pCall (sp_tb_look C_BadNumber C_BadTable C_TooMuch) (pCons (pVar 0) (pCons (pVar 1) (pCons (pC (.str "vectors")) (pNil)))))) (pSeq (pDrop (pCall (sp_tb_look_size C_BadNumber C_BadTable C_TooMuch) (pCons (pVar 0) (pCons (pVar 1) (pCons (pC (.int 40)) (pNil)))))) (pSeq (pAsg (pLcR 3 (pISeq (pVar 0)) (pCall (sp_tb_numbers C_BadNumber C_BadTable C_TooMuch) (pCons (pVar 3) (pNil)))) (pgName 2)) (pSeq (pFrz 2 (pRet (pCall sp_tb_base (pCons (pCall sp_tb_turned (pCons (pVar 2) (pCons (pVar 1) (pNil)))) (pCons (pLen (pQVar 2)) (pNil)))))) (pNext))))
/-- _law_stream: slots 0 script, 1 row, 2 at, 3 cell, 4 turn, 5 seed -/
def p__law_stream : PSm := pSeq (pAsg (pLst (pNil)) (pgName 1)) (pSeq (pFor (pRng1 (pCons (pCB fMin (pCons (pLen (pQVar 0)) (pCons (pC (.int 63)) (pNil)))) (pNil))) (pgName 2) (pSeq (pAsg (pCB fInt (pCons (pIx (pQVar 0) (pVar 2)) (pNil))) (pgName 3)) (pSeq (pIf (pTst (pBin fLt (pVar 3) (pC (.int 0)))) (pSeq (pAsg (pBin fSub (pC (.int 0)) (pVar 3)) (pgName 3)) (pNext)) (pNext)) (pSeq (pIf (pTst (pBin fGe (pVar 3) (pBin fPow (pC (.int 10)) (pC (.int 18))))) (pSeq (pFor (pRng1 (pCons (pC (.int 40)) (pNil))) (pgName 4) (pSeq (pApp 1 (pBin fMod (pCB fInt (pCons (pVar 3) (pNil))) (pC (.int 97)))) (pSeq (pAsg (pBin fDiv (pVar 3) (pC (.int 97))) (pgName 3)) (pNext)))) (pNext)) (pSeq (pAsg (pBin fMod (pCB fInt (pCons (pBin fAdd (pBin fAdd (pBin fMul (pVar 3) (pC (.int 7919))) (pBin fMul (pVar 2) (pC (.int 104729)))) (pC (.int 12289))) (pNil))) (pC (.int 1000003))) (pgName 5)) (pSeq (pFor (pRng1 (pCons (pC (.int 6)) (pNil))) (pgName 4) (pSeq (pAsg (pBin fMod (pCB fInt (pCons (pBin fAdd (pBin fAdd (pBin fAdd (pBin fMul (pVar 5) (pVar 5)) (pBin fMul (pVar 4) (pC (.int 6151)))) (pBin fMul (pVar 2) (pC (.int 31)))) (pC (.int 5))) (pNil))) (pC (.int 999983))) (pgName 5)) (pSeq (pApp 1 (pVar 5)) (pNext)))) (pNext)))) (pNext))))) (pSeq (pRev 1) (pSeq (pRetN 1) (pNext))))
/-- _law_next: slots 0 row, 1 many -/
def p__law_next : PSm := pSeq (pIf (pTst (pBin fEq (pLenD 0) (pC (.int 0)))) (pSeq (pRet (pC (.int 0))) (pNext)) (pNext)) (pSeq (pRet (pBin fMod (pCB fInt (pCons (pPopD 0) (pNil))) (pVar 1))) (pNext))
/-- _law_int: slots 0 value -/
def p__law_int : PSm := pSeq (pRet (pAndV (pIsi "int" (pVar 0)) (pNotV (pIsi "bool" (pVar 0))))) (pNext)
/-- _law_gcd: slots 0 one, 1 other, 2 turn, 3 rest -/
def p__law_gcd : PSm := pSeq (pAsg (pCB fAbs (pCons (pVar 0) (pNil))) (pgName 0)) (pSeq (pAsg (pCB fAbs (pCons (pVar 1) (pNil))) (pgName 1)) (pSeq (pFor (pRng1 (pCons (pBin fAdd (pBin fMul (pC (.int 2)) (pBits (pVar 1))) (pC (.int 10))) (pNil))) (pgName 2) (pSeq (pIf (pTst (pBin fNe (pVar 1) (pC (.int 0)))) (pSeq (pAsg (pBin fMod (pVar 0) (pVar 1)) (pgName 3)) (pSeq (pAsg (pVar 1) (pgName 0)) (pSeq (pAsg (pVar 3) (pgName 1)) (pNext)))) (pNext)) (pNext))) (pSeq (pRetN 0) (pNext))))
/-- _law_num: slots 0 top, 1 bottom, 2 shared -/
def p__law_num : PSm := pSeq (pAsg (pCall sp__law_gcd (pCons (pVar 0) (pCons (pVar 1) (pNil)))) (pgName 2)) (pSeq (pIf (pTst (pBin fLt (pVar 1) (pC (.int 0)))) (pSeq (pAsg (pBin fSub (pC (.int 0)) (pVar 2)) (pgName 2)) (pNext)) (pNext)) (pSeq (pRet (pTup (pCons (pBin fDiv (pVar 0) (pVar 2)) (pCons (pBin fDiv (pVar 1) (pVar 2)) (pNil))))) (pNext)))
/-- _law_nplus: slots 0 one, 1 other -/
def p__law_nplus : PSm := pSeq (pRet (pCall sp__law_num (pCons (pBin fAdd (pBin fMul (pIx (pQVar 0) (pC (.int 0))) (pIx (pQVar 1) (pC (.int 1)))) (pBin fMul (pIx (pQVar 1) (pC (.int 0))) (pIx (pQVar 0) (pC (.int 1))))) (pCons (pBin fMul (pIx (pQVar 0) (pC (.int 1))) (pIx (pQVar 1) (pC (.int 1)))) (pNil))))) (pNext)
/-- _law_ntimes: slots 0 one, 1 other -/
def p__law_ntimes : PSm := pSeq (pRet (pCall sp__law_num (pCons (pBin fMul (pIx (pQVar 0) (pC (.int 0))) (pIx (pQVar 1) (pC (.int 0)))) (pCons (pBin fMul (pIx (pQVar 0) (pC (.int 1))) (pIx (pQVar 1) (pC (.int 1)))) (pNil))))) (pNext)
/-- _law_is_num: slots 0 value -/
def p__law_is_num : PSm := pSeq (pIf (pOr (pNotT (pTst (pIsi "tuple" (pVar 0)))) (pTst (pBin fNe (pLen (pQVar 0)) (pC (.int 2))))) (pSeq (pRet (pC (.bl false))) (pNext)) (pNext)) (pSeq (pIf (pOr (pNotT (pTst (pCall sp__law_int (pCons (pIx (pQVar 0) (pC (.int 0))) (pNil))))) (pNotT (pTst (pCall sp__law_int (pCons (pIx (pQVar 0) (pC (.int 1))) (pNil)))))) (pSeq (pRet (pC (.bl false))) (pNext)) (pNext)) (pSeq (pRet (pAndV (pBin fGe (pIx (pQVar 0) (pC (.int 1))) (pC (.int 1))) (pBin fEq (pCall sp__law_gcd (pCons (pIx (pQVar 0) (pC (.int 0))) (pCons (pIx (pQVar 0) (pC (.int 1))) (pNil)))) (pC (.int 1))))) (pNext)))
/-- _law_drawn: slots 0 draws, 1 top -/
def p__law_drawn : PSm := pSeq (pAsg (pBin fSub (pCall sp__law_next (pCons (pVar 0) (pCons (pC (.int 9)) (pNil)))) (pC (.int 4))) (pgName 1)) (pSeq (pIf (pTst (pBin fEq (pCall sp__law_next (pCons (pVar 0) (pCons (pC (.int 24)) (pNil)))) (pC (.int 23)))) (pSeq (pAsg (pBin fAdd (pBin fMul (pVar 1) (pBin fPow (pC (.int 10)) (pC (.int 39)))) (pC (.int 11))) (pgName 1)) (pNext)) (pNext)) (pSeq (pRet (pCall sp__law_num (pCons (pVar 1) (pCons (pBin fAdd (pC (.int 1)) (pCall sp__law_next (pCons (pVar 0) (pCons (pC (.int 3)) (pNil))))) (pNil))))) (pNext)))
/-- _law_dot: slots 0 one, 1 other, 2 made, 3 at -/
def p__law_dot : PSm := pSeq (pAsg (pTup (pCons (pC (.int 0)) (pCons (pC (.int 1)) (pNil)))) (pgName 2)) (pSeq (pFor (pRng1 (pCons (pLen (pQVar 0)) (pNil))) (pgName 3) (pSeq (pAsg (pCall sp__law_nplus (pCons (pVar 2) (pCons (pCall sp__law_ntimes (pCons (pIx (pQVar 0) (pVar 3)) (pCons (pIx (pQVar 1) (pVar 3)) (pNil)))) (pNil)))) (pgName 2)) (pNext))) (pSeq (pRetN 2) (pNext)))
/-- _law_mix: slots 0 weights, 1 rows, 2 many, 3 at, 4 row -/
def p__law_mix : PSm := pSeq (pRet (pLc 3 (pRng1 (pCons (pVar 2) (pNil))) (pYes) (pCall sp__law_dot (pCons (pVar 0) (pCons (pLc 4 (pISeq (pVar 1)) (pYes) (pIx (pQVar 4) (pVar 3))) (pNil)))))) (pNext)
/-- _law_rows: slots 0 draws, 1 many, 2 kept, 3 turn, 4 rows, 5 weights, 6 at -/
def p__law_rows : PSm := pSeq (pAsg (pLst (pNil)) (pgName 2)) (pSeq (pFor (pRng1 (pCons (pBin fAdd (pC (.int 1)) (pCall sp__law_next (pCons (pVar 0) (pCons (pC (.int 3)) (pNil))))) (pNil))) (pgName 3) (pSeq (pApp 2 (pLc 6 (pRng1 (pCons (pVar 1) (pNil))) (pYes) (pCall sp__law_drawn (pCons (pVar 0) (pNil))))) (pNext))) (pSeq (pAsg (pLst (pNil)) (pgName 4)) (pSeq (pFrz 2 (pFor (pRng1 (pCons (pCall sp__law_next (pCons (pVar 0) (pCons (pC (.int 6)) (pNil)))) (pNil))) (pgName 3) (pSeq (pAsg (pLc 6 (pRng1 (pCons (pLen (pQVar 2)) (pNil))) (pYes) (pTup (pCons (pBin fSub (pCall sp__law_next (pCons (pVar 0) (pCons (pC (.int 5)) (pNil)))) (pC (.int 2))) (pCons (pC (.int 1)) (pNil))))) (pgName 5)) (pSeq (pFrz 5 (pFrz 2 (pApp 4 (pCall sp__law_mix (pCons (pVar 5) (pCons (pVar 2) (pCons (pVar 1) (pNil)))))))) (pNext))))) (pSeq (pRetN 4) (pNext)))))
/-- _law_rank: slots 0 table, 1 many, 2 rows, 3 line, 4 low, 5 num, 6 found, 7 column, 8 spot, 9 at, 10 lead, 11 to -/
def p__law_rank : PSm := pSeq (pAsg (pLst (pNil)) (pgName 2)) (pSeq (pFor (pISeq (pVar 0)) (pgName 3) (pSeq (pAsg (pC (.int 1)) (pgName 4)) (pSeq (pFor (pISeq (pVar 3)) (pgName 5) (pSeq (pAsg (pBin fDiv (pBin fMul (pVar 4) (pIx (pQVar 5) (pC (.int 1)))) (pCall sp__law_gcd (pCons (pVar 4) (pCons (pIx (pQVar 5) (pC (.int 1))) (pNil))))) (pgName 4)) (pNext))) (pSeq (pApp 2 (pLc 5 (pISeq (pVar 3)) (pYes) (pBin fMul (pIx (pQVar 5) (pC (.int 0))) (pBin fDiv (pVar 4) (pIx (pQVar 5) (pC (.int 1))))))) (pNext))))) (pSeq (pAsg (pC (.int 0)) (pgName 6)) (pSeq (pFor (pRng1 (pCons (pVar 1) (pNil))) (pgName 7) (pSeq (pAsg (pNeg (pC (.int 1))) (pgName 8)) (pSeq (pFor (pRng2 (pCons (pVar 6) (pCons (pLen (pQVar 2)) (pNil)))) (pgName 9) (pSeq (pIf (pAnd (pTst (pBin fLt (pVar 8) (pC (.int 0)))) (pTst (pBin fNe (pIx (pQOf (pIx (pQVar 2) (pVar 9))) (pVar 7)) (pC (.int 0))))) (pSeq (pAsg (pVar 9) (pgName 8)) (pNext)) (pNext)) (pNext))) (pSeq (pIf (pTst (pBin fGe (pVar 8) (pC (.int 0)))) (pSeq (pAsg (pIx (pQVar 2) (pVar 8)) (pgName 10)) (pSeq (pAsg (pIx (pQVar 2) (pVar 6)) (pgSub 2 (pVar 8))) (pSeq (pAsg (pVar 10) (pgSub 2 (pVar 6))) (pSeq (pFor (pRng2 (pCons (pBin fAdd (pVar 6) (pC (.int 1))) (pCons (pLen (pQVar 2)) (pNil)))) (pgName 9) (pSeq (pAsg (pIx (pQVar 2) (pVar 9)) (pgName 3)) (pSeq (pAsg (pLc 11 (pRng1 (pCons (pVar 1) (pNil))) (pYes) (pBin fSub (pBin fMul (pIx (pQVar 3) (pVar 11)) (pIx (pQVar 10) (pVar 7))) (pBin fMul (pIx (pQVar 10) (pVar 11)) (pIx (pQVar 3) (pVar 7))))) (pgSub 2 (pVar 9))) (pNext)))) (pSeq (pAsg (pBin fAdd (pVar 6) (pC (.int 1))) (pgName 6)) (pNext)))))) (pNext)) (pNext))))) (pSeq (pRetN 6) (pNext)))))
/-- _law_is_row: slots 0 told, 1 many, 2 num -/
def p__law_is_row : PSm := pSeq (pIf (pOr (pNotT (pTst (pIsi "tuple" (pVar 0)))) (pTst (pBin fNe (pLen (pQVar 0)) (pVar 1)))) (pSeq (pRet (pC (.bl false))) (pNext)) (pNext)) (pSeq (pFor (pISeq (pVar 0)) (pgName 2) (pSeq (pIf (pNotT (pTst (pCall sp__law_is_num (pCons (pVar 2) (pNil))))) (pSeq (pRet (pC (.bl false))) (pNext)) (pNext)) (pNext))) (pSeq (pRet (pC (.bl true))) (pNext)))
/-- _law_is_base: slots 0 told, 1 rows, 2 many, 3 due, 4 line, 5 row -/
def p__law_is_base : PSm := pSeq (pIf (pOr (pNotT (pTst (pIsi "tuple" (pVar 0)))) (pTst (pBin fNe (pLen (pQVar 0)) (pVar 3)))) (pSeq (pRet (pC (.bl false))) (pNext)) (pNext)) (pSeq (pFor (pISeq (pVar 0)) (pgName 4) (pSeq (pIf (pNotT (pTst (pCall sp__law_is_row (pCons (pVar 4) (pCons (pVar 2) (pNil)))))) (pSeq (pRet (pC (.bl false))) (pNext)) (pNext)) (pSeq (pFor (pISeq (pVar 1)) (pgName 5) (pSeq (pIf (pTst (pBin fNe (pCall sp__law_dot (pCons (pVar 5) (pCons (pVar 4) (pNil)))) (pTup (pCons (pC (.int 0)) (pCons (pC (.int 1)) (pNil)))))) (pSeq (pRet (pC (.bl false))) (pNext)) (pNext)) (pNext))) (pNext)))) (pSeq (pRet (pBin fEq (pCall sp__law_rank (pCons (pVar 0) (pCons (pVar 2) (pNil)))) (pVar 3))) (pNext)))
/-- _law_asked: slots 0 draws, 1 num, 2 kind -/
def p__law_asked : PSm := pSeq (pAsg (pCall sp__law_next (pCons (pVar 0) (pCons (pC (.int 3)) (pNil)))) (pgName 2)) (pSeq (pIf (pAnd (pTst (pBin fEq (pVar 2) (pC (.int 1)))) (pTst (pBin fEq (pIx (pQVar 1) (pC (.int 1))) (pC (.int 1))))) (pSeq (pRet (pIx (pQVar 1) (pC (.int 0)))) (pNext)) (pNext)) (pSeq (pIf (pTst (pBin fEq (pVar 2) (pC (.int 2)))) (pSeq (pRet (pLst (pCons (pBin fMul (pIx (pQVar 1) (pC (.int 0))) (pC (.int 6))) (pCons (pBin fMul (pIx (pQVar 1) (pC (.int 1))) (pC (.int 6))) (pNil))))) (pNext)) (pNext)) (pSeq (pRetN 1) (pNext))))
/-- _law_handed: slots 0 draws, 1 rows, 2 made, 3 row, 4 line, 5 num -/
def p__law_handed : PSm := pSeq (pAsg (pLst (pNil)) (pgName 2)) (pSeq (pFor (pISeq (pVar 1)) (pgName 3) (pSeq (pAsg (pLc 5 (pISeq (pVar 3)) (pYes) (pCall sp__law_asked (pCons (pVar 0) (pCons (pVar 5) (pNil))))) (pgName 4)) (pSeq (pIf (pTst (pBin fEq (pCall sp__law_next (pCons (pVar 0) (pCons (pC (.int 2)) (pNil)))) (pC (.int 0)))) (pSeq (pApp 2 (pToT (pQVar 4))) (pNext)) (pSeq (pFrz 4 (pApp 2 (pVar 4))) (pNext))) (pNext)))) (pSeq (pIf (pTst (pBin fEq (pCall sp__law_next (pCons (pVar 0) (pCons (pC (.int 2)) (pNil)))) (pC (.int 0)))) (pSeq (pRet (pToT (pQVar 2))) (pNext)) (pNext)) (pSeq (pRetN 2) (pNext))))
/-- _law_judged: slots 0 draws, 1 rows, 2 due, 3 many, 4 handed, 5 goal, 6 told, 7 size, 8 wide, 9 at -/
def p__law_judged : PSm := pSeq (pAsg (pCall sp__law_handed (pCons (pVar 0) (pCons (pVar 1) (pNil)))) (pgName 4)) (pSeq (pAsg (pIx (pQOf (pCall sp__law_handed (pCons (pVar 0) (pCons (pLst (pCons (pVar 2) (pNil))) (pNil))))) (pC (.int 0))) (pgName 5)) (pSeq (pFrz 4 (pAsg (pCall (sp_solve C_BadNumber C_BadTable C_TooMuch) (pCons (pVar 4) (pCons (pVar 5) (pCons (pVar 3) (pNil))))) (pgName 6))) (pSeq (pAsg (pCall sp__law_rank (pCons (pVar 1) (pCons (pVar 3) (pNil)))) (pgName 7)) (pSeq (pAsg (pLc 9 (pRng1 (pCons (pLen (pQVar 1)) (pNil))) (pYes) (pBin fAdd (pIx (pQVar 1) (pVar 9)) (pLst (pCons (pIx (pQVar 2) (pVar 9)) (pNil))))) (pgName 8)) (pSeq (pIf (pOr (pNotT (pTst (pIsi "tuple" (pVar 6)))) (pOr (pTst (pBin fLt (pLen (pQVar 6)) (pC (.int 2)))) (pNotT (pTst (pIsi "str" (pIx (pQVar 6) (pC (.int 0)))))))) (pSeq (pRet (pC .non)) (pNext)) (pNext)) (pSeq (pFrz 8 (pIf (pTst (pBin fGt (pCall sp__law_rank (pCons (pVar 8) (pCons (pBin fAdd (pVar 3) (pC (.int 1))) (pNil)))) (pVar 7))) (pSeq (pIf (pOr (pTst (pBin fNe (pIx (pQVar 6) (pC (.int 0))) (pC (.str "none")))) (pOr (pTst (pBin fNe (pLen (pQVar 6)) (pC (.int 2)))) (pNotT (pTst (pCall sp__law_is_row (pCons (pIx (pQVar 6) (pC (.int 1))) (pCons (pLen (pQVar 1)) (pNil)))))))) (pSeq (pRet (pC .non)) (pNext)) (pNext)) (pSeq (pIf (pOr (pTst (pBin fNe (pCall sp__law_mix (pCons (pIx (pQVar 6) (pC (.int 1))) (pCons (pVar 1) (pCons (pVar 3) (pNil))))) (pBin fMul (pLst (pCons (pTup (pCons (pC (.int 0)) (pCons (pC (.int 1)) (pNil)))) (pNil))) (pVar 3)))) (pTst (pBin fNe (pCall sp__law_dot (pCons (pIx (pQVar 6) (pC (.int 1))) (pCons (pVar 2) (pNil)))) (pTup (pCons (pC (.int 1)) (pCons (pC (.int 1)) (pNil))))))) (pSeq (pRet (pC .non)) (pNext)) (pNext)) (pSeq (pRet (pC (.str "none"))) (pNext)))) (pNext))) (pSeq (pIf (pOr (pTst (pBin fNe (pIx (pQVar 6) (pC (.int 0))) (pC (.str "all")))) (pOr (pTst (pBin fNe (pLen (pQVar 6)) (pC (.int 3)))) (pNotT (pTst (pCall sp__law_is_row (pCons (pIx (pQVar 6) (pC (.int 1))) (pCons (pVar 3) (pNil)))))))) (pSeq (pRet (pC .non)) (pNext)) (pNext)) (pSeq (pFor (pRng1 (pCons (pLen (pQVar 1)) (pNil))) (pgName 9) (pSeq (pIf (pTst (pBin fNe (pCall sp__law_dot (pCons (pIx (pQVar 1) (pVar 9)) (pCons (pIx (pQVar 6) (pC (.int 1))) (pNil)))) (pIx (pQVar 2) (pVar 9)))) (pSeq (pRet (pC .non)) (pNext)) (pNext)) (pNext))) (pSeq (pIf (pNotT (pTst (pCall sp__law_is_base (pCons (pIx (pQVar 6) (pC (.int 2))) (pCons (pVar 1) (pCons (pVar 3) (pCons (pBin fSub (pVar 3) (pVar 7)) (pNil)))))))) (pSeq (pRet (pC .non)) (pNext)) (pNext)) (pSeq (pRet (pC (.str "all"))) (pNext)))))))))))
/-- _law_turned: slots 0 rows, 1 many, 2 at, 3 row -/
def p__law_turned : PSm := pSeq (pRet (pLc 2 (pRng1 (pCons (pVar 1) (pNil))) (pYes) (pLc 3 (pISeq (pVar 0)) (pYes) (pIx (pQVar 3) (pVar 2))))) (pNext)
/-- _law_counted: slots 0 draws, 1 rows, 2 many, 3 size, 4 handed, 5 told, 6 ties -/
def p__law_counted : PSm := pSeq (pAsg (pCall sp__law_rank (pCons (pVar 1) (pCons (pVar 2) (pNil)))) (pgName 3)) (pSeq (pAsg (pCall sp__law_handed (pCons (pVar 0) (pCons (pVar 1) (pNil)))) (pgName 4)) (pSeq (pFrz 4 (pAsg (pCall (sp_rank C_BadNumber C_BadTable C_TooMuch) (pCons (pVar 4) (pCons (pVar 2) (pNil)))) (pgName 5))) (pSeq (pIf (pOr (pNotT (pTst (pCall sp__law_int (pCons (pVar 5) (pNil))))) (pTst (pBin fNe (pVar 5) (pVar 3)))) (pSeq (pRet (pC (.bl false))) (pNext)) (pNext)) (pSeq (pFrz 4 (pAsg (pCall (sp_number_ties C_BadNumber C_BadTable C_TooMuch) (pCons (pVar 4) (pCons (pVar 2) (pNil)))) (pgName 6))) (pSeq (pIf (pNotT (pTst (pCall sp__law_is_base (pCons (pVar 6) (pCons (pCall sp__law_turned (pCons (pVar 1) (pCons (pVar 2) (pNil)))) (pCons (pLen (pQVar 1)) (pCons (pBin fSub (pLen (pQVar 1)) (pVar 3)) (pNil)))))))) (pSeq (pRet (pC (.bl false))) (pNext)) (pNext)) (pSeq (pRet (pAndV (pBin fEq (pCall (sp_rank C_BadNumber C_BadTable C_TooMuch) (pCons (pLst (pNil)) (pCons (pVar 2) (pNil)))) (pC (.int 0))) (pBin fEq (pCall (sp_number_ties C_BadNumber C_BadTable C_TooMuch) (pCons (pTup (pNil)) (pCons (pVar 2) (pNil)))) (pTup (pNil))))) (pNext)))))))
/-- _law_word: slots 0 which, 1 seen, 2 raised, 3 at -/
def p__law_word : PSm := pSeq (pAsg (pC .non) (pgName 1)) (pSeq (pTry 2 C_BadTable (pSeq (pIf (pTst (pBin fEq (pVar 0) (pC (.int 0)))) (pSeq (pDrop (pCall (sp_solve C_BadNumber C_BadTable C_TooMuch) (pCons (pLst (pCons (pLst (pCons (pC (.int 1)) (pNil))) (pCons (pLst (pCons (pC (.int 1)) (pCons (pC (.int 2)) (pNil)))) (pNil)))) (pCons (pC .non) (pCons (pC (.bl true)) (pNil)))))) (pNext)) (pSeq (pIf (pTst (pBin fEq (pVar 0) (pC (.int 1)))) (pSeq (pDrop (pCall (sp_solve C_BadNumber C_BadTable C_TooMuch) (pCons (pLst (pNil)) (pCons (pLst (pNil)) (pCons (pNeg (pC (.int 1))) (pNil)))))) (pNext)) (pSeq (pIf (pTst (pBin fEq (pVar 0) (pC (.int 2)))) (pSeq (pDrop (pCall (sp_solve C_BadNumber C_BadTable C_TooMuch) (pCons (pLst (pCons (pLst (pCons (pC (.int 1)) (pCons (pC (.int 2)) (pNil)))) (pCons (pLst (pCons (pC (.int 1)) (pNil))) (pNil)))) (pCons (pC .non) (pCons (pC (.int 2)) (pNil)))))) (pNext)) (pSeq (pIf (pTst (pBin fEq (pVar 0) (pC (.int 3)))) (pSeq (pDrop (pCall (sp_solve C_BadNumber C_BadTable C_TooMuch) (pCons (pLst (pCons (pLst (pCons (pC (.int 1)) (pCons (pC (.int 2)) (pNil)))) (pNil))) (pCons (pLst (pCons (pC (.int 1)) (pCons (pC (.int 2)) (pNil)))) (pCons (pC (.int 2)) (pNil)))))) (pNext)) (pSeq (pIf (pTst (pBin fEq (pVar 0) (pC (.int 4)))) (pSeq (pDrop (pCall (sp_rank C_BadNumber C_BadTable C_TooMuch) (pCons (pLst (pCons (pLst (pCons (pC .non) (pCons (pC (.int 2)) (pNil)))) (pCons (pC (.int 7)) (pNil)))) (pCons (pC (.int 2)) (pNil))))) (pNext)) (pSeq (pIf (pTst (pBin fEq (pVar 0) (pC (.int 5)))) (pSeq (pDrop (pCall (sp_number_ties C_BadNumber C_BadTable C_TooMuch) (pCons (pLst (pCons (pLst (pCons (pC (.int 1)) (pCons (pC .non) (pNil)))) (pCons (pLst (pCons (pC (.int 1)) (pNil))) (pNil)))) (pCons (pC (.int 2)) (pNil))))) (pNext)) (pSeq (pIf (pTst (pBin fEq (pVar 0) (pC (.int 6)))) (pSeq (pDrop (pCall (sp_number_ties C_BadNumber C_BadTable C_TooMuch) (pCons (pLst (pCons (pLst (pCons (pC (.int 1)) (pCons (pC .non) (pNil)))) (pCons (pLst (pCons (pC (.int 1)) (pNil))) (pNil)))) (pCons (pC .non) (pNil))))) (pNext)) (pSeq (pDrop (pCall (sp_solve C_BadNumber C_BadTable C_TooMuch) (pCons (pLc 3 (pRng1 (pCons (pC (.int 41)) (pNil))) (pYes) (pLst (pCons (pC .non) (pCons (pC (.int 2)) (pNil))))) (pCons (pLst (pCons (pC (.int 1)) (pNil))) (pCons (pC (.int 2)) (pNil)))))) (pNext))) (pNext))) (pNext))) (pNext))) (pNext))) (pNext))) (pNext))) (pNext)) (fun a d => pSeq (pAsg (pExF 2 a d "handed") (pgName 1)) (pNext))) (pSeq (pRetN 1) (pNext)))
/-- _law_bad_value: slots 0 which, 1 seen, 2 raised -/
def p__law_bad_value : PSm := pSeq (pAsg (pLst (pNil)) (pgName 1)) (pSeq (pTry 2 C_BadNumber (pSeq (pIf (pTst (pBin fEq (pVar 0) (pC (.int 0)))) (pSeq (pDrop (pCall (sp_solve C_BadNumber C_BadTable C_TooMuch) (pCons (pLst (pCons (pLst (pCons (pC (.int 1)) (pCons (pTup (pCons (pC (.int 2)) (pCons (pC (.int 4)) (pNil)))) (pNil)))) (pCons (pLst (pCons (pTup (pCons (pC (.int 1)) (pCons (pC (.int 0)) (pNil)))) (pCons (pC (.bl true)) (pNil)))) (pNil)))) (pCons (pLst (pCons (pC .non) (pCons (pC (.int 1)) (pNil)))) (pCons (pC (.int 2)) (pNil)))))) (pNext)) (pSeq (pIf (pTst (pBin fEq (pVar 0) (pC (.int 1)))) (pSeq (pDrop (pCall (sp_solve C_BadNumber C_BadTable C_TooMuch) (pCons (pLst (pCons (pLst (pCons (pC (.int 1)) (pCons (pC (.int 2)) (pNil)))) (pNil))) (pCons (pLst (pCons (pC .non) (pNil))) (pCons (pC (.int 2)) (pNil)))))) (pNext)) (pSeq (pIf (pTst (pBin fEq (pVar 0) (pC (.int 2)))) (pSeq (pDrop (pCall (sp_rank C_BadNumber C_BadTable C_TooMuch) (pCons (pLst (pCons (pLst (pCons (pC (.int 1)) (pCons (pC (.bl true)) (pNil)))) (pNil))) (pCons (pC (.int 2)) (pNil))))) (pNext)) (pSeq (pDrop (pCall (sp_number_ties C_BadNumber C_BadTable C_TooMuch) (pCons (pLst (pCons (pLst (pCons (pC (.int 1)) (pCons (pC (.int 2)) (pNil)))) (pCons (pLst (pCons (pTup (pCons (pC (.int 1)) (pCons (pNeg (pC (.int 2))) (pNil)))) (pCons (pC (.int 3)) (pNil)))) (pNil)))) (pCons (pC (.int 2)) (pNil))))) (pNext))) (pNext))) (pNext))) (pNext)) (fun a d => pSeq (pAsg (pLst (pCons (pExF 2 a d "handed") (pNil))) (pgName 1)) (pNext))) (pSeq (pRetN 1) (pNext)))
/-- _law_much: slots 0 which, 1 size, 2 seen, 3 told, 4 raised, 5 at -/
def p__law_much : PSm := pSeq (pAsg (pC .non) (pgName 2)) (pSeq (pAsg (pC .non) (pgName 3)) (pSeq (pTry 4 C_TooMuch (pSeq (pIf (pTst (pBin fEq (pVar 0) (pC (.int 0)))) (pSeq (pAsg (pCall (sp_rank C_BadNumber C_BadTable C_TooMuch) (pCons (pLc 5 (pRng1 (pCons (pVar 1) (pNil))) (pYes) (pLst (pCons (pTup (pCons (pC (.int 1)) (pCons (pC (.int 2)) (pNil)))) (pNil)))) (pCons (pC (.int 1)) (pNil)))) (pgName 3)) (pNext)) (pSeq (pIf (pTst (pBin fEq (pVar 0) (pC (.int 1)))) (pSeq (pAsg (pBin fAdd (pBin fSub (pLen (pQOf (pCall (sp_number_ties C_BadNumber C_BadTable C_TooMuch) (pCons (pLst (pCons (pLst (pNil)) (pNil))) (pCons (pBin fSub (pVar 1) (pVar 1)) (pNil)))))) (pC (.int 1))) (pCall (sp_rank C_BadNumber C_BadTable C_TooMuch) (pCons (pLst (pNil)) (pCons (pVar 1) (pNil))))) (pgName 3)) (pNext)) (pSeq (pAsg (pBin fSub (pLen (pQOf (pIx (pQOf (pCall (sp_solve C_BadNumber C_BadTable C_TooMuch) (pCons (pLst (pCons (pBin fMul (pLst (pCons (pC (.int 0)) (pNil))) (pVar 1)) (pNil))) (pCons (pLst (pCons (pC (.int 0)) (pNil))) (pCons (pVar 1) (pNil)))))) (pC (.int 2))))) (pVar 1)) (pgName 3)) (pNext))) (pNext))) (pNext)) (fun a d => pSeq (pAsg (pTup (pCons (pExF 4 a d "word") (pCons (pExF 4 a d "most") (pNil)))) (pgName 2)) (pNext))) (pSeq (pRet (pLst (pCons (pVar 2) (pCons (pVar 3) (pNil))))) (pNext))))
/-- _law_refused: slots 0 words, 1 which, 2 handed -/
def p__law_refused : PSm := pSeq (pAsg (pLst (pCons (pC (.str "many")) (pCons (pC (.str "many")) (pCons (pC (.str "rows")) (pCons (pC (.str "due")) (pCons (pC (.str "rows")) (pCons (pC (.str "vectors")) (pCons (pC (.str "many")) (pCons (pC (.str "due")) (pNil)))))))))) (pgName 0)) (pSeq (pFor (pRng1 (pCons (pC (.int 8)) (pNil))) (pgName 1) (pSeq (pIf (pTst (pBin fNe (pCall sp__law_word (pCons (pVar 1) (pNil))) (pIx (pQVar 0) (pVar 1)))) (pSeq (pRet (pC (.bl false))) (pNext)) (pNext)) (pNext))) (pSeq (pIf (pOr (pTst (pBin fNe (pCall sp__law_bad_value (pCons (pC (.int 0)) (pNil))) (pLst (pCons (pTup (pCons (pC (.int 1)) (pCons (pC (.int 0)) (pNil)))) (pNil))))) (pOr (pTst (pBin fNe (pCall sp__law_bad_value (pCons (pC (.int 1)) (pNil))) (pLst (pCons (pC .non) (pNil))))) (pTst (pBin fNe (pCall sp__law_bad_value (pCons (pC (.int 3)) (pNil))) (pLst (pCons (pTup (pCons (pC (.int 1)) (pCons (pNeg (pC (.int 2))) (pNil)))) (pNil))))))) (pSeq (pRet (pC (.bl false))) (pNext)) (pNext)) (pSeq (pAsg (pCall sp__law_bad_value (pCons (pC (.int 2)) (pNil))) (pgName 2)) (pSeq (pIf (pOr (pTst (pBin fNe (pLen (pQVar 2)) (pC (.int 1)))) (pTst (pBin fNotB (pIx (pQVar 2) (pC (.int 0))) (pC (.bl true))))) (pSeq (pRet (pC (.bl false))) (pNext)) (pNext)) (pSeq (pFor (pRng1 (pCons (pC (.int 3)) (pNil))) (pgName 1) (pSeq (pIf (pTst (pBin fNe (pCall sp__law_much (pCons (pVar 1) (pCons (pC (.int 40)) (pNil)))) (pLst (pCons (pC .non) (pCons (pIx (pQOf (pLst (pCons (pC (.int 1)) (pCons (pC (.int 0)) (pCons (pC (.int 0)) (pNil)))))) (pVar 1)) (pNil)))))) (pSeq (pRet (pC (.bl false))) (pNext)) (pNext)) (pSeq (pIf (pTst (pBin fNe (pCall sp__law_much (pCons (pVar 1) (pCons (pC (.int 41)) (pNil)))) (pLst (pCons (pTup (pCons (pC (.str "table")) (pCons (pC (.int 40)) (pNil)))) (pCons (pC .non) (pNil)))))) (pSeq (pRet (pC (.bl false))) (pNext)) (pNext)) (pNext)))) (pSeq (pRet (pC (.bl true))) (pNext)))))))
/-- law: slots 0 script, 1 draws, 2 many, 3 rows, 4 answer, 5 weights, 6 due, 7 spoilt, 8 last, 9 free, 10 at, 11 row, 12 num -/
def p_law : PSm := pStrm 1 (pCall sp__law_stream (pCons (pVar 0) (pNil))) (pSeq (pAsg (pCall sp__law_next (pCons (pVar 1) (pCons (pC (.int 6)) (pNil)))) (pgName 2)) (pSeq (pAsg (pCall sp__law_rows (pCons (pVar 1) (pCons (pVar 2) (pNil)))) (pgName 3)) (pSeq (pAsg (pLc 10 (pRng1 (pCons (pVar 2) (pNil))) (pYes) (pCall sp__law_drawn (pCons (pVar 1) (pNil)))) (pgName 4)) (pSeq (pAsg (pLc 10 (pRng1 (pCons (pLen (pQVar 3)) (pNil))) (pYes) (pTup (pCons (pBin fSub (pCall sp__law_next (pCons (pVar 1) (pCons (pC (.int 5)) (pNil)))) (pC (.int 2))) (pCons (pC (.int 1)) (pNil))))) (pgName 5)) (pSeq (pFrz 5 (pApp 3 (pLend 3 (pCall sp__law_mix (pCons (pVar 5) (pCons (pVar 3) (pCons (pVar 2) (pNil)))))))) (pSeq (pFrz 4 (pFrz 3 (pAsg (pLc 11 (pISeq (pVar 3)) (pYes) (pCall sp__law_dot (pCons (pVar 11) (pCons (pVar 4) (pNil))))) (pgName 6)))) (pSeq (pFrz 3 (pFrz 6 (pIf (pTst (pBin fNe (pCall sp__law_judged (pCons (pVar 1) (pCons (pVar 3) (pCons (pVar 6) (pCons (pVar 2) (pNil)))))) (pC (.str "all")))) (pSeq (pRet (pC (.bl false))) (pNext)) (pNext)))) (pSeq (pFrz 6 (pAsg (pLc 12 (pISeq (pVar 6)) (pYes) (pVar 12)) (pgName 7))) (pSeq (pAsg (pBin fSub (pLen (pQVar 7)) (pC (.int 1))) (pgName 8)) (pSeq (pAsg (pCall sp__law_nplus (pCons (pIx (pQVar 7) (pVar 8)) (pCons (pTup (pCons (pBin fAdd (pC (.int 1)) (pCall sp__law_next (pCons (pVar 1) (pCons (pC (.int 5)) (pNil))))) (pCons (pBin fAdd (pC (.int 1)) (pCall sp__law_next (pCons (pVar 1) (pCons (pC (.int 2)) (pNil))))) (pNil)))) (pNil)))) (pgSub 7 (pVar 8))) (pSeq (pFrz 3 (pFrz 7 (pIf (pTst (pBin fNe (pCall sp__law_judged (pCons (pVar 1) (pCons (pVar 3) (pCons (pVar 7) (pCons (pVar 2) (pNil)))))) (pC (.str "none")))) (pSeq (pRet (pC (.bl false))) (pNext)) (pNext)))) (pSeq (pFrz 3 (pAsg (pLc 11 (pISeq (pVar 3)) (pYes) (pCall sp__law_drawn (pCons (pVar 1) (pNil)))) (pgName 9))) (pSeq (pFrz 3 (pFrz 9 (pIf (pTst (pBin fIsN (pCall sp__law_judged (pCons (pVar 1) (pCons (pVar 3) (pCons (pVar 9) (pCons (pVar 2) (pNil)))))) (pC .non))) (pSeq (pRet (pC (.bl false))) (pNext)) (pNext)))) (pSeq (pFrz 3 (pIf (pNotT (pTst (pCall sp__law_counted (pCons (pVar 1) (pCons (pVar 3) (pCons (pVar 2) (pNil))))))) (pSeq (pRet (pC (.bl false))) (pNext)) (pNext))) (pSeq (pRet (pCall0 sp__law_refused)) (pNext))))))))))))))))
end
end K05
end
section
set_option Elab.async false
set_option linter.all false
set_option maxRecDepth 100000
namespace K05
open PySem L2 Py LA
/-- the ends of a def's body -/
abbrev ends (Q : Res → List Int → Prop) (E : PX → List Int → Prop) : PEnds := ⟨fun _ S' => Q (.dat .non) S', Q, fun _ _ => False, fun _ _ => False, fun x _ S' => E x S'⟩
theorem abs_eq (i : Int) : (if i < 0 then -i else i) = (i.natAbs : Int) := by split <;> omega
theorem pf_nu_integer : ∀ rs S Q E, sp_nu_integer rs S Q E → p_nu_integer (ends Q E) (rs.map Res.slot ++ List.replicate (1 - rs.length) .un) S := by
  rintro rs S Q E ⟨d, rfl, h, q⟩
  cases d <;> simp_all [p_nu_integer, isI]
theorem pf_nu_gcd : ∀ rs S Q E, sp_nu_gcd rs S Q E → p_nu_gcd (ends Q E) (rs.map Res.slot ++ List.replicate (2 - rs.length) .un) S := by
  rintro rs S Q E ⟨a, b, rfl, q⟩
  simp [p_nu_gcd, abs_eq]
  refine while_ind (fun m sl S' => ∃ x y : Nat, sl = [.dat (.int x), .dat (.int y)] ∧ S' = S ∧ Nat.gcd x y = Int.gcd a b ∧ m = y) b.natAbs ⟨a.natAbs, b.natAbs, rfl, rfl, rfl, rfl⟩ ?_
  rintro m sl S' N ⟨x, y, rfl, rfl, hg, rfl⟩ hN
  by_cases h : m = 0
  · subst h
    simp at hg ⊢
    rw [hg]
    exact q
  · have h2 : (m : Int) ≠ 0 := by omega
    simp [h, h2]
    refine hN (x % m) _ _ (Nat.mod_lt x (by omega)) ⟨m, x % m, ?_, rfl, ?_, rfl⟩
    · rw [Int.fmod_eq_emod_of_nonneg _ (by omega)]
      rfl
    · rw [← hg, Nat.gcd_comm x m, Nat.gcd_rec m x, Nat.gcd_comm]
theorem nD_low {a b g : Int} (hb : b ≠ 0) (hg : g = if b < 0 then -(Int.gcd a b : Int) else (Int.gcd a b : Int)) : nD (Rat.divInt a b) = .tup [.int (a.fdiv g), .int (b.fdiv g)] := by
  have g0 : 0 < Int.gcd a b := Int.gcd_pos_of_ne_zero_right a hb
  obtain ⟨s, hs⟩ : (Int.gcd a b : Int) ∣ a := Int.gcd_dvd_left ..
  obtain ⟨t, ht⟩ : (Int.gcd a b : Int) ∣ b := Int.gcd_dvd_right ..
  generalize hG : Int.gcd a b = G at *
  have hG0 : (G : Int) ≠ 0 := by omega
  have e1 : (Rat.divInt a b).num = b.sign * s := by
    rw [Rat.num_divInt, Int.gcd_comm b a, hG]
    have : b.sign * a = G * (b.sign * s) := by rw [hs]; simp [Int.mul_left_comm]
    rw [this, Int.mul_ediv_cancel_left _ hG0]
  have e2 : ((Rat.divInt a b).den : Int) = t.natAbs := by
    rw [Rat.den_divInt, if_neg hb, Int.gcd_comm b a, hG]
    have : b.natAbs = G * t.natAbs := by rw [ht, Int.natAbs_mul]; simp
    rw [this, Nat.mul_div_cancel_left _ g0]
  show D.tup [.int (Rat.divInt a b).num, .int (Rat.divInt a b).den] = _
  rw [e1, e2, hg]
  have gp : (0 : Int) < G := by omega
  by_cases h : b < 0
  · rw [if_pos h, Int.sign_eq_neg_one_of_neg h]
    have ht0 : t < 0 := by
      by_cases z : t < 0
      · exact z
      · have := Int.mul_nonneg (Int.le_of_lt gp) (Int.not_lt.mp z)
        omega
    have q1 : a = -(G : Int) * (-s) := by rw [Int.neg_mul_neg]; exact hs
    have q2 : b = -(G : Int) * (-t) := by rw [Int.neg_mul_neg]; exact ht
    rw [show a.fdiv (-(G : Int)) = -s by rw [q1, Int.mul_fdiv_cancel_left _ (by omega)], show b.fdiv (-(G : Int)) = -t by rw [q2, Int.mul_fdiv_cancel_left _ (by omega)]]
    have : (t.natAbs : Int) = -t := by omega
    rw [this]
    simp
  · rw [if_neg h, Int.sign_eq_one_of_pos (by omega)]
    have ht0 : 0 < t := by
      by_cases z : 0 < t
      · exact z
      · have := Int.mul_nonneg (Int.le_of_lt gp) (Int.neg_nonneg_of_nonpos (Int.not_lt.mp z))
        rw [Int.mul_neg, ← ht] at this
        omega
    rw [show a.fdiv (G : Int) = s by rw [hs, Int.mul_fdiv_cancel_left _ hG0], show b.fdiv (G : Int) = t by rw [ht, Int.mul_fdiv_cancel_left _ hG0]]
    have : (t.natAbs : Int) = t := by omega
    rw [this]
    simp
theorem pf_nu_low : ∀ rs S Q E, sp_nu_low rs S Q E → p_nu_low (ends Q E) (rs.map Res.slot ++ List.replicate (3 - rs.length) .un) S := by
  rintro rs S Q E ⟨a, b, rfl, hb, hf, q⟩
  have hg0 : (Int.gcd a b : Int) ≠ 0 := by
    have := Int.gcd_pos_of_ne_zero_right a hb
    omega
  have hz : (2 : Nat) ≤ sizeLine := by decide
  simp [p_nu_low]
  refine ⟨a, b, rfl, ?_⟩
  by_cases h : b < 0
  · rw [nD_low hb rfl] at q
    simp [h] at q
    simp [h, CDv]
    refine ⟨?_, hz, q⟩
    refine ⟨by omega, ?_⟩
    simpa [fits] using hf
  · rw [nD_low hb rfl] at q
    simp [h] at q
    simp [h, CDv]
    refine ⟨?_, hz, q⟩
    refine ⟨by omega, ?_⟩
    simpa [fits] using hf
theorem log_le {a b : Nat} (h : a ≤ b) : a.log2 ≤ b.log2 := by
  by_cases z : a = 0
  · subst z; simp
  · exact (Nat.le_log2 (by omega)).mpr (Nat.le_trans (Nat.log2_self_le z) h)
theorem fits_gcd {a b : Int} (hb : 1 ≤ b) (h : fits b) : fits (Int.gcd a b) := by
  have h1 : Int.gcd a b ≤ b.natAbs := Nat.le_of_dvd (by omega) (Int.gcd_dvd_natAbs_right a b)
  have := log_le h1
  unfold fits at h ⊢
  rw [Int.natAbs_natCast]
  omega
theorem numOf_pair {x y : D} : numOf (.tup [x, y]) = numOf (.lst [x, y]) := by
  cases x <;> first | rfl | (cases y <;> rfl)
theorem nD_int (i : Int) : nD (i : Rat) = .tup [.int i, .int 1] := by
  show D.tup [.int (i : Rat).num, .int (i : Rat).den] = _
  rw [Rat.num_intCast, Rat.den_intCast]
  rfl
theorem pf_number (C_BadNumber : Addr) {C_BadTable C_TooMuch : Addr} : ∀ rs S Q E, sp_number C_BadNumber C_BadTable C_TooMuch rs S Q E → p_number C_BadNumber (ends Q E) (rs.map Res.slot ++ List.replicate (3 - rs.length) .un) S := by
  rintro rs S Q E ⟨d, rfl, ok, q⟩
  have hz : (2 : Nat) ≤ sizeLine := by decide
  cases d with
  | int i =>
    simp [numOf, nD_int] at q
    simp [p_number, sp_nu_integer, isI]
    exact ⟨hz, q⟩
  | non => simp [numOf] at q; simp [p_number, sp_nu_integer, isI]; exact q
  | bl b => simp [numOf] at q; simp [p_number, sp_nu_integer, isI]; exact q
  | str x => simp [numOf] at q; simp [p_number, sp_nu_integer, isI]; exact q
  | obj c ns xs => exact ok.elim
  | frl xs => exact ok.elim
  | tup xs =>
    match xs, ok, q with
    | [x, y], ok, q =>
      have ox : okI x := ok x (by simp)
      have oy : okI y := ok y (by simp)
      simp [p_number, sp_nu_integer, isI]
      cases x <;> first | exact ox.elim | (simp [numOf] at q; simp; exact q) | skip
      rename_i i
      cases y <;> first | exact oy.elim | (simp [numOf] at q; simp; exact q) | skip
      rename_i j
      by_cases h : 1 ≤ j
      · simp [numOf, h] at q
        simp [h, sp_nu_low]
        exact ⟨i, j, ⟨rfl, rfl⟩, by omega, fits_gcd h oy, q⟩
      · simp [numOf, h] at q
        simp [h]
        exact q
    | [], ok, q => simp [numOf] at q; simp [p_number, sp_nu_integer, isI]; exact q
    | [x], ok, q => simp [numOf] at q; simp [p_number, sp_nu_integer, isI]; exact q
    | x :: y :: z :: r, ok, q =>
      have h : ¬ ((r.length : Int) + 1 + 1 + 1 = 2) := by omega
      simp [numOf] at q
      simp [p_number, sp_nu_integer, isI, h]
      exact q
  | lst xs =>
    match xs, ok, q with
    | [x, y], ok, q =>
      have ox : okI x := ok x (by simp)
      have oy : okI y := ok y (by simp)
      simp [p_number, sp_nu_integer, isI]
      cases x <;> first | exact ox.elim | (simp [numOf] at q; simp; exact q) | skip
      rename_i i
      cases y <;> first | exact oy.elim | (simp [numOf] at q; simp; exact q) | skip
      rename_i j
      by_cases h : 1 ≤ j
      · simp [numOf, h] at q
        simp [h, sp_nu_low]
        exact ⟨i, j, ⟨rfl, rfl⟩, by omega, fits_gcd h oy, q⟩
      · simp [numOf, h] at q
        simp [h]
        exact q
    | [], ok, q => simp [numOf] at q; simp [p_number, sp_nu_integer, isI]; exact q
    | [x], ok, q => simp [numOf] at q; simp [p_number, sp_nu_integer, isI]; exact q
    | x :: y :: z :: r, ok, q =>
      have h : ¬ ((r.length : Int) + 1 + 1 + 1 = 2) := by omega
      simp [numOf] at q
      simp [p_number, sp_nu_integer, isI, h]
      exact q
theorem pf_tb_lists : ∀ rs S Q E, sp_tb_lists rs S Q E → p_tb_lists (ends Q E) (rs.map Res.slot ++ List.replicate (3 - rs.length) .un) S := by
  rintro rs S Q E ⟨d, many, rfl, ok, q⟩
  have loop : ∀ (xs : List D), d.seq = some xs → forRun (pgName 2) (pSeq (pIf (pOr (pNotT (pTst (pIsi2 "tuple" "list" (pVar 2)))) (pTst (pBin fNe (pLen (pQVar 2)) (pVar 1)))) (pSeq (pRet (pC (.bl false))) (pNext)) (pNext)) (pNext)) { ends Q E with nx := fun sl S1 => Q (.dat (.bl true)) S1 } xs [.dat d, .dat (.int many), .un] S := by
    intro xs hd
    have hq : Q (.dat (.bl (xs.all (isRw many)))) S := by simpa [isTab, hd] using q
    refine for_ind (fun i sl S' => S' = S ∧ (∃ s, sl = [.dat d, .dat (.int many), s]) ∧ ∀ j x, j < i → xs[j]? = some x → isRw many x = true) ⟨rfl, ⟨_, rfl⟩, fun j x hj => by omega⟩ ?_ ?_
    · rintro i x sl S' N hi ⟨rfl, ⟨s, rfl⟩, hv⟩ hN
      have hx : noObj x := ok.2 xs hd x (List.mem_of_getElem? hi)
      have bad : isRw many x = false → Q (.dat (.bl false)) S' := fun h => by
        have : xs.all (isRw many) = false := by
          rw [← Bool.not_eq_true, List.all_eq_true]
          intro z
          have := z x (List.mem_of_getElem? hi)
          rw [h] at this
          cases this
        rw [this] at hq
        exact hq
      have good : isRw many x = true → ∀ s, N [.dat d, .dat (.int many), s] S' := fun h s => hN _ _ ⟨rfl, ⟨s, rfl⟩, fun j y hj hy => by
        by_cases e : j = i
        · subst e
          rw [hi] at hy
          cases hy
          exact h
        · exact hv j y (by omega) hy⟩
      cases x with
      | obj c ns xs => exact hx.elim
      | lst ys => by_cases h : (ys.length : Int) = many <;> simp [isRw, D.seq, h] at bad good ⊢ <;> first | exact good _ | exact bad
      | frl ys => by_cases h : (ys.length : Int) = many <;> simp [isRw, D.seq, h] at bad good ⊢ <;> first | exact good _ | exact bad
      | tup ys => by_cases h : (ys.length : Int) = many <;> simp [isRw, D.seq, h] at bad good ⊢ <;> first | exact good _ | exact bad
      | non => simp [isRw, D.seq] at bad ⊢; exact bad
      | bl b => simp [isRw, D.seq] at bad ⊢; exact bad
      | int b => simp [isRw, D.seq] at bad ⊢; exact bad
      | str b => simp [isRw, D.seq] at bad ⊢; exact bad
    · rintro sl S' ⟨rfl, _, hv⟩
      have : xs.all (isRw many) = true := List.all_eq_true.mpr fun x hx => by
        obtain ⟨j, hj, e⟩ := List.mem_iff_getElem.mp hx
        exact hv j x hj (by rw [List.getElem?_eq_getElem hj, e])
      rw [this] at hq
      exact hq
  cases d with
  | obj c ns xs => exact ok.1.elim
  | lst xs => have := loop xs rfl; simp [p_tb_lists]; exact this
  | frl xs => have := loop xs rfl; simp [p_tb_lists]; exact this
  | tup xs => have := loop xs rfl; simp [p_tb_lists]; exact this
  | non => simp [isTab, D.seq] at q; simp [p_tb_lists]; exact q
  | bl b => simp [isTab, D.seq] at q; simp [p_tb_lists]; exact q
  | int b => simp [isTab, D.seq] at q; simp [p_tb_lists]; exact q
  | str b => simp [isTab, D.seq] at q; simp [p_tb_lists]; exact q
theorem pf_tb_look (C_BadTable : Addr) {C_BadNumber C_TooMuch : Addr} : ∀ rs S Q E, sp_tb_look C_BadNumber C_BadTable C_TooMuch rs S Q E → p_tb_look C_BadTable (ends Q E) (rs.map Res.slot ++ List.replicate (3 - rs.length) .un) S := by
  rintro rs S Q E ⟨d, m, word, rfl, hm, ok, q⟩
  cases m with
  | obj c ns xs => exact hm.elim
  | int n =>
    by_cases h : n < 0
    · simp [h] at q
      simp [p_tb_look, sp_nu_integer, isI, h]
      exact q
    · by_cases h2 : isTab d n = true
      · simp [h, h2] at q
        simp [p_tb_look, sp_nu_integer, sp_tb_lists, isI, h, ok]
        exact ⟨d, n, ⟨rfl, rfl⟩, ok, by simp [h2]; exact q⟩
      · simp [h, h2] at q
        simp [p_tb_look, sp_nu_integer, sp_tb_lists, isI, h, ok]
        exact ⟨d, n, ⟨rfl, rfl⟩, ok, by simp [h2]; exact q⟩
  | _ => simp [p_tb_look, sp_nu_integer, isI]; exact q
theorem pf_tb_look_due (C_BadTable : Addr) {C_BadNumber C_TooMuch : Addr} : ∀ rs S Q E, sp_tb_look_due C_BadNumber C_BadTable C_TooMuch rs S Q E → p_tb_look_due C_BadTable (ends Q E) (rs.map Res.slot ++ List.replicate (2 - rs.length) .un) S := by
  rintro rs S Q E ⟨d, xs, due, rfl, hd, hn, q⟩
  cases d <;> simp [D.seq] at hd <;> subst hd <;> cases due <;> first | exact hn.elim | (simp [D.seq] at q; simp [p_tb_look_due]; exact q) | (simp [D.seq] at q; simp [p_tb_look_due]; split at q <;> split <;> first | exact q | omega)
theorem pf_tb_look_size (C_TooMuch : Addr) {C_BadNumber C_BadTable : Addr} : ∀ rs S Q E, sp_tb_look_size C_BadNumber C_BadTable C_TooMuch rs S Q E → p_tb_look_size C_TooMuch (ends Q E) (rs.map Res.slot ++ List.replicate (3 - rs.length) .un) S := by
  rintro rs S Q E ⟨d, xs, n, m, rfl, hd, q⟩
  cases d <;> simp [D.seq] at hd <;> subst hd <;> simp [p_tb_look_size] <;> split at q <;> repeat' split
  all_goals first | exact q | omega
theorem lcR_nums {C_BadNumber : Addr} {i : Nat} {pe : PEx} {sl : List Slot} {E : PX → List Int → Prop} {S : List Int}
    (hpe : ∀ x (N : D → List Int → Prop), okN x → (match numOf x with | some q => N (nD q) S | none => E ⟨C_BadNumber, ["handed"], [x]⟩ S) → dat pe (sl.set i (.dat x)) S N E) :
    ∀ (xs : List D) (Q : List D → List Int → Prop), (∀ x ∈ xs, okN x) → (match numsOf xs with | .inl qs => Q (qs.map nD) S | .inr b => E ⟨C_BadNumber, ["handed"], [b]⟩ S) → lcRunR i pe xs sl S Q E
  | [], Q, _, q => q
  | x :: r, Q, ok, q => by
    simp only [lcRunR]
    refine hpe x _ (ok x (by simp)) ?_
    cases h : numOf x with
    | none => simpa [numsOf, h] using q
    | some v =>
      refine lcR_nums hpe r _ (fun y hy => ok y (by simp [hy])) ?_
      cases h2 : numsOf r with
      | inl qs => simpa [numsOf, h, h2] using q
      | inr b => simpa [numsOf, h, h2] using q
theorem pf_tb_numbers (C_BadNumber C_BadTable C_TooMuch : Addr) : ∀ rs S Q E, sp_tb_numbers C_BadNumber C_BadTable C_TooMuch rs S Q E → p_tb_numbers C_BadNumber C_BadTable C_TooMuch (ends Q E) (rs.map Res.slot ++ List.replicate (2 - rs.length) .un) S := by
  rintro rs S Q E ⟨d, xs, rfl, hd, hl, ok, q⟩
  have hs : d = .lst xs ∨ d = .frl xs ∨ d = .tup xs := by cases d <;> simp_all [D.seq]
  have key : lcRunR 1 (pCall (sp_number C_BadNumber C_BadTable C_TooMuch) (pCons (pVar 1) pNil)) xs [.dat d, .un] S (fun ys S2 => Q (.dat (.tup ys)) S2) E := by
    refine lcR_nums (C_BadNumber := C_BadNumber) (fun x N hx hq => ?_) xs _ ok q
    simp [sp_number]
    refine ⟨hx, ?_⟩
    cases h : numOf x with
    | none => simpa [h] using hq
    | some v => simpa [h] using hq
  rcases hs with rfl | rfl | rfl <;> simp [p_tb_numbers, noOwn] <;> exact ⟨hl, key⟩
end K05
end
section
set_option Elab.async false
set_option linter.all false
set_option maxRecDepth 100000
namespace K05
open PySem L2 Py LA
theorem pf__law_int : ∀ rs S Q E, sp__law_int rs S Q E → p__law_int (ends Q E) (rs.map Res.slot ++ List.replicate (1 - rs.length) .un) S := by
  rintro rs S Q E ⟨d, rfl, h, q⟩
  cases d <;> simp_all [p__law_int, isI]
theorem pf__law_next : ∀ rs S Q E, sp__law_next rs S Q E → p__law_next (ends Q E) (rs.map Res.slot ++ List.replicate (2 - rs.length) .un) S := by
  rintro rs S Q E ⟨many, rfl, h, q⟩
  have hne : many ≠ 0 := by omega
  cases hs : S.getLast? with
  | none =>
    have : S = [] := List.getLast?_eq_none_iff.mp hs
    subst this
    simp [p__law_next]
    exact q 0 [] (Int.le_refl 0) h
  | some n =>
    have : S ≠ [] := fun z => by rw [z] at hs; cases hs
    have hl : ¬ ((S.length : Int) = 0) := by
      have := List.length_pos_iff.mpr this
      omega
    simp [p__law_next, hl, pPopD, hs, hne, this]
    exact q _ _ (Int.fmod_nonneg_of_pos n h) (Int.fmod_lt_of_pos n h)
theorem nBits_le {n : Nat} {b : Int} (h : sz n b) : nBits b ≤ n ∧ b.natAbs < 2 ^ nBits b := by
  unfold nBits
  exact ⟨PySem.intBits_le_iff.mpr h, PySem.intBits_le_iff.mp (Nat.le_refl _)⟩
theorem rng_len (lo c : Int) (n : Nat) : (rng lo c n).length = n := by simp [rng]
theorem rng_get {lo c : Int} {n i : Nat} {d : D} (h : (rng lo c n)[i]? = some d) : i < n ∧ d = .int (lo + (i : Int) * c) := by
  unfold rng at h
  rw [List.getElem?_map] at h
  by_cases z : i < n
  · rw [List.getElem?_range z] at h
    exact ⟨z, (Option.some.inj h).symm⟩
  · rw [List.getElem?_eq_none (by simp; omega)] at h
    cases h
theorem half_step {x y B i : Nat} (h : y < x) (hy : 0 < y) (hp : x * y * 2 ^ i < 2 ^ B) : x % y = 0 ∨ (x % y < y ∧ y * (x % y) * 2 ^ (i + 1) < 2 ^ B) := by
  right
  refine ⟨Nat.mod_lt x hy, Nat.lt_of_le_of_lt ?_ hp⟩
  have h1 := Nat.div_add_mod x y
  have h2 : 1 ≤ x / y := (Nat.one_le_div_iff hy).mpr (Nat.le_of_lt h)
  have h3 : y * 1 ≤ y * (x / y) := Nat.mul_le_mul_left y h2
  have h4 := Nat.mod_lt x hy
  have h5 : x % y * 2 ≤ x := by omega
  rw [Nat.pow_succ]
  calc y * (x % y) * (2 ^ i * 2) = (x % y * 2) * (y * 2 ^ i) := by ac_rfl
    _ ≤ x * (y * 2 ^ i) := Nat.mul_le_mul_right _ h5
    _ = x * y * 2 ^ i := by ac_rfl
theorem pf__law_gcd : ∀ rs S Q E, sp__law_gcd rs S Q E → p__law_gcd (ends Q E) (rs.map Res.slot ++ List.replicate (4 - rs.length) .un) S := by
  rintro rs S Q E ⟨a, b, n, rfl, hb, hn, q⟩
  have hbn : sz n (b.natAbs : Int) := by unfold sz at *; simpa using hb
  obtain ⟨hB, hlt⟩ := nBits_le hbn
  simp only [Int.natAbs_natCast] at hlt
  generalize hBg : nBits (b.natAbs : Int) = B at *
  have hn40 : n ≤ 1099511627776 := hn
  simp [p__law_gcd, abs_eq, hBg]
  refine ⟨?_, ?_, ?_⟩
  · refine cmul (a := 2) (b := 41) (by unfold sz; decide) (show ((B : Nat) : Int).natAbs < 2 ^ 41 from ?_) (by decide)
    rw [Int.natAbs_natCast]
    have : (2 : Nat) ^ 41 = 2199023255552 := by decide
    omega
  · constructor <;> omega
  · refine for_ind (fun i sl S' => S' = S ∧ ∃ (x y : Nat) (s2 s3 : Slot), sl = [.dat (.int x), .dat (.int y), s2, s3] ∧ Nat.gcd x y = Int.gcd a b ∧ ((i = 0 ∧ y < 2 ^ B) ∨ y = 0 ∨ (0 < i ∧ y < x ∧ x * y * 2 ^ (i - 1) < 2 ^ (B + B)))) ⟨rfl, a.natAbs, b.natAbs, .un, .un, rfl, rfl, .inl ⟨rfl, hlt⟩⟩ ?_ ?_
    · rintro i d sl S' N hi ⟨rfl, x, y, s2, s3, rfl, hg, hv⟩ hN
      by_cases h : y = 0
      · subst h
        simp
        exact hN _ _ ⟨rfl, x, 0, _, s3, rfl, hg, .inr (.inl rfl)⟩
      · have h2 : (y : Int) ≠ 0 := by omega
        simp [h]
        refine hN _ _ ⟨rfl, y, x % y, .dat d, .dat (.int ((x : Int).fmod y)), ?_, ?_, ?_⟩
        · have : (x : Int).fmod (y : Int) = ((x % y : Nat) : Int) := by
            rw [Int.fmod_eq_emod_of_nonneg _ (by omega)]
            rfl
          rw [this]
        · rw [← hg, Nat.gcd_comm x y, Nat.gcd_rec y x, Nat.gcd_comm]
        · have hy : 0 < y := by omega
          rcases hv with ⟨rfl, hv⟩ | hv | ⟨hi0, hv, hp⟩
          · refine .inr (.inr ⟨by omega, Nat.mod_lt x hy, ?_⟩)
            show y * (x % y) * 2 ^ 0 < _
            rw [Nat.pow_add, Nat.pow_zero, Nat.mul_one]
            exact Nat.mul_lt_mul'' hv (Nat.lt_trans (Nat.mod_lt x hy) hv)
          · exact absurd hv h
          · rcases half_step hv hy hp with z | ⟨z1, z2⟩
            · exact .inr (.inl z)
            · refine .inr (.inr ⟨by omega, z1, ?_⟩)
              have e : i + 1 - 1 = i - 1 + 1 := by omega
              rw [e]
              exact z2
    · rintro sl S' ⟨rfl, x, y, s2, s3, rfl, hg, hv⟩
      have hlen : (rng 0 1 (2 * (B : Int) + 10).toNat).length = 2 * B + 10 := by rw [rng_len]; omega
      rw [hlen] at hv
      have hy0 : y = 0 := by
        rcases hv with ⟨z, _⟩ | z | ⟨_, hv, hp⟩
        · omega
        · exact z
        · by_cases hy : y = 0
          · exact hy
          · exfalso
            have h1 : 1 ≤ x * y := Nat.mul_pos (by omega) (by omega)
            have h2 : 2 ^ (B + B) ≤ 2 ^ (2 * B + 10 - 1) := Nat.pow_le_pow_right (by decide) (by omega)
            have h3 := Nat.mul_le_mul_right (2 ^ (2 * B + 10 - 1)) h1
            omega
      subst hy0
      simp at hg
      simp [hg]
      exact q
theorem pf__law_num : ∀ rs S Q E, sp__law_num rs S Q E → p__law_num (ends Q E) (rs.map Res.slot ++ List.replicate (3 - rs.length) .un) S := by
  rintro rs S Q E ⟨a, b, n, rfl, hb, hs, hn, q⟩
  have hg0 : (Int.gcd a b : Int) ≠ 0 := by
    have := Int.gcd_pos_of_ne_zero_right a hb
    omega
  have hz : (2 : Nat) ≤ sizeLine := by decide
  have hn2 : n ≤ 2 ^ 40 := Nat.le_trans (Nat.le_of_lt hn) (by decide)
  have hf : fits (Int.gcd a b) := fits_sz (sz_gcd hs hb) hn
  unfold fits at hf
  simp [p__law_num]
  refine ⟨a, b, n, rfl, hs, hn2, ?_⟩
  by_cases h : b < 0
  · rw [nD_low hb rfl] at q
    simp [h] at q
    simp [h, CDv]
    exact ⟨⟨by omega, by simpa using hf⟩, hz, q⟩
  · rw [nD_low hb rfl] at q
    simp [h] at q
    simp [h, CDv]
    exact ⟨⟨by omega, by simpa using hf⟩, hz, q⟩
theorem at0 (a b : D) : atI [a, b] 0 = some a := rfl
theorem at1 (a b : D) : atI [a, b] 1 = some b := rfl
theorem sz_den {b : Nat} {q : Rat} (h : q.den < 2 ^ b) : sz b (q.den : Int) := by unfold sz; simpa using h
theorem add_divInt2 (p : Rat) (a : Int) (c : Nat) (hc : 0 < c) : p + Rat.divInt a c = Rat.divInt (p.num * c + a * p.den) (p.den * c) := by
  have h1 : (p.den : Int) ≠ 0 := by have := p.den_nz; omega
  have h2 : (c : Int) ≠ 0 := by omega
  have e : p = Rat.divInt p.num p.den := (Rat.num_divInt_den p).symm
  rw [← Rat.divInt_add_divInt _ _ h1 h2, ← e]
theorem pf__law_nplus : ∀ rs S Q E, sp__law_nplus rs S Q E → p__law_nplus (ends Q E) (rs.map Res.slot ++ List.replicate (2 - rs.length) .un) S := by
  have key : ∀ (p : Rat) (a : Int) (c b : Nat) (S : List Int) (Q : Res → List Int → Prop) (E : PX → List Int → Prop), 0 < c → SQ b p → sz b a → c < 2 ^ b → b ≤ 100000 → p.den * c < 2 ^ 8999 → Q (.dat (nD (p + Rat.divInt a c))) S → p__law_nplus (ends Q E) [.dat (nD p), .dat (.tup [.int a, .int (c : Nat)])] S := by
    intro p a c b S Q E hc hp ha hcb hb hd q
    have sc : sz b (c : Int) := by unfold sz; simpa using hcb
    have c1 := cmul hp.1 sc (by omega)
    have c2 := cmul ha (sz_den hp.2) (by omega)
    have c3 := cmul (sz_den hp.2) sc (by omega)
    have hne : (p.den : Int) * (c : Int) ≠ 0 := Int.mul_ne_zero (by have := p.den_nz; omega) (by omega)
    rw [add_divInt2 p a c hc] at q
    simp [p__law_nplus, nD, at0, at1, c1, c2, c3]
    refine ⟨_, _, 8999, rfl, hne, ?_, by decide, q⟩
    unfold sz
    rw [Int.natAbs_mul]
    simpa using hd
  rintro rs S Q E (⟨p, r, b, rfl, hp, hr, hb, hd, q⟩ | ⟨p, a, c, b, rfl, hc, hp, ha, hcb, hb, hd, q⟩)
  · have e : Rat.divInt r.num r.den = r := Rat.num_divInt_den r
    exact key p r.num r.den b S Q E (Nat.pos_of_ne_zero r.den_nz) hp hr.1 hr.2 hb hd (by rw [e]; exact q)
  · exact key p a c b S Q E hc hp ha hcb hb hd q
theorem pf__law_ntimes : ∀ rs S Q E, sp__law_ntimes rs S Q E → p__law_ntimes (ends Q E) (rs.map Res.slot ++ List.replicate (2 - rs.length) .un) S := by
  rintro rs S Q E ⟨p, r, b, rfl, hp, hr, hb, hd, q⟩
  have c1 := cmul hp.1 hr.1 (by omega)
  have c3 := cmul (sz_den hp.2) (sz_den hr.2) (by omega)
  rw [mul_divInt] at q
  simp [p__law_ntimes, nD, at0, at1, c1, c3]
  refine ⟨_, _, 8999, rfl, den_ne p r, ?_, by decide, q⟩
  unfold sz
  rw [Int.natAbs_mul]
  simpa using hd
theorem pf__law_is_num : ∀ rs S Q E, sp__law_is_num rs S Q E → p__law_is_num (ends Q E) (rs.map Res.slot ++ List.replicate (1 - rs.length) .un) S := by
  rintro rs S Q E ⟨r, b, rfl, hr, hb, q⟩
  have h1 : (1 : Int) ≤ (r.den : Int) := by
    have := r.den_nz
    omega
  have hg : Int.gcd r.num r.den = 1 := r.reduced
  have hb2 : b ≤ 2 ^ 40 := Nat.le_trans hb (by decide)
  simp [p__law_is_num, nD, at0, at1, sp__law_int, isI, h1]
  refine ⟨r.num, r.den, b, rfl, sz_den hr.2, hb2, ?_⟩
  simp [hg]
  exact q
end K05
end
section
set_option Elab.async false
set_option linter.all false
set_option maxRecDepth 100000
namespace K05
open PySem L2 Py LA
theorem divInt_den {a b : Int} (hb : b ≠ 0) : (Rat.divInt a b).den ∣ b.natAbs := by
  have c := cross (q := Rat.divInt a b) hb rfl
  have d : (Rat.divInt a b).den ∣ (Rat.divInt a b).num.natAbs * b.natAbs := by
    have := congrArg Int.natAbs c
    rw [Int.natAbs_mul, Int.natAbs_mul] at this
    simp at this
    rw [this]
    exact Nat.dvd_mul_left ..
  exact Nat.Coprime.dvd_of_dvd_mul_left (Nat.Coprime.symm (Rat.divInt a b).reduced) d
theorem divInt_vb {a b : Int} {N : Nat} (hb : b ≠ 0) (h : a.natAbs ≤ N) : vb N (Rat.divInt a b) := by
  have c := cross (q := Rat.divInt a b) hb rfl
  have e := congrArg Int.natAbs c
  rw [Int.natAbs_mul, Int.natAbs_mul] at e
  simp at e
  have hb1 : 1 ≤ b.natAbs := by omega
  have h1 := Nat.mul_le_mul_left (Rat.divInt a b).num.natAbs hb1
  have h2 := Nat.mul_le_mul_right (Rat.divInt a b).den h
  unfold vb
  omega
theorem drawn_num {Q : Res → List Int → Prop} (top n : Int) (S' : List Int) (ht : top.natAbs ≤ N0) (h0 : 0 ≤ n) (h3 : n < 3) (q : ∀ q S', DQ q → Q (.dat (nD q)) S') (E : PX → List Int → Prop) : sp__law_num [.dat (.int top), .dat (.int (1 + n))] S' Q E := by
  refine ⟨top, 1 + n, 2, rfl, by omega, by unfold sz; omega, by decide, q _ _ ⟨?_, divInt_vb (by omega) ht⟩⟩
  have h := divInt_den (a := top) (b := 1 + n) (by omega)
  have : (1 + n).natAbs = 1 ∨ (1 + n).natAbs = 2 ∨ (1 + n).natAbs = 3 := by omega
  rcases this with z | z | z <;> rw [z] at h <;> exact Nat.dvd_trans h (by decide)
theorem pf__law_drawn : ∀ rs S Q E, sp__law_drawn rs S Q E → p__law_drawn (ends Q E) (rs.map Res.slot ++ List.replicate (2 - rs.length) .un) S := by
  rintro rs S Q E ⟨rfl, q⟩
  have c39 : ((10 : Int) ^ 39) = 1000000000000000000000000000000000000000 := by decide
  simp [p__law_drawn, CPow]
  refine ⟨9, rfl, by decide, fun n S1 h1 h2 => ?_⟩
  refine ⟨24, rfl, by decide, fun m S2 h3 h4 => ?_⟩
  by_cases h : m = 23
  · subst h
    simp
    refine ⟨?_, 3, rfl, by decide, fun k S3 h5 h6 => ?_⟩
    · refine cmul (a := 10) (b := 200) (show _ < _ by omega) (show _ < _ from ?_) (by decide)
      decide
    · refine drawn_num _ k S3 ?_ h5 h6 q _
      have : N0 = 5000000000000000000000000000000000000000 := by decide
      rw [this]
      omega
  · simp [h]
    refine ⟨3, rfl, by decide, fun k S3 h5 h6 => ?_⟩
    refine drawn_num _ k S3 ?_ h5 h6 q _
    have : N0 = 5000000000000000000000000000000000000000 := by decide
    rw [this]
    omega
/-! ### dot products -/
theorem isRow_seq {d : D} {r : List Rat} (h : isRow d r) : ∃ k, ∀ Q : Bool → List D → Prop, seqD d Q = Q k (r.map nD) := by
  rcases h with rfl | rfl
  · exact ⟨false, fun Q => rfl⟩
  · exact ⟨true, fun Q => rfl⟩
theorem at_nat {xs : List D} {i : Nat} {d : D} (h : xs[i]? = some d) : atI xs (i : Int) = some d := by
  have hl : i < xs.length := (List.getElem?_eq_some_iff.mp h).1
  unfold atI ixN
  rw [if_pos (by omega), if_pos (by omega)]
  simpa using h
theorem at_row {r : List Rat} {i : Nat} (h : i < r.length) : atI (r.map nD) (i : Int) = some (nD (rat r i)) := at_nat (by
  rw [List.getElem?_map, List.getElem?_eq_getElem h]
  simp [rat, h])
theorem sm62_nat {n : Nat} (h : n ≤ 1000000) : sm62 (n : Int) := by
  unfold sm62
  constructor <;> omega
theorem pf__law_dot : ∀ rs S Q E, sp__law_dot rs S Q E → p__law_dot (ends Q E) (rs.map Res.slot ++ List.replicate (4 - rs.length) .un) S := by
  rintro rs S Q E ⟨d1, d2, r, s, b, N, L, rfl, h1, h2, hl, h64, hb, hL, hL2, hN, hi, q⟩
  have hz : (2 : Nat) ≤ sizeLine := by decide
  obtain ⟨k1, e1⟩ := isRow_seq h1
  obtain ⟨k2, e2⟩ := isRow_seq h2
  have q1 : ∀ Q : Bool → List D → List Int → Prop, ∀ s2 s3, pQVar 0 [.dat d1, .dat d2, s2, s3] S Q (fun x S1 => E x S1) = Q k1 (r.map nD) S := fun Q s2 s3 => by
    simp [e1]
  have nz : nD 0 = .tup [.int 0, .int 1] := by
    have := nD_int 0
    exact this
  simp [p__law_dot, hz, e1]
  refine ⟨sm62_nat (by omega), ?_⟩
  refine for_ind (fun i sl S' => S' = S ∧ ∃ s3, sl = [.dat d1, .dat d2, .dat (nD (sumN i fun t => rat r t * rat s t)), s3] ∧ (sumN i fun t => rat r t * rat s t).den ∣ L ∧ vb (i * N) (sumN i fun t => rat r t * rat s t)) ⟨rfl, .un, ?_, ?_, ?_⟩ ?_ ?_
  · show _ = [Slot.dat d1, .dat d2, .dat (nD 0), .un]
    rw [nz]
  · show (0 : Rat).den ∣ L
    exact ⟨L, by simp⟩
  · show vb (0 * N) (0 : Rat)
    unfold vb
    simp
  · rintro i d sl S' M hd ⟨rfl, s3, rfl, hden, hvb⟩ hM
    obtain ⟨hir, rfl⟩ := rng_get hd
    have hir : i < r.length := by simpa using hir
    obtain ⟨g1, g2, g3, g4⟩ := hi i hir
    have p8999 : L * L < 2 ^ 8999 := Nat.lt_of_lt_of_le (Nat.mul_lt_mul'' hL2 hL2) (by rw [← Nat.pow_add]; exact Nat.pow_le_pow_right (by decide) (by decide))
    have tden : (rat r i * rat s i).den ∣ L := Nat.dvd_trans (by simpa using den_mul (p := rat r i) (q := rat s i) (Nat.dvd_refl _) (Nat.dvd_refl _)) g3
    have pow4 : (2 : Nat) ^ 4000 ≤ 2 ^ 100000 := Nat.pow_le_pow_right (by decide) (by decide)
    have big : ∀ (m : Nat) (x : Rat), m ≤ 64 → x.den ∣ L → vb (m * N) x → SQ 100000 x := fun m x hm hx hv => by
      refine ⟨?_, Nat.lt_of_lt_of_le (Nat.lt_of_le_of_lt (Nat.le_of_dvd hL hx) hL2) pow4⟩
      have a1 := vb_num hv hx hL
      have a2 : m * N * L ≤ 2 ^ 6 * 2 ^ 50000 * 2 ^ 4000 := Nat.mul_le_mul (Nat.mul_le_mul (by omega) (Nat.le_of_lt hN)) (Nat.le_of_lt hL2)
      rw [← Nat.pow_add, ← Nat.pow_add] at a2
      exact Nat.lt_of_le_of_lt (Nat.le_trans a1 a2) (Nat.pow_lt_pow_right (by decide) (by decide))
    have er : atI (r.map nD) (0 + (i : Int) * 1) = some (nD (rat r i)) := by
      rw [Int.zero_add, Int.mul_one]
      exact at_row hir
    have es : atI (s.map nD) (0 + (i : Int) * 1) = some (nD (rat s i)) := by
      rw [Int.zero_add, Int.mul_one]
      exact at_row (by omega)
    have e1' := e1
    simp only [pSeq, pAsg, pgName, pCall, pCons, pVar, pIx, pQVar, dat, pNil, pNext, List.getElem?_cons_zero, List.getElem?_cons_succ, List.set_cons_zero, List.set_cons_succ, Res.slot, e1, e2, er, es, Res.arg]
    have t1 : SQ 100000 (rat r i * rat s i) := big 1 _ (by decide) tden (by rw [Nat.one_mul]; exact g4)
    have t2 := big i _ (by omega) hden hvb
    have lt8 : (2 : Nat) ^ 4000 ≤ 2 ^ 8999 := Nat.pow_le_pow_right (by decide) (by decide)
    refine ⟨by simp, rat r i, rat s i, b, rfl, g1, g2, by omega, Nat.lt_of_lt_of_le (Nat.lt_of_le_of_lt (Nat.le_of_dvd hL g3) hL2) lt8, ?_⟩
    refine .inl ⟨_, _, 100000, rfl, t2, t1, Nat.le_refl _, Nat.lt_of_le_of_lt (Nat.mul_le_mul (Nat.le_of_dvd hL hden) (Nat.le_of_dvd hL tden)) p8999, by simp, ?_⟩
    refine hM _ _ ⟨rfl, .dat (.int (0 + (i : Int) * 1)), rfl, den_add hden tden, ?_⟩
    have := vb_add hvb g4
    rw [Nat.add_mul, Nat.one_mul]
    exact this
  · rintro sl S' ⟨rfl, s3, rfl, hden, hvb⟩
    rw [rng_len] at *
    simp
    exact q
end K05
end
section
set_option Elab.async false
set_option linter.all false
set_option maxRecDepth 100000
namespace K05
open PySem L2 Py LA
theorem isMat_seq {d : D} {M : List (List Rat)} (h : isMat d M) : ∃ k ds, Paired isRow ds M ∧ ∀ Q : Bool → List D → Prop, seqD d Q = Q k ds := by
  obtain ⟨ds, rfl | rfl, hp⟩ := h
  · exact ⟨true, ds, hp, fun Q => rfl⟩
  · exact ⟨false, ds, hp, fun Q => rfl⟩
theorem rat_map {M : List (List Rat)} {i j : Nat} (h : i < M.length) : rat (M.map fun m => rat m j) i = ent M i j := by
  simp [rat, ent, h]
theorem pf__law_mix : ∀ rs S Q E, sp__law_mix rs S Q E → p__law_mix (ends Q E) (rs.map Res.slot ++ List.replicate (5 - rs.length) .un) S := by
  rintro rs S Q E ⟨d1, d2, w, M, many, b, N, L, rfl, h1, h2, hl, h64, hm, hlen, hb, hL, hL2, hN, hi, q⟩
  obtain ⟨k1, e1⟩ := isRow_seq h1
  obtain ⟨k2, ds, hp, e2⟩ := isMat_seq h2
  have hz : (64 : Nat) ≤ sizeLine := by decide
  simp [p__law_mix, hz, rng_len]
  refine ⟨sm62_nat (by omega), by omega, ?_⟩
  refine lc_rng (fun j => nD (sumN w.length fun i => rat w i * ent M i j)) (fun j hj K hK => ?_) ?_
  · simp [e2]
    have hdl : ds.length = M.length := Paired.length hp
    refine ⟨by omega, ?_⟩
    refine lc_pair (R := isRow) (fun m => nD (rat m j)) hp (fun d m hr hmem F hF => ?_) ?_
    · obtain ⟨k, e⟩ := isRow_seq hr
      have := at_row (r := m) (i := j) (Nat.lt_of_lt_of_le hj (hlen m hmem))
      simp [e, this]
      exact hF
    · refine ⟨d1, _, w, M.map fun m => rat m j, b, N, L, rfl, h1, .inr ?_, by simpa using hl, by omega, hb, hL, hL2, hN, fun i hw => ?_, ?_⟩
      · unfold qL
        rw [List.map_map]
        rfl
      · rw [rat_map (by omega)]
        exact hi i j hw hj
      · have : dotR w (M.map fun m => rat m j) = sumN w.length fun i => rat w i * ent M i j := sumN_congr fun i hw => by rw [rat_map (by omega)]
        rw [this]
        exact hK
  · have : (List.range many).map (fun j => nD (sumN w.length fun i => rat w i * ent M i j)) = (mixR w M many).map nD := by
      unfold mixR
      rw [List.map_map]
      rfl
    rw [this]
    exact q
end K05
end
section
set_option Elab.async false
set_option linter.all false
set_option maxRecDepth 100000
namespace K05
open PySem L2 Py LA
theorem pf__law_turned : ∀ rs S Q E, sp__law_turned rs S Q E → p__law_turned (ends Q E) (rs.map Res.slot ++ List.replicate (4 - rs.length) .un) S := by
  rintro rs S Q E ⟨d, M, many, rfl, h1, h64, hm, hlen, q⟩
  obtain ⟨k2, ds, hp, e2⟩ := isMat_seq h1
  have hz : (64 : Nat) ≤ sizeLine := by decide
  have hdl : ds.length = M.length := Paired.length hp
  simp [p__law_turned, hz, rng_len]
  refine ⟨sm62_nat (by omega), by omega, ?_⟩
  refine lc_rng (fun j => qL (M.map fun m => rat m j)) (fun j hj K hK => ?_) ?_
  · simp [e2]
    refine ⟨by omega, ?_⟩
    refine lc_pair (R := isRow) (fun m => nD (rat m j)) hp (fun d m hr hmem F hF => ?_) ?_
    · obtain ⟨k, e⟩ := isRow_seq hr
      have := at_row (r := m) (i := j) (Nat.lt_of_lt_of_le hj (hlen m hmem))
      simp [e, this]
      exact hF
    · have : D.lst (M.map fun m => nD (rat m j)) = qL (M.map fun m => rat m j) := by
        unfold qL
        rw [List.map_map]
        rfl
      rw [this]
      exact hK
  · have : (List.range many).map (fun j => qL (M.map fun m => rat m j)) = (colsR M many).map qL := by
      unfold colsR
      rw [List.map_map]
      rfl
    rw [this]
    exact q
theorem pf_tb_turned : ∀ rs S Q E, sp_tb_turned rs S Q E → p_tb_turned (ends Q E) (rs.map Res.slot ++ List.replicate (4 - rs.length) .un) S := by
  rintro rs S Q E ⟨d, M, many, rfl, h1, h64, hm, hlen, q⟩
  obtain ⟨k2, ds, hp, e2⟩ := isMat_seq h1
  have hz : (64 : Nat) ≤ sizeLine := by decide
  have hdl : ds.length = M.length := Paired.length hp
  simp [p_tb_turned, hz, rng_len]
  refine ⟨sm62_nat (by omega), by omega, ?_⟩
  refine lc_rng (fun j => qT (M.map fun m => rat m j)) (fun j hj K hK => ?_) ?_
  · simp [e2]
    refine ⟨by omega, ?_⟩
    refine lc_pair (R := isRow) (fun m => nD (rat m j)) hp (fun d m hr hmem F hF => ?_) ?_
    · obtain ⟨k, e⟩ := isRow_seq hr
      have := at_row (r := m) (i := j) (Nat.lt_of_lt_of_le hj (hlen m hmem))
      simp [e, this]
      exact hF
    · have : D.tup (M.map fun m => nD (rat m j)) = qT (M.map fun m => rat m j) := by
        unfold qT
        rw [List.map_map]
        rfl
      rw [this]
      exact hK
  · have : (List.range many).map (fun j => qT (M.map fun m => rat m j)) = (colsR M many).map qT := by
      unfold colsR
      rw [List.map_map]
      rfl
    rw [this]
    exact q
theorem pf__law_is_row : ∀ rs S Q E, sp__law_is_row rs S Q E → p__law_is_row (ends Q E) (rs.map Res.slot ++ List.replicate (3 - rs.length) .un) S := by
  rintro rs S Q E ⟨r, b, many, rfl, hl, hr, hb, q⟩
  simp [p__law_is_row, qT, hl]
  refine for_ind (fun i sl S' => S' = S ∧ ∃ s, sl = [.dat (.tup (r.map nD)), .dat (.int many), s]) ⟨rfl, _, rfl⟩ ?_ ?_
  · rintro i d sl S' N hi ⟨rfl, s, rfl⟩ hN
    rw [List.getElem?_map] at hi
    cases e : r[i]? with
    | none => rw [e] at hi; cases hi
    | some x =>
      rw [e] at hi
      cases hi
      simp [sp__law_is_num]
      refine ⟨x, rfl, b, hr x (List.mem_of_getElem? e), hb, ?_⟩
      exact hN _ _ ⟨rfl, _, rfl⟩
  · rintro sl S' ⟨rfl, s, rfl⟩
    simp
    exact q
theorem pf__law_asked : ∀ rs S Q E, sp__law_asked rs S Q E → p__law_asked (ends Q E) (rs.map Res.slot ++ List.replicate (3 - rs.length) .un) S := by
  rintro rs S Q E ⟨x, b, rfl, hs, hb, q1, q2, q3⟩
  have hz : (2 : Nat) ≤ sizeLine := by decide
  have six : sz 3 6 := by unfold sz; decide
  have c1 := cmul hs.1 six (by omega)
  have c2 := cmul (sz_den hs.2) six (by omega)
  simp [p__law_asked]
  refine ⟨3, rfl, by decide, fun n S' h0 h3 => ?_⟩
  have : n = 0 ∨ n = 1 ∨ n = 2 := by omega
  rcases this with rfl | rfl | rfl
  · simp [nD]
    exact q3 S'
  · by_cases h : x.den = 1
    · simp [nD, at0, at1, h]
      exact q1 h S'
    · have h2 : ¬ ((x.den : Int) = 1) := by omega
      simp [nD, at0, at1, h, h2]
      exact q3 S'
  · simp [nD, at0, at1, c1, c2, hz]
    exact q2 S'
end K05
end
section
set_option Elab.async false
set_option linter.all false
set_option maxRecDepth 100000
namespace K05
open PySem L2 Py LA
theorem asked_ok {q : Rat} {b : Nat} {S : List Int} {N : Res → List Int → Prop} {E : PX → List Int → Prop} (hs : SQ b q) (hb : b ≤ 100000) (h1 : q.den = 1 → ∀ S', N (.dat (.int q.num)) S') (h2 : ∀ S', N (.own [.int (q.num * 6), .int (q.den * 6)]) S') (h3 : ∀ S', N (.dat (nD q)) S') : sp__law_asked [.drw, .dat (nD q)] S N E := ⟨q, b, rfl, hs, hb, h1, h2, h3⟩
theorem pf__law_handed : ∀ rs S Q E, sp__law_handed rs S Q E → p__law_handed (ends Q E) (rs.map Res.slot ++ List.replicate (6 - rs.length) .un) S := by
  rintro rs S Q E ⟨d, M, b, rfl, h1, h64, hm, hb, q⟩
  obtain ⟨k2, ds, hp, e2⟩ := isMat_seq h1
  have hdl : ds.length = M.length := Paired.length hp
  have hz : (64 : Nat) < sizeLine := by decide
  have hz0 : (0 : Nat) ≤ sizeLine := by decide
  simp [p__law_handed, e2]
  refine for_ind (fun i sl S' => ∃ made s3 s4, sl = [.drw, .dat d, .own made, s3, s4, .un] ∧ Paired HRow made (M.take i)) ⟨[], .un, .un, rfl, by simp; exact .nil⟩ ?_ ?_
  · rintro i l sl S' N hi ⟨made, s3, s4, rfl, hmade⟩ hN
    obtain ⟨m, hmi, hr⟩ := Py.paired_get hp hi
    obtain ⟨k3, e3⟩ := isRow_seq hr
    have hmm : m ∈ M := List.mem_of_getElem? hmi
    have hil : i < M.length := (List.getElem?_eq_some_iff.mp hmi).1
    have hmk : made.length < sizeLine := by
      have := Paired.length hmade
      simp at this
      omega
    have nxt : ∀ l' s4' S2, HRow l' m → N [.drw, .dat d, .own (made ++ [l']), .dat l, s4', .un] S2 := fun l' s4' S2 hl' => hN _ _ ⟨made ++ [l'], .dat l, s4', rfl, by rw [take_snoc hmi]; exact Py.paired_snoc hl' hmade⟩
    simp [e3]
    refine ⟨by have := (hm m hmm).1; omega, ?_⟩
    refine lc_draw (R := fun x (y : Rat) => x = nD y) (T := HQ) (Py.paired_map (f := nD) (fun _ => rfl) m) (fun x y hx hy S3 K hK => ?_) fun ys S3 hys => ?_
    · subst hx
      simp
      refine asked_ok ((hm m hmm).2 y hy) hb (fun h S4 => hK _ _ (.inl ⟨h, rfl⟩)) (fun S4 => hK _ _ (.inr (.inl rfl))) fun S4 => hK _ _ (.inr (.inr rfl))
    · refine ⟨2, rfl, by decide, fun n S4 h0 h2 => ?_⟩
      by_cases hn : n = 0
      · subst hn
        simp [hmk]
        exact nxt _ _ _ ⟨ys, .inl rfl, hys⟩
      · simp [hn, hmk]
        exact nxt _ _ _ ⟨ys, .inr rfl, hys⟩
  · rintro sl S' ⟨made, s3, s4, rfl, hmade⟩
    rw [hdl, List.take_length] at hmade
    simp
    refine ⟨2, rfl, by decide, fun n S4 h0 h2 => ?_⟩
    by_cases hn : n = 0
    · subst hn
      simp
      exact (q made S4 hmade).1
    · simp [hn]
      exact (q made S4 hmade).2
end K05
end
section
set_option Elab.async false
set_option linter.all false
set_option maxRecDepth 100000
namespace K05
open PySem L2 Py LA
theorem sum_den {L : Nat} {f : Nat → Rat} : ∀ {n : Nat}, (∀ i, i < n → (f i).den ∣ L) → (sumN n f).den ∣ L
  | 0, _ => ⟨L, by show L = (0 : Rat).den * L; simp⟩
  | n + 1, h => den_add (sum_den fun i hi => h i (Nat.lt_succ_of_lt hi)) (h n (Nat.lt_succ_self n))
theorem sum_vb {N : Nat} {f : Nat → Rat} : ∀ {n : Nat}, (∀ i, i < n → vb N (f i)) → vb (n * N) (sumN n f)
  | 0, _ => by
    show vb (0 * N) (0 : Rat)
    unfold vb
    simp
  | n + 1, h => by
    have := vb_add (sum_vb fun i hi => h i (Nat.lt_succ_of_lt hi)) (h n (Nat.lt_succ_self n))
    rw [Nat.add_mul, Nat.one_mul]
    exact this
theorem vb_mono {M N : Nat} {q : Rat} (h : vb M q) (hm : M ≤ N) : vb N q := Nat.le_trans h (Nat.mul_le_mul_right _ hm)
theorem rat_mem {r : List Rat} {i : Nat} (h : i < r.length) : rat r i ∈ r := by
  have : rat r i = r[i] := by simp [rat, h]
  rw [this]
  exact List.getElem_mem h
theorem ent_mem {M : List (List Rat)} {i j : Nat} (h : i < M.length) : ∃ m ∈ M, ent M i j = rat m j := ⟨M[i], List.getElem_mem h, by simp [ent, h]⟩
/-- many draws -/
theorem drawn_row {n : Nat} {ys : List D} (h : Paired (fun y (_ : Nat) => ∃ q, DQ q ∧ y = nD q) ys (List.range n)) : ∃ r : List Rat, ys = r.map nD ∧ r.length = n ∧ ∀ q ∈ r, DQ q := by
  have key : ∀ (ys : List D) (ks : List Nat), Paired (fun y (_ : Nat) => ∃ q, DQ q ∧ y = nD q) ys ks → ∃ r : List Rat, ys = r.map nD ∧ r.length = ks.length ∧ ∀ q ∈ r, DQ q := by
    intro ys ks h
    induction h with
    | nil => exact ⟨[], rfl, rfl, fun q hq => by cases hq⟩
    | cons h1 _ ih =>
      obtain ⟨q, hq, rfl⟩ := h1
      obtain ⟨r, rfl, hl, hr⟩ := ih
      exact ⟨q :: r, rfl, by simp [hl], fun p hp => by
        rcases List.mem_cons.mp hp with z | z
        · rw [z]; exact hq
        · exact hr p z⟩
  obtain ⟨r, h1, h2, h3⟩ := key ys _ h
  exact ⟨r, h1, by simpa using h2, h3⟩
/-- weights -/
def WQ (q : Rat) : Prop := q.den = 1 ∧ vb 2 q
theorem weight_row {n : Nat} {ys : List D} (h : Paired (fun y (_ : Nat) => ∃ q, WQ q ∧ y = nD q) ys (List.range n)) : ∃ r : List Rat, ys = r.map nD ∧ r.length = n ∧ ∀ q ∈ r, WQ q := by
  have key : ∀ (ys : List D) (ks : List Nat), Paired (fun y (_ : Nat) => ∃ q, WQ q ∧ y = nD q) ys ks → ∃ r : List Rat, ys = r.map nD ∧ r.length = ks.length ∧ ∀ q ∈ r, WQ q := by
    intro ys ks h
    induction h with
    | nil => exact ⟨[], rfl, rfl, fun q hq => by cases hq⟩
    | cons h1 _ ih =>
      obtain ⟨q, hq, rfl⟩ := h1
      obtain ⟨r, rfl, hl, hr⟩ := ih
      exact ⟨q :: r, rfl, by simp [hl], fun p hp => by
        rcases List.mem_cons.mp hp with z | z
        · rw [z]; exact hq
        · exact hr p z⟩
  obtain ⟨r, h1, h2, h3⟩ := key ys _ h
  exact ⟨r, h1, by simpa using h2, h3⟩
theorem wq_int {z : Int} (h : z.natAbs ≤ 2) : WQ (z : Rat) := ⟨Rat.den_intCast z, by
  unfold vb
  rw [Rat.num_intCast, Rat.den_intCast]
  omega⟩
theorem pow200 : 6 * (600 * N0) < 2 ^ 200 := by decide
/-- a mix of rows by weights -/
theorem mix_ok2 {w : List Rat} {K : List (List Rat)} {many N c : Nat} {S : List Int} {Q : Res → List Int → Prop} {E : PX → List Int → Prop} (hw : ∀ q ∈ w, WQ q) (hl : w.length = K.length) (hc : K.length ≤ c) (hc5 : c ≤ 5) (hm : many ≤ 5) (hK : ∀ m ∈ K, RowQ N many m) (hN : N ≤ 600 * N0)
    (q : RowQ (c * (2 * N)) many (mixR w K many) → Q (.own ((mixR w K many).map nD)) S) : sp__law_mix [.dat (qL w), .dat (.lst (K.map qL)), .dat (.int many)] S Q E := by
  have e1 : ∀ i j, i < w.length → j < many → WQ (rat w i) ∧ (ent K i j).den ∣ 6 ∧ vb N (ent K i j) := fun i j hi hj => by
    obtain ⟨m, hm1, he⟩ := ent_mem (M := K) (i := i) (j := j) (by omega)
    obtain ⟨h1, h2⟩ := hK m hm1
    rw [he]
    exact ⟨hw _ (rat_mem hi), h2 _ (rat_mem (by omega))⟩
  have sq1 : ∀ x : Rat, WQ x → SQ 200 x := fun x h => by
    have a := h.2
    unfold vb at a
    rw [h.1] at a
    refine ⟨Nat.lt_of_le_of_lt a (by decide), by rw [h.1]; decide⟩
  have sq2 : ∀ x : Rat, x.den ∣ 6 → vb N x → SQ 200 x := fun x h1 h2 => by
    have a := vb_num h2 h1 (by decide)
    have b := Nat.le_of_dvd (by decide) h1
    refine ⟨Nat.lt_of_le_of_lt a (Nat.lt_of_le_of_lt (Nat.mul_le_mul_right 6 hN) ?_), Nat.lt_of_le_of_lt b (by decide)⟩
    have := pow200
    omega
  have dv : ∀ i j, i < w.length → j < many → (rat w i * ent K i j).den ∣ 6 := fun i j hi hj => by
    obtain ⟨h1, h2, h3⟩ := e1 i j hi hj
    have := den_mul (p := rat w i) (q := ent K i j) (L := 1) (M := 6) (by rw [h1.1]; exact ⟨1, rfl⟩) h2
    simpa using this
  refine ⟨_, _, w, K, many, 200, 2 * N, 6, rfl, .inr rfl, ⟨_, .inl rfl, Py.paired_map (f := qL) (fun _ => .inr rfl) K⟩, by omega, by omega, by omega, fun m hm1 => by rw [(hK m hm1).1]; exact Nat.le_refl _, by decide, by decide, ?_, ?_, fun i j hi hj => ?_, ?_⟩
  · exact Nat.lt_of_lt_of_le (by decide : 6 < 2 ^ 3) (Nat.pow_le_pow_right (by decide) (by decide))
  · have := pow200
    exact Nat.lt_of_lt_of_le (show 2 * N < 2 ^ 200 by omega) (Nat.pow_le_pow_right (by decide) (by decide))
  · obtain ⟨h1, h2, h3⟩ := e1 i j hi hj
    exact ⟨sq1 _ h1, sq2 _ h2 h3, by rw [h1.1, Nat.one_mul]; exact h2, vb_mul h1.2 h3⟩
  · refine q ⟨by simp [mixR], fun x hx => ?_⟩
    unfold mixR at hx
    obtain ⟨j, hj, rfl⟩ := List.mem_map.mp hx
    have hj := List.mem_range.mp hj
    refine ⟨sum_den fun i hi => dv i j hi hj, vb_mono (sum_vb (N := 2 * N) fun i hi => ?_) (Nat.mul_le_mul_right _ (by omega))⟩
    obtain ⟨h1, h2, h3⟩ := e1 i j hi hj
    exact vb_mul h1.2 h3
theorem mix_ok {w : List Rat} {K : List (List Rat)} {many N c : Nat} {S : List Int} {Q : Res → List Int → Prop} {E : PX → List Int → Prop} (hw : ∀ q ∈ w, WQ q) (hl : w.length = K.length) (hc : K.length ≤ c) (hc5 : c ≤ 5) (hm : many ≤ 5) (hK : ∀ m ∈ K, RowQ N many m) (hN : N ≤ 600 * N0)
    (q : ∀ r, RowQ (c * (2 * N)) many r → Q (.own (r.map nD)) S) : sp__law_mix [.dat (qL w), .dat (.lst (K.map qL)), .dat (.int many)] S Q E :=
  mix_ok2 hw hl hc hc5 hm hK hN fun h => q _ h
end K05
end
section
set_option Elab.async false
set_option linter.all false
set_option maxRecDepth 100000
namespace K05
open PySem L2 Py LA
theorem sm62_nat' {i : Int} (h : 0 ≤ i) (h2 : i ≤ 1000000) : sm62 i := by unfold sm62; constructor <;> omega
theorem pf__law_rows : ∀ rs S Q E, sp__law_rows rs S Q E → p__law_rows (ends Q E) (rs.map Res.slot ++ List.replicate (7 - rs.length) .un) S := by
  rintro rs S Q E ⟨many, rfl, hm, q⟩
  have hz : (100 : Nat) ≤ sizeLine := by decide
  have hz0 : (0 : Nat) ≤ sizeLine := by decide
  have pr : ∀ n, Paired (fun d (j : Nat) => d = D.int j) (rng 0 1 n) (List.range n) := fun n => by
    have p := paired_rng n 0
    rw [← List.range_eq_range'] at p
    exact p
  simp [p__law_rows]
  refine ⟨3, rfl, by decide, fun t S1 h0 h3 => ⟨sm62_nat' ?_ ?_, ?_⟩⟩
  · omega
  · omega
  refine for_ind (fun i sl S' => i ≤ 3 ∧ ∃ (K : List (List Rat)) (s3 : Slot), sl = [.drw, .dat (.int many), .own (K.map qL), s3, .un, .un, .un] ∧ K.length = i ∧ ∀ m ∈ K, RowQ N0 many m) ⟨by omega, [], .un, rfl, rfl, fun m z => by cases z⟩ ?_ ?_
  · rintro i d sl S' M hi ⟨hi3, K, s3, rfl, hKl, hK⟩ hM
    have hil := (rng_get hi).1
    simp [rng_len]
    refine ⟨sm62_nat (by omega), by omega, ?_⟩
    refine lc_draw (T := fun y (_ : Nat) => ∃ q, DQ q ∧ y = nD q) (pr many) (fun d j hd _ S3 F hF => ?_) fun ys S3 hys => ?_
    · simp
      exact ⟨rfl, fun q S4 hq => hF _ _ ⟨q, hq, rfl⟩⟩
    · obtain ⟨r, rfl, hr, hq⟩ := drawn_row hys
      refine ⟨by omega, ?_⟩
      refine hM _ _ ⟨by omega, K ++ [r], .dat d, ?_, by simp [hKl], fun m hm' => ?_⟩
      · simp [qL]
      · rcases List.mem_append.mp hm' with z | z
        · exact hK m z
        · have : m = r := by simpa using z
          rw [this]
          exact ⟨hr, fun x hx => hq x hx⟩
  · rintro sl S' ⟨hi3, K, s3, rfl, hKl, hK⟩
    simp
    refine ⟨6, rfl, by decide, fun u S2 g0 g6 => ⟨sm62_nat' (by omega) (by omega), ?_⟩⟩
    refine for_ind (fun i sl S' => i ≤ 5 ∧ ∃ (M : List (List Rat)) (s3 s5 : Slot), sl = [.drw, .dat (.int many), .dat (.lst (K.map qL)), s3, .own (M.map qL), s5, .un] ∧ M.length = i ∧ ∀ m ∈ M, RowQ (6 * N0) many m) ⟨by omega, [], _, .un, rfl, rfl, fun m z => by cases z⟩ ?_ ?_
    · rintro i d sl S3 F hi ⟨hi5, M, s3', s5, rfl, hMl, hM⟩ hF
      have hil := (rng_get hi).1
      simp [rng_len]
      refine ⟨sm62_nat (by omega), by omega, ?_⟩
      refine lc_draw (T := fun y (_ : Nat) => ∃ q, WQ q ∧ y = nD q) (pr K.length) (fun d j hd _ S4 G hG => ?_) fun ys S4 hys => ?_
      · simp
        refine ⟨5, rfl, by decide, fun z S5 z0 z5 => ⟨by omega, ?_⟩⟩
        refine hG _ _ ⟨((z - 2 : Int) : Rat), wq_int (by omega), ?_⟩
        rw [nD_int]
      · obtain ⟨w, rfl, hw, hwq⟩ := weight_row hys
        refine mix_ok (w := w) (K := K) (many := many) (N := N0) (c := 3) hwq hw (by omega) (by decide) hm hK (by omega) fun r hr => ?_
        simp
        refine ⟨by omega, ?_⟩
        refine hF _ _ ⟨by omega, M ++ [r], .dat d, .dat (.lst (w.map nD)), ?_, by simp [hMl], fun m hm' => ?_⟩
        · simp [qL]
        · rcases List.mem_append.mp hm' with z | z
          · exact hM m z
          · have : m = r := by simpa using z
            rw [this]
            have e : 3 * (2 * N0) = 6 * N0 := by omega
            rw [e] at hr
            exact hr
    · rintro sl S3 ⟨hi5, M, s3', s5, rfl, hMl, hM⟩
      simp
      exact q M S3 (by omega) hM
end K05
end
section
set_option Elab.async false
set_option linter.all false
set_option maxRecDepth 100000
namespace K05
open PySem L2 Py LA
theorem at_z {M : List (List Int)} {k : Nat} (h : k < M.length) : atI (M.map zL) (k : Int) = some (zL M[k]) := at_nat (by rw [List.getElem?_map, List.getElem?_eq_getElem h]; rfl)
theorem at_zi {r : List Int} {c : Nat} (h : c < r.length) : atI (r.map D.int) (c : Int) = some (.int (r.getD c 0)) := at_nat (by rw [List.getElem?_map, List.getElem?_eq_getElem h]; simp [h])
theorem zent_at {M : List (List Int)} {k c : Nat} (h : k < M.length) : zent M k c = M[k].getD c 0 := by simp [zent, h]
theorem pf_tb_spot : ∀ rs S Q E, sp_tb_spot rs S Q E → p_tb_spot (ends Q E) (rs.map Res.slot ++ List.replicate (4 - rs.length) .un) S := by
  rintro rs S Q E ⟨M, low, c, rfl, hlow, h64, hc, q1, q2⟩
  simp [p_tb_spot]
  refine ⟨⟨sm62_nat (by omega), sm62_nat (by omega)⟩, ?_⟩
  have e : ((M.length : Int) - (low : Int)).toNat = M.length - low := by omega
  refine for_ind (fun i sl S' => S' = S ∧ (∃ s3, sl = [.dat (.lst (M.map zL)), .dat (.int low), .dat (.int c), s3]) ∧ ∀ k, low ≤ k → k < low + i → zent M k c = 0) ⟨rfl, ⟨_, rfl⟩, fun k h1 h2 => by omega⟩ ?_ ?_
  · rintro i d sl S' N hi ⟨rfl, ⟨s3, rfl⟩, hv⟩ hN
    obtain ⟨hil, rfl⟩ := rng_get hi
    have hk : low + i < M.length := by omega
    have e2 : (low : Int) + (i : Int) * 1 = ((low + i : Nat) : Int) := by omega
    have hcc := hc _ (List.getElem_mem hk)
    rw [e2]
    simp only [pgName, pSeq, pIf, pTst, pBin, pIx, pQOf, pQVar, dat, pVar, List.getElem?_cons_zero, List.getElem?_cons_succ, List.set_cons_zero, List.set_cons_succ, Res.slot, seqD_lst, at_z hk, zL, at_zi hcc, pC, fNe]
    rw [← zent_at hk]
    by_cases h : zent M (low + i) c = 0
    · simp [h]
      refine hN _ _ ⟨rfl, ⟨_, rfl⟩, fun k h1 h2 => ?_⟩
      by_cases z : k = low + i
      · rw [z]; exact h
      · exact hv k h1 (by omega)
    · simp [h]
      exact q1 (low + i) (by omega) hk h fun j h1 h2 => hv j h1 h2
  · rintro sl S' ⟨rfl, ⟨s3, rfl⟩, hv⟩
    rw [rng_len] at hv
    simp
    exact q2 fun k h1 h2 => hv k h1 (by omega)
end K05
end
section
set_option Elab.async false
set_option linter.all false
set_option maxRecDepth 100000
namespace K05
open PySem L2 Py LA
/-- num * (l / den) is l * q -/
theorem scale_eq {q : Rat} {l : Nat} (h : q.den ∣ l) : ((q.num * ((l / q.den : Nat) : Int) : Int) : Rat) = (l : Rat) * q := by
  obtain ⟨k, rfl⟩ := h
  have hd : 0 < q.den := Nat.pos_of_ne_zero q.den_nz
  rw [Nat.mul_div_cancel_left _ hd]
  have e : q * (q.den : Rat) = q.num := by
    have := Rat.num_divInt_den q
    rw [Rat.divInt_eq_div] at this
    have hne : ((q.den : Int) : Rat) ≠ 0 := by
      intro z
      have : (q.den : Int) = 0 := by exact_mod_cast z
      omega
    have e2 : ((q.den : Nat) : Rat) = ((q.den : Int) : Rat) := rfl
    rw [e2]
    grind
  have e3 : ((q.den * k : Nat) : Rat) = (q.den : Rat) * (k : Rat) := by exact_mod_cast rfl
  rw [e3, Rat.intCast_mul]
  have e4 : (((k : Nat) : Int) : Rat) = (k : Rat) := rfl
  rw [e4]
  grind
def clr0 (l : Nat) (row : List Rat) : List Int := row.map fun q => q.num * ((l / q.den : Nat) : Int)
theorem clr0_get {l : Nat} {row : List Rat} {i : Nat} (h : i < row.length) : (clr0 l row).getD i 0 = (rat row i).num * ((l / (rat row i).den : Nat) : Int) := by
  simp [clr0, rat, h]
def gcds (zs : List Int) : Nat → Nat
  | 0 => 0
  | i + 1 => Nat.gcd (gcds zs i) (zs.getD i 0).natAbs
theorem gcds_dvd (zs : List Int) : ∀ (n i : Nat), i < n → gcds zs n ∣ (zs.getD i 0).natAbs
  | n + 1, i, h => by
    by_cases e : i = n
    · subst e; exact Nat.gcd_dvd_right ..
    · exact Nat.dvd_trans (Nat.gcd_dvd_left ..) (gcds_dvd zs n i (by omega))
theorem gcds_zero (zs : List Int) : ∀ (n : Nat), (∀ i, i < n → zs.getD i 0 = 0) → gcds zs n = 0
  | 0, _ => rfl
  | n + 1, h => by
    show Nat.gcd (gcds zs n) (zs.getD n 0).natAbs = 0
    rw [gcds_zero zs n fun i hi => h i (by omega), h n (by omega)]
    rfl
theorem pf_tb_clear : ∀ rs S Q E, sp_tb_clear rs S Q E → p_tb_clear (ends Q E) (rs.map Res.slot ++ List.replicate (5 - rs.length) .un) S := by
  rintro rs S Q E ⟨d, row, L, rfl, hr, h64, hL, hL2, hq, q⟩
  obtain ⟨k, e⟩ := isRow_seq hr
  have hz : (64 : Nat) ≤ sizeLine := by decide
  have dpos : ∀ x : Rat, 0 < x.den := fun x => Nat.pos_of_ne_zero x.den_nz
  simp [p_tb_clear, e]
  refine for_ind (fun i sl S' => S' = S ∧ ∃ (l : Nat) (s2 : Slot), sl = [.dat d, .dat (.int l), s2, .un, .un] ∧ 0 < l ∧ l ∣ L ∧ ∀ j, j < i → j < row.length → (rat row j).den ∣ l) ⟨rfl, 1, .un, rfl, by decide, ⟨L, by simp⟩, fun j hj => by omega⟩ ?_ ?_
  · rintro i x sl S' N hi ⟨rfl, l, s2, rfl, hl, hlL, hv⟩ hN
    rw [List.getElem?_map] at hi
    cases e0 : row[i]? with
    | none => rw [e0] at hi; cases hi
    | some y =>
      rw [e0] at hi
      cases hi
      have hil : i < row.length := (List.getElem?_eq_some_iff.mp e0).1
      have hy : y = rat row i := by simp [rat, e0]
      have hyL := (hq y (List.mem_of_getElem? e0)).1
      have c : CLcm (l : Int) (y.den : Int) := by
        unfold CLcm
        rw [Int.natAbs_natCast, Int.natAbs_natCast]
        have := Nat.le_of_dvd hL hlL
        have := Nat.le_of_dvd hL hyL
        omega
      simp [nD, at1, c]
      refine hN _ _ ⟨rfl, Nat.lcm l y.den, .dat (nD y), rfl, Nat.lcm_pos hl (dpos y), Nat.lcm_dvd hlL hyL, fun j hj hjl => ?_⟩
      by_cases z : j = i
      · rw [z, ← hy]; exact Nat.dvd_lcm_right ..
      · exact Nat.dvd_trans (hv j (by omega) hjl) (Nat.dvd_lcm_left ..)
  · rintro sl S' ⟨rfl, l, s2, rfl, hl, hlL, hv⟩
    have hlL2 : l ≤ L := Nat.le_of_dvd hL hlL
    have hden : ∀ y ∈ row, y.den ∣ l := fun y hy => by
      obtain ⟨i, hi, e1⟩ := List.mem_iff_getElem.mp hy
      have : rat row i = y := by simp [rat, hi, e1]
      rw [← this]
      exact hv i (by simpa using hi) hi
    simp [e]
    refine ⟨by omega, ?_⟩
    refine lc_pair (R := fun x (y : Rat) => x = nD y) (fun y => .int (y.num * ((l / y.den : Nat) : Int))) (Py.paired_map (f := nD) (fun _ => rfl) row) (fun x y hx hy F hF => ?_) ?_
    · subst hx
      have h1 := hden y hy
      have h2 : (l : Int).fdiv (y.den : Int) = ((l / y.den : Nat) : Int) := by
        rw [Int.fdiv_eq_ediv_of_nonneg _ (by omega)]
        rfl
      have c1 : CDv (l : Int) (y.den : Int) := by
        refine ⟨by have := dpos y; omega, ?_⟩
        rw [Int.natAbs_natCast]
        have h3 : sz 64 (y.den : Int) := sz_den (Nat.lt_of_le_of_lt (Nat.le_of_dvd hL (Nat.dvd_trans h1 hlL)) hL2)
        have := sz_log h3
        rw [Int.natAbs_natCast] at this
        omega
      have c2 : CMulW y.num ((l / y.den : Nat) : Int) := cmul (a := 8000) (b := 64) (hq y hy).2 (by
        show ((l / y.den : Nat) : Int).natAbs < 2 ^ 64
        rw [Int.natAbs_natCast]
        have := Nat.div_le_self l y.den
        omega) (by decide)
      simp [nD, at0, at1, c1, h2]
      exact ⟨c2, hF⟩
    · have ez : row.map (fun y => D.int (y.num * ((l / y.den : Nat) : Int))) = (clr0 l row).map D.int := by
        unfold clr0
        rw [List.map_map]
        rfl
      have zl : (clr0 l row).length = row.length := by simp [clr0]
      have big : ∀ i, i < row.length → ((clr0 l row).getD i 0).natAbs ≤ (rat row i).num.natAbs * L := fun i hi => by
        rw [clr0_get hi, Int.natAbs_mul, Int.natAbs_natCast]
        exact Nat.mul_le_mul_left _ (Nat.le_trans (Nat.div_le_self ..) hlL2)
      have val : ∀ i, i < row.length → (((clr0 l row).getD i 0 : Int) : Rat) = (l : Rat) * rat row i := fun i hi => by
        rw [clr0_get hi]
        exact scale_eq (hden _ (rat_mem hi))
      have lpos : (0 : Rat) < (l : Rat) := by
        have : ((0 : Nat) : Rat) < (l : Rat) := by exact_mod_cast hl
        exact this
      rw [ez]
      refine for_ind (fun i sl S2 => S2 = S' ∧ ∃ s2, sl = [.dat d, .dat (.int l), s2, .dat (.lst ((clr0 l row).map D.int)), .dat (.int (gcds (clr0 l row) i))]) ⟨rfl, s2, rfl⟩ ?_ ?_
      · rintro i x sl S' N hi ⟨rfl, s3, rfl⟩ hN
        rw [List.getElem?_map] at hi
        cases e0 : (clr0 l row)[i]? with
        | none => rw [e0] at hi; cases hi
        | some y =>
          rw [e0] at hi
          cases hi
          have hy : (clr0 l row).getD i 0 = y := by simp [e0]
          simp
          refine hN _ _ ⟨rfl, .dat (.int y), ?_⟩
          show _ = [Slot.dat d, .dat (.int l), .dat (.int y), .dat (.lst ((clr0 l row).map D.int)), .dat (.int ((Nat.gcd (gcds (clr0 l row) i) ((clr0 l row).getD i 0).natAbs : Nat) : Int))]
          rw [hy]
      · rintro sl S' ⟨rfl, s3, rfl⟩
        rw [List.length_map]
        generalize hg : gcds (clr0 l row) (clr0 l row).length = g
        by_cases h : 1 < g
        · have h' : (1 : Int) < (g : Int) := by omega
          have gd : ∀ i, i < row.length → g ∣ ((clr0 l row).getD i 0).natAbs := fun i hi => by
            rw [← hg]
            exact gcds_dvd _ _ i (by omega)
          have gf : (g : Int).natAbs.log2 < 9000 := by
            rw [Int.natAbs_natCast]
            -- some number is not 0
            by_cases all : ∀ i, i < (clr0 l row).length → (clr0 l row).getD i 0 = 0
            · rw [gcds_zero _ _ all] at hg
              omega
            · obtain ⟨i, hi⟩ := Classical.not_forall.mp all
              obtain ⟨hi, hne⟩ := Classical.not_imp.mp hi
              have hir : i < row.length := by omega
              have h1 := Nat.le_of_dvd (by omega) (gd i hir)
              have h2 := (hq _ (rat_mem hir)).2
              have h3 : ((clr0 l row).getD i 0).natAbs < 2 ^ 8000 * 2 ^ 64 := Nat.lt_of_le_of_lt (big i hir) (Nat.mul_lt_mul'' h2 hL2)
              rw [← Nat.pow_add] at h3
              have h4 : sz 8064 (g : Int) := by
                unfold sz
                rw [Int.natAbs_natCast]
                exact Nat.lt_of_le_of_lt h1 h3
              have := sz_log h4
              rw [Int.natAbs_natCast] at this
              omega
          have cd : ∀ y : Int, CDv y (g : Int) := fun y => ⟨by omega, gf⟩
          simp [h']
          have lcl : lcRun 2 pYes (pBin (fII CDv fun i j => D.int (i.fdiv j)) (pVar 2) (pVar 4)) ((clr0 l row).map D.int) [.dat d, .dat (.int l), .un, .dat (.lst ((clr0 l row).map D.int)), .dat (.int g)] S' (fun ys S2 => Q (.own ys) S2) := by
            refine lc_pair (R := fun x (y : Int) => x = D.int y) (fun y => .int (y.fdiv g)) (Py.paired_map (f := D.int) (fun _ => rfl) _) (fun x y hx hy F hF => ?_) ?_
            · subst hx
              simp [cd y]
              exact hF
            · have : (clr0 l row).map (fun y => D.int (y.fdiv (g : Int))) = ((clr0 l row).map fun y => y.fdiv (g : Int)).map D.int := by
                rw [List.map_map]
                rfl
              rw [this]
              have get : ∀ i, i < row.length → (((clr0 l row).map fun y => y.fdiv (g : Int)).getD i 0) = ((clr0 l row).getD i 0).fdiv g := fun i hi => by
                have : i < (clr0 l row).length := by omega
                simp [this]
              have ex : ∀ i, i < row.length → ((clr0 l row).getD i 0).fdiv (g : Int) * g = (clr0 l row).getD i 0 := fun i hi => by
                have : (g : Int) ∣ (clr0 l row).getD i 0 := Int.ofNat_dvd_left.mpr (gd i hi)
                exact Int.fdiv_mul_cancel this
              refine (q _ ⟨by simp [zl], (l : Rat) / (g : Rat), ?_, fun i hi => ?_, fun i hi => ?_⟩).1
              · have gp : ((0 : Nat) : Rat) < (g : Rat) := by exact_mod_cast (show 0 < g by omega)
                rw [Rat.div_def]
                exact Rat.mul_pos lpos (Rat.inv_pos.mpr gp)
              · rw [get i hi]
                have h1 := val i hi
                have h2 := ex i hi
                have h3 : (((((clr0 l row).getD i 0).fdiv (g : Int) * g : Int)) : Rat) = (l : Rat) * rat row i := by rw [h2]; exact h1
                rw [Rat.intCast_mul] at h3
                have e4 : (((g : Nat) : Int) : Rat) = (g : Rat) := rfl
                rw [e4] at h3
                have gne : (g : Rat) ≠ 0 := by
                  intro z
                  have : g = 0 := by exact_mod_cast z
                  omega
                grind
              · rw [get i hi]
                refine Nat.le_trans ?_ (big i hi)
                have := congrArg Int.natAbs (ex i hi)
                rw [Int.natAbs_mul, Int.natAbs_natCast] at this
                rw [← this]
                exact Nat.le_mul_of_pos_right _ (by omega)
          exact ⟨by omega, lcl⟩
        · have h' : ¬ (1 : Int) < (g : Int) := by omega
          simp [h']
          exact (q (clr0 l row) ⟨zl, (l : Rat), lpos, val, big⟩).2
end K05
end
section
set_option Elab.async false
set_option linter.all false
set_option maxRecDepth 100000
namespace K05
open PySem L2 Py LA
theorem snoc_int (l : List Int) (x : Int) : l.map D.int ++ [D.int x] = (l ++ [x]).map D.int := by simp
theorem strm_a {P : PEnds} {a0 a2 : D} {s5 : Slot} {S : List Int} {l : List Int} {cell : Int} {s4 : Slot} (hl : l.length ≤ 4000) (h : ∀ (l' : List Int) (cell' : Int) (s4' : Slot), l'.length ≤ l.length + 40 → P.nx [.dat a0, .own (l'.map .int), .dat a2, .dat (.int cell'), s4', s5] S) :
    forRun (pgName 4) (pSeq (pApp 1 (pBin fMod (pCB fInt (pCons (pVar 3) pNil)) (pC (.int 97)))) (pSeq (pAsg (pBin fDiv (pVar 3) (pC (.int 97))) (pgName 3)) pNext)) P (rng 0 1 40) [.dat a0, .own (l.map .int), .dat a2, .dat (.int cell), s4, s5] S := by
  have hz : (10000 : Nat) < sizeLine := by decide
  refine for_ind (fun i sl S' => S' = S ∧ i ≤ 40 ∧ ∃ (l' : List Int) (cell' : Int) (s4' : Slot), sl = [.dat a0, .own (l'.map .int), .dat a2, .dat (.int cell'), s4', s5] ∧ l'.length ≤ l.length + i) ⟨rfl, by omega, l, cell, s4, rfl, by omega⟩ ?_ ?_
  · rintro i d sl S' N hi ⟨rfl, hi40, l', cell', s4', rfl, hl'⟩ hN
    have hil := (rng_get hi).1
    have cd : CDv cell' 97 := ⟨by decide, by decide⟩
    simp [cd]
    refine ⟨by omega, ?_⟩
    rw [snoc_int]
    exact hN _ _ ⟨rfl, by omega, _, _, _, rfl, by simp; omega⟩
  · rintro sl S' ⟨rfl, hi40, l', cell', s4', rfl, hl'⟩
    rw [rng_len] at hl'
    exact h l' cell' s4' hl'
theorem strm_b {P : PEnds} {a0 a3 : D} {at' : Nat} {S : List Int} {l : List Int} {seed : Int} {s4 : Slot} (hl : l.length ≤ 4000) (ha : at' ≤ 100) (hs : 0 ≤ seed ∧ seed < 2000000) (h : ∀ (l' : List Int) (seed' : Int) (s4' : Slot), l'.length ≤ l.length + 6 → P.nx [.dat a0, .own (l'.map .int), .dat (.int at'), .dat a3, s4', .dat (.int seed')] S) :
    forRun (pgName 4) (pSeq (pAsg (pBin fMod (pCB fInt (pCons (pBin fAdd (pBin fAdd (pBin fAdd (pBin fMul (pVar 5) (pVar 5)) (pBin fMul (pVar 4) (pC (.int 6151)))) (pBin fMul (pVar 2) (pC (.int 31)))) (pC (.int 5))) pNil)) (pC (.int 999983))) (pgName 5)) (pSeq (pApp 1 (pVar 5)) pNext)) P (rng 0 1 6) [.dat a0, .own (l.map .int), .dat (.int at'), .dat a3, s4, .dat (.int seed)] S := by
  have hz : (10000 : Nat) < sizeLine := by decide
  refine for_ind (fun i sl S' => S' = S ∧ i ≤ 6 ∧ ∃ (l' : List Int) (seed' : Int) (s4' : Slot), sl = [.dat a0, .own (l'.map .int), .dat (.int at'), .dat a3, s4', .dat (.int seed')] ∧ l'.length ≤ l.length + i ∧ 0 ≤ seed' ∧ seed' < 2000000) ⟨rfl, by omega, l, seed, s4, rfl, by omega, hs⟩ ?_ ?_
  · rintro i d sl S' N hi ⟨rfl, hi40, l', seed', s4', rfl, hl', s0, s1⟩ hN
    obtain ⟨hil, rfl⟩ := rng_get hi
    have z1 : sz 30 seed' := by
      show _ < 1073741824
      omega
    have c1 := cmul z1 z1 (by decide)
    have c2 : CMulW (i : Int) 6151 := cmul (a := 30) (b := 30) (show _ < 1073741824 by omega) (show _ < _ by decide) (by decide)
    have c3 : CMulW (at' : Int) 31 := cmul (a := 30) (b := 30) (show _ < 1073741824 by omega) (show _ < _ by decide) (by decide)
    simp [c1, c2, c3]
    refine ⟨by omega, ?_⟩
    rw [snoc_int]
    refine hN _ _ ⟨rfl, by omega, _, _, _, rfl, by simp; omega, Int.fmod_nonneg_of_pos _ (by decide), ?_⟩
    exact Int.lt_trans (Int.fmod_lt_of_pos _ (by decide : (0 : Int) < 999983)) (by decide)
  · rintro sl S' ⟨rfl, hi40, l', seed', s4', rfl, hl', _⟩
    rw [rng_len] at hl'
    exact h l' seed' s4' hl'
theorem pf__law_stream : ∀ rs S Q E, sp__law_stream rs S Q E → p__law_stream (ends Q E) (rs.map Res.slot ++ List.replicate (6 - rs.length) .un) S := by
  rintro rs S Q E ⟨ns, rfl, h63, q⟩
  have hz0 : (0 : Nat) ≤ sizeLine := by decide
  have mn : (if (63 : Int) < (ns.length : Int) then (63 : Int) else (ns.length : Int)) = (ns.length : Int) := by rw [if_neg (by omega)]
  have c18 : CPow 10 18 := by unfold CPow; decide
  have s40 : sm62 40 := by unfold sm62; decide
  have s6 : sm62 6 := by unfold sm62; decide
  simp [p__law_stream, mn]
  refine ⟨sm62_nat (by omega), ?_⟩
  refine for_ind (fun i sl S' => S' = S ∧ ∃ (l : List Int) (s2 s3 s4 s5 : Slot), sl = [.dat (.frl (ns.map .int)), .own (l.map .int), s2, s3, s4, s5] ∧ l.length ≤ 40 * i) ⟨rfl, [], .un, .un, .un, .un, rfl, by simp⟩ ?_ ?_
  · rintro i d sl S' N hi ⟨rfl, l, s2, s3, s4, s5, rfl, hl⟩ hN
    obtain ⟨hil, rfl⟩ := rng_get hi
    have hin : i < ns.length := by simpa using hil
    have ea : atI (ns.map D.int) (i : Int) = some (.int ns[i]) := at_nat (by rw [List.getElem?_map, List.getElem?_eq_getElem hin]; rfl)
    have hN' : ∀ (l' : List Int) s2 s3 s4 s5, l'.length ≤ l.length + 40 → N [.dat (.frl (ns.map .int)), .own (l'.map .int), s2, s3, s4, s5] S' := fun l' s2 s3 s4 s5 h => hN _ _ ⟨rfl, l', s2, s3, s4, s5, rfl, by omega⟩
    have c2 : CMulW (i : Int) 104729 := cmul (a := 30) (b := 30) (show _ < 1073741824 by omega) (show _ < _ by decide) (by decide)
    have c1 : ∀ cell : Int, 0 ≤ cell → cell < 1000000000000000000 → CMulW cell 7919 := fun cell h1 h2 => cmul (a := 60) (b := 30) (show _ < 1152921504606846976 by omega) (show _ < _ by decide) (by decide)
    have sd : ∀ x : Int, 0 ≤ x.fmod 1000003 ∧ x.fmod 1000003 < 2000000 := fun x => ⟨Int.fmod_nonneg_of_pos _ (by decide), Int.lt_trans (Int.fmod_lt_of_pos _ (by decide : (0 : Int) < 1000003)) (by decide)⟩
    simp [ea, c18, c2, s40, s6]
    by_cases hneg : ns[i] < 0
    · rw [if_pos hneg]
      by_cases hb : 1000000000000000000 ≤ -ns[i]
      · rw [if_pos hb]
        exact strm_a (by omega) fun l' cell' s4' h => hN' l' _ _ _ _ h
      · rw [if_neg hb]
        exact ⟨c1 _ (by omega) (by omega), strm_b (by omega) (by omega) (sd _) fun l' seed' s4' h => hN' l' _ _ _ _ (by omega)⟩
    · rw [if_neg hneg]
      by_cases hb : 1000000000000000000 ≤ ns[i]
      · rw [if_pos hb]
        exact strm_a (by omega) fun l' cell' s4' h => hN' l' _ _ _ _ h
      · rw [if_neg hb]
        exact ⟨c1 _ (by omega) (by omega), strm_b (by omega) (by omega) (sd _) fun l' seed' s4' h => hN' l' _ _ _ _ (by omega)⟩
  · rintro sl S' ⟨rfl, l, s2, s3, s4, s5, rfl, hl⟩
    simp [pRev, ← List.map_reverse]
    exact q l.reverse
end K05
end
section
set_option Elab.async false
set_option linter.all false
set_option maxRecDepth 100000
namespace K05
open PySem L2 Py LA
abbrev Rz (M : List (List Int)) (o : Nat → Nat) : Mat := fun a j => (zent M (o a) j : Rat)
abbrev cz (piv : List Nat) : Nat → Nat := fun t => piv.getD t 0
theorem zent_sz {M : List (List Int)} {b : Nat} (h : ∀ r ∈ M, ∀ z ∈ r, sz b z) (i j : Nat) : sz b (zent M i j) := by
  have z0 : sz b 0 := by
    show (0 : Int).natAbs < 2 ^ b
    exact Nat.pow_pos (by decide)
  unfold zent
  by_cases hi : i < M.length
  · have e : M.getD i [] = M[i] := by simp [hi]
    rw [e]
    by_cases hj : j < M[i].length
    · have e2 : M[i].getD j 0 = M[i][j] := by simp [hj]
      rw [e2]
      exact h _ (List.getElem_mem hi) _ (List.getElem_mem hj)
    · have e2 : M[i].getD j 0 = 0 := by simp [hj]
      rw [e2]
      exact z0
  · have e : M.getD i [] = [] := by simp [hi]
    rw [e]
    exact z0
theorem cast_inj {a b : Int} (h : (a : Rat) = (b : Rat)) : a = b := by exact_mod_cast h
theorem fct_le : ∀ k, k ≤ 8 → fct k ≤ 2 ^ 16 := fun k hk => by
  have : k = 0 ∨ k = 1 ∨ k = 2 ∨ k = 3 ∨ k = 4 ∨ k = 5 ∨ k = 6 ∨ k = 7 ∨ k = 8 := by omega
  rcases this with rfl | rfl | rfl | rfl | rfl | rfl | rfl | rfl | rfl <;> decide
theorem detZ_sz {k : Nat} {A : Nat → Nat → Int} (hk : k ≤ 8) (h : ∀ a b, sz 300 (A a b)) : sz 2420 (detZ k A) := by
  have h1 := detZ_le (k := k) (A := A) (B := 2 ^ 300) fun a b _ _ => Nat.le_of_lt (h a b)
  have h2 : fct k * (2 ^ 300) ^ k ≤ 2 ^ 16 * 2 ^ 2400 := by
    refine Nat.mul_le_mul (fct_le k hk) ?_
    rw [← Nat.pow_mul]
    exact Nat.pow_le_pow_right (by decide) (by omega)
  rw [← Nat.pow_add] at h2
  exact Nat.lt_of_le_of_lt (Nat.le_trans h1 h2) (Nat.pow_lt_pow_right (by decide) (by decide))
theorem mn_int (M : List (List Int)) (o c : Nat → Nat) (k i j : Nat) : mn (Rz M o) c k i j = ((detZ (k + 1) fun a b => zent M (o (if a < k then a else i)) (if b < k then c b else j) : Int) : Rat) := by
  rw [detZ_cast]
  rfl
theorem pv_int (M : List (List Int)) (o c : Nat → Nat) (k : Nat) : pv (Rz M o) c k = ((detZ k fun a b => zent M (o a) (c b) : Int) : Rat) := by
  rw [detZ_cast]
  rfl
section
variable {M L : List (List Int)} {col w : Nat} {piv : List Nat} {o : Nat → Nat}
theorem Ech.ent_sz (h : Ech M col w piv L o) (hM : ∀ r ∈ M, ∀ z ∈ r, sz 300 z) (h6 : piv.length ≤ 6) {i j : Nat} (hi : i < M.length) (hj : j < w) : sz 2420 (zent L i j) := by
  have v := h.st.val i j hi hj
  rw [mn_int M o (cz piv)] at v
  rw [cast_inj v]
  exact detZ_sz (by omega) fun a b => zent_sz hM _ _
theorem pv_sz (hM : ∀ r ∈ M, ∀ z ∈ r, sz 300 z) {k : Nat} (hk : k ≤ 8) (c : Nat → Nat) : sz 2420 (detZ k fun a b => zent M (o a) (c b)) := detZ_sz hk fun a b => zent_sz hM _ _
/-- the step in whole numbers -/
theorem step_int {k i j : Nat} {c : Nat → Nat} (s : Solv (Rz M o) c k) (hi : k < i) : ∃ z : Int, (z : Rat) = mn (Rz M o) c (k + 1) i j ∧ ∀ a b d e last : Int, (a : Rat) = mn (Rz M o) c k i j → (b : Rat) = mn (Rz M o) c k k (c k) → (d : Rat) = mn (Rz M o) c k i (c k) → (e : Rat) = mn (Rz M o) c k k j → (last : Rat) = pv (Rz M o) c k → a * b - d * e = last * z := by
  refine ⟨_, (mn_int M o c (k + 1) i j).symm, fun a b d e last ha hb hd he hl => ?_⟩
  have q := bareiss (j := j) s hi
  rw [← ha, ← hb, ← hd, ← he, ← hl, mn_int M o c (k + 1) i j, ← Rat.intCast_mul, ← Rat.intCast_mul, ← Rat.intCast_mul, ← Rat.intCast_sub] at q
  exact cast_inj q
end
end K05
end
section
set_option Elab.async false
set_option linter.all false
set_option maxRecDepth 100000
namespace K05
open PySem L2 Py LA
theorem ixN_nat {n k : Nat} (h : k < n) : ixN n (k : Int) = some k := by
  unfold ixN
  rw [if_pos (by omega), if_pos (by omega)]
  simp
theorem zent_row {L : List (List Int)} {k j : Nat} (h : k < L.length) : zent L k j = L[k].getD j 0 := by simp [zent, h]
/-- the rows k and p exchanged -/
def swp (L : List (List Int)) (k p : Nat) : List (List Int) := (L.set k (L.getD p [])).set p (L.getD k [])
def sw (k p a : Nat) : Nat := if a = p then k else if a = k then p else a
theorem swp_len (L : List (List Int)) (k p : Nat) : (swp L k p).length = L.length := by simp [swp]
theorem swp_get {L : List (List Int)} {k p a : Nat} (hk : k < L.length) (hp : p < L.length) : (swp L k p).getD a [] = L.getD (sw k p a) [] := by
  unfold swp sw
  by_cases h1 : a = p
  · rw [if_pos h1, h1]
    simp [hp]
  · rw [if_neg h1]
    by_cases h2 : a = k
    · rw [if_pos h2, h2]
      have : ¬ p = k := fun z => h1 (by rw [h2, z])
      simp [List.getElem?_set, this, hk]
    · rw [if_neg h2]
      have h3 : ¬ p = a := fun z => h1 z.symm
      have h4 : ¬ k = a := fun z => h2 z.symm
      simp [List.getElem?_set, h3, h4]
theorem swp_ent {L : List (List Int)} {k p a j : Nat} (hk : k < L.length) (hp : p < L.length) : zent (swp L k p) a j = zent L (sw k p a) j := by
  show ((swp L k p).getD a []).getD j 0 = (L.getD (sw k p a) []).getD j 0
  rw [swp_get hk hp]
theorem sw_sw (k p a : Nat) : sw k p (sw k p a) = a := by
  unfold sw
  repeat' split
  all_goals omega
abbrev nLs (piv : List Nat) : List D := piv.map fun n => D.int (n : Nat)
theorem asc_le {m w col k : Nat} {R : Mat} {c : Nat → Nat} {E : Nat → Nat → Rat} (s : St m w col k R c E) : k ≤ col := by
  have h : ∀ t, t < k → t ≤ c t := by
    intro t
    induction t with
    | zero => intro _; omega
    | succ t ih =>
      intro ht
      have := ih (by omega)
      have := s.asc t (t + 1) (by omega) ht
      omega
  by_cases z : k = 0
  · omega
  · have h1 := h (k - 1) (by omega)
    have h2 := s.pin (k - 1) (by omega)
    omega
theorem cz_snoc {piv : List Nat} {i : Nat} : (∀ t, t < piv.length → cz (piv ++ [i]) t = cz piv t) ∧ cz (piv ++ [i]) piv.length = i := by
  refine ⟨fun t ht => ?_, ?_⟩
  · simp [cz, List.getElem?_append, ht]
  · simp [cz]
theorem zent_set {L : List (List Int)} {a b j : Nat} {r : List Int} (ha : a < L.length) : zent (L.set a r) b j = if b = a then r.getD j 0 else zent L b j := by
  unfold zent
  by_cases h : b = a
  · rw [if_pos h, h]
    simp [ha]
  · rw [if_neg h]
    have : ¬ a = b := fun z => h z.symm
    simp [List.getElem?_set, this]
/-- the loop below a pivot -/
theorem ech_pivot {M L : List (List Int)} {n w i p : Nat} {piv : List Nat} {o : Nat → Nat} {last : Int} {s9 s10 s11 : Slot} {S' : List Int} {Q : Res → List Int → Prop} {E : PX → List Int → Prop} {N bk : List Slot → List Int → Prop}
    (hz : (64 : Nat) ≤ sizeLine) (hE : Ech M i w piv L o) (hw : w ≤ 64) (hm : M.length ≤ 64) (hM : ∀ r ∈ M, r.length = w ∧ ∀ z ∈ r, sz 300 z) (hsm : M.length ≤ 6 ∨ n ≤ 6) (hnw : n ≤ w) (hin : i ≤ n) (hil : i < n)
    (hlast : (last : Rat) = pv (Rz M o) (cz piv) piv.length) (h1 : piv.length ≤ p) (h2 : p < L.length) (hne : zent L p i ≠ 0)
    (hN : ∀ (L2 : List (List Int)) (o2 : Nat → Nat) (last2 : Int) (s8 s9 s10 s11 : Slot), Ech M (i + 1) w (piv ++ [i]) L2 o2 → (last2 : Rat) = pv (Rz M o2) (cz (piv ++ [i])) (piv ++ [i]).length →
      N [.dat (.lst (M.map zL)), .dat (.int n), .own (L2.map zL), .own (nLs (piv ++ [i])), .dat (.int last2), .dat (.int i), .dat (.int piv.length), .dat (.int p), s8, s9, s10, s11] S')
    {hk1 : piv.length < (swp L piv.length p).length} :
    forRun (pgName 9) (pSeq (pAsg (pIx (pQVar 2) (pVar 9)) (pgName 10)) (pSeq (pAsg (pLc 11 (pRng1 (pCons (pLen (pQVar 10)) pNil)) pYes
      (pBin fDiv (pBin fSub (pBin fMul (pIx (pQVar 10) (pVar 11)) (pIx (pQVar 8) (pVar 5))) (pBin fMul (pIx (pQVar 10) (pVar 5)) (pIx (pQVar 8) (pVar 11)))) (pVar 4))) (pgSub 2 (pVar 9))) pNext))
      { nx := pSeq (pAsg (pIx (pQVar 8) (pVar 5)) (pgName 4)) (pSeq (pApp 3 (pVar 5)) pNext) { nx := pNext { nx := N, rt := Q, bk := bk, ct := N, ex := fun x _ S' => E x S' }, rt := Q, bk := bk, ct := N, ex := fun x _ S' => E x S' }, rt := Q, bk := bk, ct := N, ex := fun x _ S' => E x S' }
      (rng ((piv.length : Int) + 1) 1 ((L.length : Int) - ((piv.length : Int) + 1)).toNat)
      [.dat (.lst (M.map zL)), .dat (.int n), .own ((swp L piv.length p).map zL), .own (nLs piv), .dat (.int last), .dat (.int i), .dat (.int piv.length), .dat (.int p), .dat (zL (swp L piv.length p)[piv.length]), s9, s10, s11] S' := by
  have hLl := hE.len
  have hk : piv.length < L.length := by rw [swp_len] at hk1; exact hk1
  have hkm : piv.length < M.length := by omega
  have h6 : piv.length ≤ 6 := by
    have := asc_le hE.st
    have := hE.st.few
    omega
  have hMs : ∀ r ∈ M, ∀ z ∈ r, sz 300 z := fun r hr => (hM r hr).2
  have hst := hE.st
  generalize hkk : piv.length = k at *
  -- the rows exchanged
  have s1 : St M.length w i k (Rz M fun a => o (sw k p a)) (cz piv) (fun a j => (zent (swp L k p) a j : Rat)) :=
    hst.swap (E' := fun a j => (zent (swp L k p) a j : Rat)) (R' := Rz M fun a => o (sw k p a)) (sw k p) (fun a ha => by unfold sw; rw [if_neg (by omega), if_neg (by omega)]) (fun a ha ham => by unfold sw; by_cases z1 : a = p <;> by_cases z2 : a = k <;> simp only [z1, z2, if_true, if_false] <;> (try split) <;> omega) (fun a => rfl) fun a _ => by
      funext j
      rw [swp_ent hk h2]
  generalize ho1 : (fun a => o (sw k p a)) = o1 at s1
  have hlast1 : (last : Rat) = pv (Rz M o1) (cz piv) k := by
    rw [hlast]
    refine pv_congr (fun a ha => ?_) fun _ _ => rfl
    rw [← ho1]
    have : sw k p a = a := by unfold sw; rw [if_neg (by omega), if_neg (by omega)]
    show (fun j => (zent M (o a) j : Rat)) = fun j => (zent M (o (sw k p a)) j : Rat)
    rw [this]
  obtain ⟨cz1, cz2⟩ := cz_snoc (piv := piv) (i := i)
  rw [hkk] at cz1 cz2
  generalize hc1 : cz (piv ++ [i]) = c1 at *
  have sv1 : Solv (Rz M o1) c1 k := solv_congr (fun _ _ => rfl) (fun t ht => (cz1 t ht).symm) s1.slv
  have pv1 : (last : Rat) = pv (Rz M o1) c1 k := by
    rw [hlast1]
    exact pv_congr (fun _ _ => rfl) fun t ht => (cz1 t ht).symm
  have lastne : last ≠ 0 := fun z => s1.piv0 k (Nat.le_refl _) (by rw [← hlast1, z]; rfl)
  have lastsz : sz 2420 last := by
    have : last = detZ k fun a b => zent M (o1 a) (c1 b) := cast_inj (by rw [pv1, pv_int])
    rw [this]
    exact pv_sz hMs (by omega) c1
  have cd : ∀ x, CDv x last := fun x => ⟨lastne, Nat.lt_of_le_of_lt (sz_log lastsz) (by decide)⟩
  -- the rows' numbers
  have sz1 : ∀ a j, a < M.length → j < w → sz 2420 (zent (swp L k p) a j) := fun a j ha hj => by
    rw [swp_ent hk h2]
    refine hE.ent_sz hMs (by omega) ?_ hj
    unfold sw
    repeat' split
    all_goals omega
  have vK : ∀ j, j < w → (zent (swp L k p) k j : Rat) = mn (Rz M o1) c1 k k j := fun j hj => by
    rw [s1.val k j hkm hj, Nat.min_self]
    exact mn_congr (fun _ _ => rfl) (fun t ht => (cz1 t ht).symm) rfl j
  have vA : ∀ a j, k < a → a < M.length → j < w → (zent (swp L k p) a j : Rat) = mn (Rz M o1) c1 k a j := fun a j ha ham hj => by
    have e : min a k = k := by omega
    rw [s1.val a j ham hj, e]
    exact mn_congr (fun _ _ => rfl) (fun t ht => (cz1 t ht).symm) rfl j
  have wid1 : ∀ r ∈ swp L k p, r.length = w := fun r hr => by
    unfold swp at hr
    have gp : L.getD p [] ∈ L := by simp [h2]
    have gk : L.getD k [] ∈ L := by simp [hk]
    rcases List.mem_or_eq_of_mem_set hr with z | z
    · rcases List.mem_or_eq_of_mem_set z with y | y
      · exact hE.wid r y
      · rw [y]; exact hE.wid _ gp
    · rw [z]; exact hE.wid _ gk
  have lead : ∀ j, (swp L k p)[k].getD j 0 = zent (swp L k p) k j := fun j => (zent_row hk1).symm
  have leadw : (swp L k p)[k].length = w := wid1 _ (List.getElem_mem hk1)
  generalize hld : (swp L k p)[k] = ld at *
  have el : ((L.length : Int) - ((k : Int) + 1)).toNat = M.length - (k + 1) := by omega
  rw [el]
  refine for_ind (fun t sl S2 => S2 = S' ∧ k + 1 + t ≤ M.length ∧ ∃ (L2 : List (List Int)) (s9 s10 s11 : Slot), sl = [.dat (.lst (M.map zL)), .dat (.int n), .own (L2.map zL), .own (nLs piv), .dat (.int last), .dat (.int i), .dat (.int k), .dat (.int p), .dat (zL ld), s9, s10, s11] ∧
    L2.length = M.length ∧ (∀ r ∈ L2, r.length = w) ∧ (∀ a j, (a ≤ k ∨ k + 1 + t ≤ a) → zent L2 a j = zent (swp L k p) a j) ∧ ∀ a j, k < a → a < k + 1 + t → j < w → last * zent L2 a j = zent (swp L k p) a j * zent (swp L k p) k i - zent (swp L k p) a i * zent (swp L k p) k j)
    ⟨rfl, by omega, swp L k p, s9, s10, s11, rfl, by rw [swp_len]; omega, wid1, fun _ _ _ => rfl, fun a j h3 h4 => by omega⟩ ?_ ?_
  · rintro t d sl S2 F hi ⟨rfl, ht, L2, s9, s10, s11, rfl, hl2, hw2, hv1, hv2⟩ hF
    obtain ⟨htl, rfl⟩ := rng_get hi
    have ha : k + 1 + t < M.length := by omega
    have haL : k + 1 + t < L2.length := by omega
    have ea : (k : Int) + 1 + (t : Int) * 1 = ((k + 1 + t : Nat) : Int) := by omega
    have e1 := at_z (M := L2) haL
    have rw2 : L2[k + 1 + t].length = w := hw2 _ (List.getElem_mem haL)
    have rent : ∀ j, L2[k + 1 + t].getD j 0 = zent (swp L k p) (k + 1 + t) j := fun j => by
      rw [← zent_row haL]
      exact hv1 _ j (.inr (Nat.le_refl _))
    have cst : ((k + 1 + t : Nat) : Int) = (k : Int) + 1 + (t : Int) := by omega
    have e2 := ixN_nat haL
    rw [cst] at e1 e2
    have hiw : i < w := by omega
    have ai : atI (ld.map D.int) (i : Int) = some (.int (zent (swp L k p) k i)) := by rw [at_zi (by omega), lead]
    have ri : atI (L2[k + 1 + t].map D.int) (i : Int) = some (.int (zent (swp L k p) (k + 1 + t) i)) := by rw [at_zi (by omega), rent]
    have body : ∀ j, j < w → ∃ z : Int, zent (swp L k p) (k + 1 + t) j * zent (swp L k p) k i - zent (swp L k p) (k + 1 + t) i * zent (swp L k p) k j = last * z := fun j hj => by
      obtain ⟨z, _, hz2⟩ := step_int (M := M) (o := o1) (c := c1) (k := k) (i := k + 1 + t) (j := j) sv1 (by omega)
      refine ⟨z, hz2 _ _ _ _ _ (vA _ j (by omega) ha hj) ?_ ?_ (vK j hj) pv1⟩
      · rw [cz2]; exact vK i hiw
      · rw [cz2]; exact vA _ i (by omega) ha hiw
    let nr : List Int := (List.range w).map fun j => (zent (swp L k p) (k + 1 + t) j * zent (swp L k p) k i - zent (swp L k p) (k + 1 + t) i * zent (swp L k p) k j).fdiv last
    have nrl : nr.length = w := by simp [nr]
    have nrg : ∀ j, j < w → last * nr.getD j 0 = zent (swp L k p) (k + 1 + t) j * zent (swp L k p) k i - zent (swp L k p) (k + 1 + t) i * zent (swp L k p) k j := fun j hj => by
      have : nr.getD j 0 = (zent (swp L k p) (k + 1 + t) j * zent (swp L k p) k i - zent (swp L k p) (k + 1 + t) i * zent (swp L k p) k j).fdiv last := by simp [nr, hj]
      obtain ⟨z, hzz⟩ := body j hj
      rw [this, hzz, Int.mul_fdiv_cancel_left _ lastne]
    rw [ea]
    simp [e1, e2, zL, rw2, rng_len]
    refine ⟨sm62_nat (by omega), by omega, ?_⟩
    refine lc_rng (fun j => .int ((zent (swp L k p) (k + 1 + t) j * zent (swp L k p) k i - zent (swp L k p) (k + 1 + t) i * zent (swp L k p) k j).fdiv last)) (fun j hj G hG => ?_) ?_
    · have aj : atI (ld.map D.int) (j : Int) = some (.int (zent (swp L k p) k j)) := by rw [at_zi (by omega), lead]
      have rj : atI (L2[k + 1 + t].map D.int) (j : Int) = some (.int (zent (swp L k p) (k + 1 + t) j)) := by rw [at_zi (by omega), rent]
      have m1 : CMulW (zent (swp L k p) (k + 1 + t) j) (zent (swp L k p) k i) := cmul (sz1 _ j ha hj) (sz1 _ i hkm hiw) (by decide)
      have m2 : CMulW (zent (swp L k p) (k + 1 + t) i) (zent (swp L k p) k j) := cmul (sz1 _ i ha hiw) (sz1 _ j hkm hj) (by decide)
      simp [zL, ai, ri, aj, rj, m1, m2, cd]
      exact hG
    · have e5 : (L2.map zL).set (k + 1 + t) (.lst ((List.range w).map fun j => D.int ((zent (swp L k p) (k + 1 + t) j * zent (swp L k p) k i - zent (swp L k p) (k + 1 + t) i * zent (swp L k p) k j).fdiv last))) = (L2.set (k + 1 + t) nr).map zL := by
        rw [List.map_set]
        have : zL nr = .lst ((List.range w).map fun j => D.int ((zent (swp L k p) (k + 1 + t) j * zent (swp L k p) k i - zent (swp L k p) (k + 1 + t) i * zent (swp L k p) k j).fdiv last)) := by
          show D.lst (nr.map D.int) = _
          simp only [nr, List.map_map]
          rfl
        rw [this]
      have hF2 := hF [.dat (.lst (M.map zL)), .dat (.int n), .own ((L2.set (k + 1 + t) nr).map zL), .own (nLs piv), .dat (.int last), .dat (.int i), .dat (.int k), .dat (.int p), .dat (zL ld), .dat (.int ((k : Int) + 1 + (t : Int))), .dat (zL L2[k + 1 + t]), s11] S2
        ⟨rfl, by omega, L2.set (k + 1 + t) nr, _, _, _, rfl, by simp [hl2], fun r hr => ?_, fun a j hj => ?_, fun a j h3 h4 hj => ?_⟩
      · rw [← e5] at hF2
        exact hF2
      · rcases List.mem_or_eq_of_mem_set hr with z | z
        · exact hw2 r z
        · rw [z]; exact nrl
      · rw [zent_set haL, if_neg (by omega)]
        exact hv1 a j (by omega)
      · rw [zent_set haL]
        by_cases z : a = k + 1 + t
        · rw [if_pos z, z]
          exact nrg j hj
        · rw [if_neg z]
          exact hv2 a j h3 (by omega) hj
  · rintro sl S2 ⟨rfl, ht, L2, s9, s10, s11, rfl, hl2, hw2, hv1, hv2⟩
    rw [rng_len] at hv1 hv2
    have hiw : i < w := by omega
    have ai : atI (ld.map D.int) (i : Int) = some (.int (zent (swp L k p) k i)) := by rw [at_zi (by omega), lead]
    have swl : ∀ a, a < M.length → sw k p a < M.length := fun a h => by
      unfold sw
      repeat' split
      all_goals omega
    have o1v : ∀ a, o1 a = o (sw k p a) := fun a => by rw [← ho1]
    have pl : (piv ++ [i]).length = k + 1 := by simp [hkk]
    have hst2 : St M.length w (i + 1) (k + 1) (Rz M o1) c1 (fun a j => (zent L2 a j : Rat)) := by
      refine s1.pivot (c' := c1) hkm hiw ?_ cz1 cz2 (fun a j ha => ?_) fun a j h3 h4 hj => ?_
      · intro z
        have z : zent (swp L k p) k i = 0 := cast_inj z
        rw [swp_ent hk h2] at z
        have : sw k p k = p := by
          unfold sw
          by_cases y : k = p
          · rw [if_pos y]; exact y
          · rw [if_neg y, if_pos rfl]
        rw [this] at z
        exact hne z
      · show (zent L2 a j : Rat) = (zent (swp L k p) a j : Rat)
        rw [hv1 a j (.inl ha)]
      · have q := hv2 a j h3 (by omega) hj
        show pv (Rz M o1) (cz piv) k * (zent L2 a j : Rat) = (zent (swp L k p) a j : Rat) * (zent (swp L k p) k i : Rat) - (zent (swp L k p) a i : Rat) * (zent (swp L k p) k j : Rat)
        rw [← hlast1, ← Rat.intCast_mul, q, Rat.intCast_sub, Rat.intCast_mul, Rat.intCast_mul]
    have hN2 := hN L2 o1 (zent (swp L k p) k i) (.dat (zL ld)) s9 s10 s11 ⟨fun a h => by rw [o1v]; exact hE.lt _ (swl a h), fun b hb => ?_, fun a b h3 h4 e => ?_, by omega, hw2, ?_⟩ ?_
    · have nls : nLs piv ++ [D.int (i : Nat)] = nLs (piv ++ [i]) := by simp [nLs]
      have pz : piv.length < sizeLine := by omega
      simp [zL, ai, pz]
      simp [zL, nLs] at hN2
      exact hN2
    · obtain ⟨a, h3, h4⟩ := hE.onto b hb
      exact ⟨sw k p a, swl a h3, by rw [o1v, sw_sw]; exact h4⟩
    · rw [o1v, o1v] at e
      have := hE.inj _ _ (swl a h3) (swl b h4) e
      have := congrArg (sw k p) this
      rw [sw_sw, sw_sw] at this
      exact this
    · rw [pl]
      have : (fun t => (piv ++ [i]).getD t 0) = c1 := hc1
      rw [this]
      exact hst2
    · rw [pl, pv_succ, cz2]
      exact vK i hiw
theorem pf_tb_echelon : ∀ rs S Q E, sp_tb_echelon rs S Q E → p_tb_echelon (ends Q E) (rs.map Res.slot ++ List.replicate (12 - rs.length) .un) S := by
  rintro rs S Q E ⟨M, n, w, rfl, hnw, hw, hm, hM, hsm, q⟩
  have hz : (64 : Nat) ≤ sizeLine := by decide
  have hz0 : (0 : Nat) ≤ sizeLine := by decide
  simp [p_tb_echelon]
  refine ⟨by omega, ?_⟩
  refine lc_pair (R := fun x (r : List Int) => x = zL r) zL (Py.paired_map (f := zL) (fun _ => rfl) M) (fun x r hx _ F hF => ?_) ?_
  · subst hx
    simp [zL]
    exact hF
  · refine ⟨sm62_nat (by omega), ?_⟩
    refine for_ind (fun i sl S' => S' = S ∧ i ≤ n ∧ ∃ (L : List (List Int)) (piv : List Nat) (o : Nat → Nat) (last : Int) (s5 s6 s7 s8 s9 s10 s11 : Slot),
      sl = [.dat (.lst (M.map zL)), .dat (.int n), .own (L.map zL), .own (nLs piv), .dat (.int last), s5, s6, s7, s8, s9, s10, s11] ∧ Ech M i w piv L o ∧ (last : Rat) = pv (Rz M o) (cz piv) piv.length)
      ⟨rfl, by omega, M, [], fun a => a, 1, .un, .un, .un, .un, .un, .un, .un, rfl, ⟨fun _ h => h, fun b hb => ⟨b, hb, rfl⟩, fun _ _ _ _ h => h, rfl, fun r hr => (hM r hr).1, St.init _ fun i j _ _ => rfl⟩, rfl⟩ ?_ ?_
    · rintro i d sl S' N hi ⟨rfl, hin, L, piv, o, last, s5, s6, s7, s8, s9, s10, s11, rfl, hE, hlast⟩ hN
      obtain ⟨hil, rfl⟩ := rng_get hi
      have hLl := hE.len
      have hkm : piv.length ≤ L.length := by rw [hLl]; exact hE.st.few
      simp [pLend]
      refine ⟨L, piv.length, i, rfl, hkm, by omega, fun r hr => by rw [hE.wid r hr]; omega, fun p h1 h2 hne hzz => ?_, fun hzz => ?_⟩
      · have hk : piv.length < L.length := by omega
        have gp : L.getD p [] = L[p] := by simp [h2]
        have gk : L.getD piv.length [] = L[piv.length] := by simp [hk]
        have e1 := at_z (M := L) h2
        have e2 := at_z (M := L) hk
        have e3 := ixN_nat hk
        have e4 := ixN_nat h2
        have e5 : ((L.map zL).set piv.length (zL L[p])).set p (zL L[piv.length]) = (swp L piv.length p).map zL := by
          unfold swp
          rw [List.map_set, List.map_set, gp, gk]
        have hk1 : piv.length < (swp L piv.length p).length := by rw [swp_len]; exact hk
        have e6 := at_z (M := swp L piv.length p) hk1
        simp [Res.nolst, D.nolst, e1, e2, e3, e4, e5, e6]
        refine ⟨by omega, ⟨sm62_nat' (by omega) (by omega), sm62_nat (by omega)⟩, ?_⟩
        exact ech_pivot hz hE hw hm hM hsm hnw hin hil hlast h1 h2 hne fun L2 o2 last2 s8 s9 s10 s11 hE2 hl2 => hN _ _ ⟨rfl, by omega, L2, piv ++ [i], o2, last2, _, _, _, s8, s9, s10, s11, rfl, hE2, hl2⟩
      · simp [Res.nolst, D.nolst]
        exact hN _ _ ⟨rfl, by omega, L, piv, o, last, _, _, _, _, _, _, _, rfl, ⟨hE.lt, hE.onto, hE.inj, hE.len, hE.wid, hE.st.skip fun a h1 h2 => by rw [hzz a h1 (by omega)]; rfl⟩, hlast⟩
    · rintro sl S' ⟨rfl, hin, L, piv, o, last, s5, s6, s7, s8, s9, s10, s11, rfl, hE, hlast⟩
      rw [rng_len] at hE
      simp
      refine ⟨by omega, ?_⟩
      exact q piv L o hE
end K05
end
section
set_option Elab.async false
set_option linter.all false
set_option maxRecDepth 100000
namespace K05
open PySem L2 Py LA
theorem getD_set_ne {l : List Int} {a b : Nat} {v : Int} (h : ¬ a = b) : (l.set a v).getD b 0 = l.getD b 0 := by
  rw [List.getD_eq_getElem?_getD, List.getD_eq_getElem?_getD, List.getElem?_set_ne h]
theorem at_neg1 {xs : List D} {d : D} (h : 0 < xs.length) (e : xs[xs.length - 1]? = some d) : atI xs (-1) = some d := by
  unfold atI ixN
  rw [if_neg (by omega), if_pos (by omega)]
  have : ((-1 : Int) + (xs.length : Int)).toNat = xs.length - 1 := by omega
  simp [this, e]
theorem sumZr_left {h : Nat → Int} {c : Nat} (hz : ∀ j, j < c → h j = 0) : sumZ c h = 0 := by
  have : ∀ m, m ≤ c → sumZ m h = 0 := by
    intro m
    induction m with
    | zero => intro _; rfl
    | succ m ih =>
      intro hm
      show sumZ m h + h m = 0
      rw [ih (by omega), hz m (by omega)]
      rfl
  exact this c (Nat.le_refl _)
theorem nls_get {piv : List Nat} {t : Nat} (h : t < piv.length) : (nLs piv)[t]? = some (.int (piv.getD t 0 : Nat)) := by
  simp [h]
theorem pf_tb_filled : ∀ rs S Q E, sp_tb_filled rs S Q E → p_tb_filled (ends Q E) (rs.map Res.slot ++ List.replicate (11 - rs.length) .un) S := by
  rintro rs S Q E ⟨L, piv, n, w, c0, d, z, f, rfl, hf, hnw, hw, hKL, hL, hwid, hpin, hasc, hpz, hd, hsz, hzsz, hdsz, q⟩
  have hz64 : (64 : Nat) ≤ sizeLine := by decide
  have hz1 : (1 : Nat) ≤ sizeLine := by decide
  have dne : d ≠ 0 := by
    rw [hd]
    split
    · decide
    · exact (hpz _ (by omega)).1
  have full0 : ∀ rest : PSm, (∀ fl : List Int, fl.length = n → (∀ j, j < n → (∀ t, t < piv.length → piv.getD t 0 ≠ j) → fl.getD j 0 = z j) → rest (ends Q E) [.dat (nL piv), .dat (.lst (L.map zL)), .dat (.int n), .dat f, .dat (.int d), .own (fl.map D.int), .un, .un, .un, .un, .un] S) →
      pSeq (pAsg (pBin fMul (pLst (pCons (pC (.int 0)) (pNil))) (pVar 2)) (pgName 5)) (pSeq (pIf (pTst (pBin fNotN (pVar 3) (pC .non))) (pSeq (pAsg (pVar 4) (pgSub 5 (pVar 3))) (pNext)) (pNext)) rest) (ends Q E) [.dat (nL piv), .dat (.lst (L.map zL)), .dat (.int n), .dat f, .dat (.int d), .un, .un, .un, .un, .un, .un] S := by
    intro rest hr
    have b1 : -(2 ^ 63) ≤ (n : Int) ∧ (n : Int) < 2 ^ 63 := by constructor <;> omega
    rcases hf with ⟨rfl, hnw', hz0, heq⟩ | ⟨rfl, hc0, hcp, hzc, hz0, heq⟩
    · have := hr (List.replicate n 0) (by simp) fun j hj h => by rw [hz0 j hj h]; simp [hj]
      rw [List.map_replicate] at this
      simp
      refine ⟨by omega, ⟨by omega, by omega⟩, this⟩
    · have := hr ((List.replicate n 0).set c0 d) (by simp) fun j hj h => by
        by_cases e : j = c0
        · rw [e, hzc]; simp [hc0]
        · rw [hz0 j hj e h]
          have : ¬ c0 = j := fun z => e z.symm
          simp [List.getElem?_set, this, hj]
      rw [List.map_set, List.map_replicate] at this
      have e2 := ixN_nat (n := n) hc0
      simp only [pSeq, pAsg, pIf, pTst, pBin, pLst, pCons, pNil, pC, dats, Res.ds, Res.arg, dat, pVar, fMul, pgName, List.getElem?_cons_zero, List.getElem?_cons_succ, List.set_cons_zero, List.set_cons_succ, Res.slot, fNotN, pNext, pgSub, Res.toD]
      simp [e2]
      exact ⟨by omega, ⟨by omega, by omega⟩, this⟩
  -- behind scale
  have main : ∀ s0 : List Slot, s0 = [.dat (nL piv), .dat (.lst (L.map zL)), .dat (.int n), .dat f, .dat (.int d), .un, .un, .un, .un, .un, .un] →
      pSeq (pAsg (pBin fMul (pLst (pCons (pC (.int 0)) (pNil))) (pVar 2)) (pgName 5)) (pSeq (pIf (pTst (pBin fNotN (pVar 3) (pC .non))) (pSeq (pAsg (pVar 4) (pgSub 5 (pVar 3))) (pNext)) (pNext)) (pSeq (pFor (pRngD (pCons (pBin fSub (pLen (pQVar 0)) (pC (.int 1))) (pCons (pNeg (pC (.int 1))) (pCons (pNeg (pC (.int 1))) (pNil))))) (pgName 6) (pSeq (pAsg (pIx (pQVar 0) (pVar 6)) (pgName 7)) (pSeq (pAsg (pIx (pQVar 1) (pVar 6)) (pgName 8)) (pSeq (pAsg (pC (.int 0)) (pgName 9)) (pSeq (pIf (pTst (pBin fIsN (pVar 3) (pC .non))) (pSeq (pAsg (pBin fMul (pIx (pQVar 8) (pVar 2)) (pVar 4)) (pgName 9)) (pNext)) (pNext)) (pSeq (pFor (pRng2 (pCons (pBin fAdd (pVar 7) (pC (.int 1))) (pCons (pVar 2) (pNil)))) (pgName 10) (pSeq (pAsg (pBin fSub (pVar 9) (pBin fMul (pIx (pQVar 8) (pVar 10)) (pIx (pQVar 5) (pVar 10)))) (pgName 9)) (pNext))) (pSeq (pAsg (pBin fDiv (pVar 9) (pIx (pQVar 8) (pVar 7))) (pgSub 5 (pVar 7))) (pNext)))))))) (pSeq (pFrz 5 (pRet (pToT (pQOf (pLc 9 (pISeq (pVar 5)) (pYes) (pCall sp_nu_low (pCons (pVar 9) (pCons (pVar 4) (pNil))))))))) (pNext)))) (ends Q E) s0 S := by
    rintro s0 rfl
    refine full0 _ fun fl hfl hnp => ?_
    have rn : (((piv.length : Int) - 1) - (-1)).toNat = piv.length := by omega
    have sm1 : sm62 ((piv.length : Int) - 1) := by unfold sm62; constructor <;> omega
    have sm2 : sm62 (-1) := by unfold sm62; decide
    simp only [pSeq, pFor, pRngD, pCons, pNil, pBin, pLen, pQVar, pC, pNeg, dats, Res.ds, Res.arg, dat, nL, seqD_lst, fSub, fI0, List.getElem?_cons_zero, List.length_map, rn]
    refine ⟨⟨sm1, sm2, trivial⟩, ?_⟩
    refine for_ind (fun t sl S2 => S2 = S ∧ ∃ (fl : List Int) (s6 s7 s8 s9 s10 : Slot), sl = [.dat (nL piv), .dat (.lst (L.map zL)), .dat (.int n), .dat f, .dat (.int d), .own (fl.map D.int), s6, s7, s8, s9, s10] ∧ fl.length = n ∧
      (∀ j, j < n → (∀ t, t < piv.length → piv.getD t 0 ≠ j) → fl.getD j 0 = z j) ∧ ∀ s, piv.length ≤ s + t → s < piv.length → fl.getD (piv.getD s 0) 0 = z (piv.getD s 0))
      ⟨rfl, fl, .un, .un, .un, .un, .un, rfl, hfl, hnp, fun s h1 h2 => by omega⟩ ?_ ?_
    · rintro t dd sl S2 N hi ⟨rfl, fl, s6, s7, s8, s9, s10, rfl, hfl, hnp, hpv⟩ hN
      obtain ⟨ht, rfl⟩ := rng_get hi
      obtain ⟨ii, hii⟩ : ∃ ii, ii = piv.length - 1 - t := ⟨_, rfl⟩
      have hik : ii < piv.length := by omega
      have hiL : ii < L.length := by omega
      have eix : (piv.length : Int) - 1 + (t : Int) * (-1) = (ii : Int) := by omega
      obtain ⟨cc, hcc⟩ : ∃ cc, cc = piv.getD ii 0 := ⟨_, rfl⟩
      have hcn : cc < n := by rw [hcc]; exact hpin ii hik
      have e1 : atI (nLs piv) (ii : Int) = some (.int (cc : Nat)) := at_nat (by rw [hcc]; exact nls_get hik)
      have e2 := at_z (M := L) hiL
      have rl : L[ii].length = w := hwid _ (List.getElem_mem hiL)
      obtain ⟨pne, pz⟩ := hpz ii hik
      rw [← hcc] at pne pz
      have rowa : ∀ j, j < w → atI (L[ii].map D.int) (j : Int) = some (.int (zent L ii j)) := fun j hj => by rw [at_zi (by omega), ← zent_row hiL]
      have fulla : ∀ j, j < n → atI (fl.map D.int) (j : Int) = some (.int (fl.getD j 0)) := fun j hj => at_zi (by omega)
      obtain ⟨h, hh⟩ : ∃ h : Nat → Int, h = fun j => zent L ii j * z j := ⟨_, rfl⟩
      have hl0 : sumZ cc h = 0 := sumZr_left fun j hj => by rw [hh]; show zent L ii j * z j = 0; rw [pz j hj, Int.zero_mul]
      have later : ∀ j, cc < j → j < n → fl.getD j 0 = z j := fun j h1 h2 => by
        by_cases im : ∀ t, t < piv.length → piv.getD t 0 ≠ j
        · exact hnp j h2 im
        · obtain ⟨s, hs⟩ := Classical.not_forall.mp im
          obtain ⟨hs, hc⟩ := Classical.not_imp.mp hs
          have hc := Classical.not_not.mp hc
          rw [← hc]
          refine hpv s ?_ hs
          rcases Nat.lt_trichotomy s ii with g | g | g
          · have := hasc s ii g hik
            omega
          · rw [g, ← hcc] at hc
            omega
          · omega
      have inner : ∀ (w0 : Int) (s10 : Slot) (P0 : PEnds), P0.nx = N → sumZ n h = w0 →
          pSeq (pFor (pRng2 (pCons (pBin fAdd (pVar 7) (pC (.int 1))) (pCons (pVar 2) (pNil)))) (pgName 10) (pSeq (pAsg (pBin fSub (pVar 9) (pBin fMul (pIx (pQVar 8) (pVar 10)) (pIx (pQVar 5) (pVar 10)))) (pgName 9)) (pNext))) (pSeq (pAsg (pBin fDiv (pVar 9) (pIx (pQVar 8) (pVar 7))) (pgSub 5 (pVar 7))) (pNext)) P0
            [.dat (nL piv), .dat (.lst (L.map zL)), .dat (.int n), .dat f, .dat (.int d), .own (fl.map D.int), .dat (.int (ii : Nat)), .dat (.int (cc : Nat)), .dat (zL L[ii]), .dat (.int w0), s10] S2 := by
        intro w0 s10 P0 hP0 hw0
        have rn2 : ((n : Int) - ((cc : Int) + 1)).toNat = n - (cc + 1) := by omega
        simp only [pSeq, pFor, pRng2, pCons, pNil, pBin, pVar, pC, dats, Res.ds, Res.arg, dat, fAdd, List.getElem?_cons_zero, List.getElem?_cons_succ, rn2]
        refine ⟨⟨sm62_nat' (by omega) (by omega), sm62_nat (by omega)⟩, ?_⟩
        refine for_ind (fun u sl S3 => S3 = S2 ∧ cc + 1 + u ≤ n ∧ ∃ s10, sl = [.dat (nL piv), .dat (.lst (L.map zL)), .dat (.int n), .dat f, .dat (.int d), .own (fl.map D.int), .dat (.int (ii : Nat)), .dat (.int (cc : Nat)), .dat (zL L[ii]), .dat (.int (w0 - (sumZ (cc + 1 + u) h - sumZ (cc + 1) h))), s10]) ⟨rfl, by omega, s10, by simp⟩ ?_ ?_
        · rintro u x sl S3 G hx ⟨rfl, hu, s11, rfl⟩ hG
          obtain ⟨hul, rfl⟩ := rng_get hx
          have hj : cc + 1 + u < n := by omega
          have ej : (cc : Int) + 1 + (u : Int) * 1 = ((cc + 1 + u : Nat) : Int) := by omega
          have r1 := rowa (cc + 1 + u) (by omega)
          have r2 := fulla (cc + 1 + u) hj
          rw [later _ (by omega) hj] at r2
          have m1 : CMulW (zent L ii (cc + 1 + u)) (z (cc + 1 + u)) := cmul (hsz _ _) (hzsz _) (by decide)
          rw [ej]
          simp only [pSeq, pAsg, pBin, pIx, pQVar, pVar, dat, fSub, fI0, fMul, pgName, pNext, List.getElem?_cons_zero, List.getElem?_cons_succ, List.set_cons_zero, List.set_cons_succ, Res.slot, zL, seqD_lst, r1, r2]
          refine ⟨by simp, m1, by simp, hG _ _ ⟨rfl, by omega, .dat (.int ((cc + 1 + u : Nat) : Int)), ?_⟩⟩
          have : w0 - (sumZ (cc + 1 + (u + 1)) h - sumZ (cc + 1) h) = w0 - (sumZ (cc + 1 + u) h - sumZ (cc + 1) h) - zent L ii (cc + 1 + u) * z (cc + 1 + u) := by
            have e : sumZ (cc + 1 + (u + 1)) h = sumZ (cc + 1 + u) h + h (cc + 1 + u) := rfl
            have e' : h (cc + 1 + u) = zent L ii (cc + 1 + u) * z (cc + 1 + u) := by rw [hh]
            rw [e, e']
            omega
          rw [this]
          rfl
        · rintro sl S3 ⟨rfl, hu, s11, rfl⟩
          rw [rng_len]
          have en : cc + 1 + (n - (cc + 1)) = n := by omega
          have wv : w0 - (sumZ (cc + 1 + (n - (cc + 1))) h - sumZ (cc + 1) h) = zent L ii cc * z cc := by
            have e : sumZ (cc + 1) h = sumZ cc h + h cc := rfl
            have e' : h cc = zent L ii cc * z cc := by rw [hh]
            rw [en, hw0, e, hl0, e']
            omega
          rw [wv]
          have r1 := rowa cc (by omega)
          have cd : CDv (zent L ii cc * z cc) (zent L ii cc) := ⟨pne, Nat.lt_of_le_of_lt (sz_log (hsz ii cc)) (by decide)⟩
          have ix := ixN_nat (n := fl.length) (k := cc) (by omega)
          simp only [pSeq, pAsg, pBin, pIx, pQVar, pVar, dat, fDiv, fII, pgSub, pNext, List.getElem?_cons_zero, List.getElem?_cons_succ, List.set_cons_zero, List.set_cons_succ, Res.slot, Res.toD, zL, seqD_lst, r1, List.length_map, ix]
          refine ⟨cd, _, rfl, ?_⟩
          rw [Int.mul_fdiv_cancel_left _ pne, hP0]
          refine hN _ _ ⟨rfl, fl.set cc (z cc), .dat (.int (ii : Nat)), .dat (.int (cc : Nat)), .dat (zL L[ii]), .dat (.int (zent L ii cc * z cc)), s11, ?_, by simp [hfl], fun j hj hjn => ?_, fun s h1 h2 => ?_⟩
          · rw [List.map_set]
            rfl
          · have : ¬ cc = j := fun e => hjn ii hik (by rw [← hcc]; exact e)
            rw [getD_set_ne this]
            exact hnp j hj hjn
          · by_cases e : s = ii
            · rw [e, ← hcc]
              have : cc < fl.length := by omega
              simp [this]
            · have g := hpv s (by omega) h2
              have ne : ¬ cc = piv.getD s 0 := fun x => by
                rcases Nat.lt_or_gt_of_ne e with y | y
                · have := hasc s ii y hik; omega
                · have := hasc ii s y h2; omega
              rw [← g]
              exact getD_set_ne ne
      have pre : ∀ (rest : PSm) (P0 : PEnds), rest P0 [.dat (nL piv), .dat (.lst (L.map zL)), .dat (.int n), .dat f, .dat (.int d), .own (fl.map D.int), .dat (.int (ii : Nat)), .dat (.int (cc : Nat)), .dat (zL L[ii]), .dat (.int 0), s10] S2 →
          pgName 6 (.dat (.int (ii : Nat))) [.dat (nL piv), .dat (.lst (L.map zL)), .dat (.int n), .dat f, .dat (.int d), .own (fl.map D.int), s6, s7, s8, s9, s10] S2 fun sl1 S1 =>
            pSeq (pAsg (pIx (pQVar 0) (pVar 6)) (pgName 7)) (pSeq (pAsg (pIx (pQVar 1) (pVar 6)) (pgName 8)) (pSeq (pAsg (pC (.int 0)) (pgName 9)) rest)) P0 sl1 S1 := by
        intro rest P0 hr
        simp only [pSeq, pAsg, pIx, pQVar, pVar, dat, pC, pgName, nL, seqD_lst, e1, e2, List.getElem?_cons_zero, List.getElem?_cons_succ, List.set_cons_zero, List.set_cons_succ, Res.slot]
        simp
        exact hr
      rw [eix]
      refine pre _ _ ?_
      rcases hf with ⟨rfl, hnw', hz0, heq⟩ | ⟨rfl, hc0, hcp, hzc, hz0, heq⟩
      · have hs0 := heq ii hik
        have m1 : CMulW (zent L ii n) d := cmul (hsz _ _) hdsz (by decide)
        have r1 := rowa n hnw'
        have iff : ∀ (rest : PSm) (P0 : PEnds), rest P0 [.dat (nL piv), .dat (.lst (L.map zL)), .dat (.int n), .dat .non, .dat (.int d), .own (fl.map D.int), .dat (.int (ii : Nat)), .dat (.int (cc : Nat)), .dat (zL L[ii]), .dat (.int (zent L ii n * d)), s10] S2 →
            pSeq (pIf (pTst (pBin fIsN (pVar 3) (pC .non))) (pSeq (pAsg (pBin fMul (pIx (pQVar 8) (pVar 2)) (pVar 4)) (pgName 9)) (pNext)) (pNext)) rest P0 [.dat (nL piv), .dat (.lst (L.map zL)), .dat (.int n), .dat .non, .dat (.int d), .own (fl.map D.int), .dat (.int (ii : Nat)), .dat (.int (cc : Nat)), .dat (zL L[ii]), .dat (.int 0), s10] S2 := by
          intro rest P0 hr
          simp [zL, r1, m1]
          simpa [zL] using hr
        refine iff _ _ (inner _ _ _ rfl ?_)
        rw [hh]
        exact hs0
      · have hs0 := heq ii hik
        have iff : ∀ (rest : PSm) (P0 : PEnds), rest P0 [.dat (nL piv), .dat (.lst (L.map zL)), .dat (.int n), .dat (.int c0), .dat (.int d), .own (fl.map D.int), .dat (.int (ii : Nat)), .dat (.int (cc : Nat)), .dat (zL L[ii]), .dat (.int 0), s10] S2 →
            pSeq (pIf (pTst (pBin fIsN (pVar 3) (pC .non))) (pSeq (pAsg (pBin fMul (pIx (pQVar 8) (pVar 2)) (pVar 4)) (pgName 9)) (pNext)) (pNext)) rest P0 [.dat (nL piv), .dat (.lst (L.map zL)), .dat (.int n), .dat (.int c0), .dat (.int d), .own (fl.map D.int), .dat (.int (ii : Nat)), .dat (.int (cc : Nat)), .dat (zL L[ii]), .dat (.int 0), s10] S2 := by
          intro rest P0 hr
          simp
          exact hr
        refine iff _ _ (inner _ _ _ rfl ?_)
        rw [hh]
        exact hs0
    · rintro sl S2 ⟨rfl, fl, s6, s7, s8, s9, s10, rfl, hfl, hnp, hpv⟩
      rw [rng_len] at hpv
      have all : ∀ j, j < n → fl.getD j 0 = z j := fun j hj => by
        by_cases im : ∀ t, t < piv.length → piv.getD t 0 ≠ j
        · exact hnp j hj im
        · obtain ⟨t, ht⟩ := Classical.not_forall.mp im
          obtain ⟨ht, hc⟩ := Classical.not_imp.mp ht
          rw [← Classical.not_not.mp hc]
          exact hpv t (by omega) ht
      have efl : fl = (List.range n).map z := by
        apply List.ext_getElem
        · simp [hfl]
        · intro j h1 h2
          have := all j (by omega)
          simp [h1] at this
          simp [this]
      have szl : (fl.map D.int).length ≤ sizeLine := by simp; omega
      simp only [pFrz, pRet, pToT, pQOf, dat, pLc, pISeq, pVar, List.getElem?_cons_zero, List.getElem?_cons_succ, List.set_cons_zero, List.set_cons_succ, Slot.frz, seqD_lst]
      refine ⟨szl, by simp, ?_⟩
      refine lc_pair (R := fun x (y : Int) => x = D.int y) (fun y => nD (Rat.divInt y d)) (Py.paired_map (f := D.int) (fun _ => rfl) fl) (fun x y hx hy G hG => ?_) ?_
      · subst hx
        simp
        exact ⟨y, d, rfl, dne, fits_sz (sz_gcd hdsz dne) (by decide), hG⟩
      · have : D.tup (fl.map fun y => nD (Rat.divInt y d)) = qT ((List.range n).map fun j => Rat.divInt (z j) d) := by
          rw [efl]
          unfold qT
          rw [List.map_map, List.map_map]
          rfl
        show Q (.dat (.tup (fl.map fun y => nD (Rat.divInt y d)))) S2
        rw [this]
        exact q
  have head : ∀ rest : PSm, rest (ends Q E) [.dat (nL piv), .dat (.lst (L.map zL)), .dat (.int n), .dat f, .dat (.int d), .un, .un, .un, .un, .un, .un] S →
      pSeq (pAsg (pC (.int 1)) (pgName 4)) (pSeq (pIf (pTst (pBin fGt (pLen (pQVar 0)) (pC (.int 0)))) (pSeq (pAsg (pIx (pQOf (pIx (pQVar 1) (pBin fSub (pLen (pQVar 0)) (pC (.int 1))))) (pIx (pQVar 0) (pNeg (pC (.int 1))))) (pgName 4)) (pNext)) (pNext)) rest) (ends Q E)
        [.dat (nL piv), .dat (.lst (L.map zL)), .dat (.int n), .dat f, .un, .un, .un, .un, .un, .un, .un] S := by
    intro rest hr
    by_cases h0 : piv.length = 0
    · rw [if_pos h0] at hd
      subst hd
      have hp0 : piv = [] := List.length_eq_zero_iff.mp h0
      subst hp0
      simp [nL] at hr ⊢
      exact hr
    · rw [if_neg h0] at hd
      have hk : piv.length - 1 < L.length := by omega
      have e1 := at_neg1 (xs := nLs piv) (by simp; omega) (by rw [List.length_map]; exact nls_get (by omega))
      have e2 := at_z (M := L) hk
      have cst : ((piv.length - 1 : Nat) : Int) = (piv.length : Int) - 1 := by omega
      rw [cst] at e2
      have rl : L[piv.length - 1].length = w := hwid _ (List.getElem_mem hk)
      have e3 := at_zi (r := L[piv.length - 1]) (c := piv.getD (piv.length - 1) 0) (by have := hpin (piv.length - 1) (by omega); omega)
      rw [← zent_row hk, ← hd] at e3
      have hpos : (0 : Int) < (piv.length : Int) := by omega
      generalize hpp : piv.getD (piv.length - 1) 0 = pp at e1 e3
      have hp2 : 0 < piv.length := by omega
      simp only [pSeq, pAsg, pIf, pTst, pBin, pLen, pQVar, pIx, pQOf, dat, pC, pNeg, pgName, pNext, nL, seqD_lst, List.getElem?_cons_zero, List.getElem?_cons_succ, List.set_cons_zero, List.set_cons_succ, Res.slot, fGt, fSub, fI0, fCmp, List.length_map, e1, e2, zL, e3]
      simp [hp2]
      exact hr
  exact head _ (main _ rfl)
end K05
end
section
set_option Elab.async false
set_option linter.all false
set_option maxRecDepth 100000
namespace K05
open PySem L2 Py LA
theorem lc_test {α : Type} {i : Nat} {pt : PTx} {pe : PEx} {sl : List Slot} {R : D → α → Prop} (g : α → D) (b : α → Bool) : ∀ {ds : List D} {ms : List α} {S : List Int} {Q : List D → List Int → Prop}, Paired R ds ms →
    (∀ d m, R d m → m ∈ ms → ∀ N : Bool → List Int → Prop, N (b m) S → pt (sl.set i (.dat d)) S N fun _ _ => False) →
    (∀ d m, R d m → m ∈ ms → b m = true → ∀ N : D → List Int → Prop, N (g m) S → dat pe (sl.set i (.dat d)) S N fun _ _ => False) → Q ((ms.filter b).map g) S → lcRun i pt pe ds sl S Q
  | _, _, S, Q, .nil, _, _, q => q
  | _, _, S, Q, .cons (b := m) h r, ht, he, q => by
    simp only [lcRun]
    refine ht _ m h (by simp) _ ?_
    cases hb : b m with
    | true =>
      rw [if_pos rfl]
      refine he _ m h (by simp) hb _ ?_
      rw [List.filter_cons, if_pos hb] at q
      exact lc_test g b r (fun d m' hd hm => ht d m' hd (by simp [hm])) (fun d m' hd hm => he d m' hd (by simp [hm])) q
    | false =>
      rw [if_neg (by decide)]
      rw [List.filter_cons, if_neg (by rw [hb]; decide)] at q
      exact lc_test g b r (fun d m' hd hm => ht d m' hd (by simp [hm])) (fun d m' hd hm => he d m' hd (by simp [hm])) q
theorem lc_rngT {i n : Nat} {pt : PTx} {pe : PEx} {sl : List Slot} (g : Nat → D) (b : Nat → Bool) {S : List Int} {Q : List D → List Int → Prop}
    (ht : ∀ j, j < n → ∀ N : Bool → List Int → Prop, N (b j) S → pt (sl.set i (.dat (.int j))) S N fun _ _ => False)
    (he : ∀ j, j < n → b j = true → ∀ N : D → List Int → Prop, N (g j) S → dat pe (sl.set i (.dat (.int j))) S N fun _ _ => False) (q : Q (((List.range n).filter b).map g) S) : lcRun i pt pe (rng 0 1 n) sl S Q := by
  have p := paired_rng n 0
  rw [← List.range_eq_range'] at p
  exact lc_test g b p (fun d j hd hj => by subst hd; exact ht j (List.mem_range.mp hj)) (fun d j hd hj => by subst hd; exact he j (List.mem_range.mp hj)) q
theorem intsD_nls (piv : List Nat) : intsD (nLs piv) = some (piv.map fun (n : Nat) => ((n : Nat) : Int)) := by
  induction piv with
  | nil => rfl
  | cons a r ih =>
    show intsD (D.int (a : Nat) :: nLs r) = _
    simp [intsD, ih]
end K05
end
section
set_option Elab.async false
set_option linter.all false
set_option maxRecDepth 100000
namespace K05
open PySem L2 Py LA
theorem asc_bd {k n : Nat} {c : Nat → Nat} (asc : ∀ s t, s < t → t < k → c s < c t) (pin : ∀ t, t < k → c t < n) : k ≤ n := by
  have key : ∀ t, t < k → t ≤ c t := by
    intro t
    induction t with
    | zero => intro _; exact Nat.zero_le _
    | succ t ih =>
      intro h
      have a := ih (by omega)
      have b := asc t (t + 1) (by omega) h
      omega
  rcases k with _ | k
  · omega
  · have a := key k (by omega)
    have b := pin k (by omega)
    omega
/-- values at the pivots, 0 elsewhere -/
theorem placed {k b : Nat} {c : Nat → Nat} (inj : ∀ s t, s < k → t < k → c s = c t → s = t) (z : Nat → Int) (hz : ∀ t, sz b (z t)) : ∃ v : Nat → Int, (∀ t, t < k → v (c t) = z t) ∧ (∀ j, (∀ t, t < k → c t ≠ j) → v j = 0) ∧ ∀ j, sz b (v j) := by
  classical
  refine ⟨fun j => if h : ∃ t, t < k ∧ c t = j then z (Classical.choose h) else 0, fun t ht => ?_, fun j hj => ?_, fun j => ?_⟩
  · have h : ∃ s, s < k ∧ c s = c t := ⟨t, ht, rfl⟩
    show (if h : ∃ s, s < k ∧ c s = c t then z (Classical.choose h) else 0) = z t
    rw [dif_pos h]
    have q := Classical.choose_spec h
    rw [inj _ t q.1 ht q.2]
  · show (if h : ∃ t, t < k ∧ c t = j then z (Classical.choose h) else 0) = 0
    rw [dif_neg]
    rintro ⟨t, ht, e⟩
    exact hj t ht e
  · show sz b (if h : ∃ t, t < k ∧ c t = j then z (Classical.choose h) else 0)
    split
    · exact hz _
    · show (0 : Int).natAbs < 2 ^ b
      exact Nat.pow_pos (by decide)
theorem placed_sum {k n : Nat} {c : Nat → Nat} (inj : ∀ s t, s < k → t < k → c s = c t → s = t) (lt : ∀ t, t < k → c t < n) {v z : Nat → Int} (h1 : ∀ t, t < k → v (c t) = z t) (h2 : ∀ j, (∀ t, t < k → c t ≠ j) → v j = 0) (a : Nat → Rat) :
    sumN n (fun j => a j * (v j : Rat)) = sumN k fun t => a (c t) * (z t : Rat) := by
  rw [sum_img (c := c) (k := k) inj lt fun j _ hj => by rw [h2 j hj]; show a j * ((0 : Int) : Rat) = 0; grind]
  exact sumN_congr fun t ht => by rw [h1 t ht]
abbrev dzOf (L : List (List Int)) (piv : List Nat) : Int := if piv.length = 0 then 1 else zent L (piv.length - 1) (piv.getD (piv.length - 1) 0)
theorem divInt_ts {z d : Int} (hd : d ≠ 0) {q : Rat} (h : q = Rat.divInt z d) : q.den ∣ d.natAbs ∧ q.num.natAbs ≤ z.natAbs := by
  have e := cross hd h
  have e2 : q.num.natAbs * d.natAbs = z.natAbs * q.den := by
    have := congrArg Int.natAbs e
    rwa [Int.natAbs_mul, Int.natAbs_mul, Int.natAbs_natCast] at this
  have cp := q.reduced
  refine ⟨?_, ?_⟩
  · have : q.den ∣ q.num.natAbs * d.natAbs := ⟨z.natAbs, by rw [e2, Nat.mul_comm]⟩
    exact Nat.Coprime.dvd_of_dvd_mul_left cp.symm this
  · by_cases hz : z.natAbs = 0
    · rw [hz, Nat.zero_mul] at e2
      have := Nat.mul_eq_zero.mp e2
      have : d.natAbs ≠ 0 := by omega
      omega
    · have : q.num.natAbs ∣ z.natAbs * q.den := ⟨d.natAbs, e2.symm⟩
      exact Nat.le_of_dvd (by omega) (Nat.Coprime.dvd_of_dvd_mul_right cp this)
theorem divInt_mul {z d : Int} (hd : d ≠ 0) : Rat.divInt z d * (d : Rat) = (z : Rat) := by
  have d0 : (d : Rat) ≠ 0 := by exact_mod_cast hd
  rw [Rat.divInt_eq_div]
  grind
/-- the row of what is told -/
def toldR (n : Nat) (z : Nat → Int) (d : Int) : List Rat := (List.range n).map fun j => Rat.divInt (z j) d
theorem rat_told {n j : Nat} {z : Nat → Int} {d : Int} (h : j < n) : rat (toldR n z d) j = Rat.divInt (z j) d := by simp [rat, toldR, h]
theorem told_ts {n : Nat} {z : Nat → Int} {d : Int} (hd : d ≠ 0) (hz : ∀ j, sz 2420 (z j)) : TS d.natAbs (toldR n z d) := fun q hq => by
  obtain ⟨j, hj, e⟩ := List.mem_map.mp hq
  obtain ⟨h1, h2⟩ := divInt_ts hd e.symm
  exact ⟨h1, Nat.lt_of_le_of_lt h2 (hz j)⟩
theorem told_sum {n : Nat} {z : Nat → Int} {d : Int} (hd : d ≠ 0) (a : Nat → Rat) : sumN n (fun j => a j * rat (toldR n z d) j) * (d : Rat) = sumN n fun j => a j * (z j : Rat) := by
  have : sumN n (fun j => a j * (z j : Rat)) = sumN n fun j => (d : Rat) * (a j * rat (toldR n z d) j) := sumN_congr fun j hj => by
    rw [rat_told hj, ← divInt_mul (z := z j) hd]
    grind
  rw [this, sumN_mul]
  grind
/-- the columns without a pivot -/
def frk (c : Nat → Nat) : Nat → Nat → Bool
  | 0, _ => true
  | k + 1, j => frk c k j && (j != c k)
theorem frk_iff (c : Nat → Nat) : ∀ k j, frk c k j = true ↔ ∀ t, t < k → c t ≠ j
  | 0, j => ⟨fun _ t ht => by omega, fun _ => rfl⟩
  | k + 1, j => by
    show (frk c k j && (j != c k)) = true ↔ _
    rw [Bool.and_eq_true, frk_iff c k j]
    constructor
    · rintro ⟨h1, h2⟩ t ht
      by_cases e : t = k
      · subst e
        intro z
        rw [z] at h2
        simp at h2
      · exact h1 t (by omega)
    · intro h
      refine ⟨fun t ht => h t (by omega), ?_⟩
      have := h k (by omega)
      simp
      exact fun z => this z.symm
theorem frk_len {n : Nat} {c : Nat → Nat} : ∀ {k : Nat}, (∀ s t, s < k → t < k → c s = c t → s = t) → (∀ t, t < k → c t < n) → ((List.range n).filter (frk c k)).length + k = n
  | 0, _, _ => by
    have : (List.range n).filter (frk c 0) = List.range n := List.filter_eq_self.mpr fun _ _ => rfl
    rw [this, List.length_range]
    rfl
  | k + 1, inj, lt => by
    have ih := frk_len (k := k) (fun s t hs ht => inj s t (by omega) (by omega)) fun t ht => lt t (by omega)
    have e : (List.range n).filter (frk c (k + 1)) = ((List.range n).filter (frk c k)).filter (fun j => j != c k) := by
      rw [List.filter_filter]
      refine List.filter_congr fun j _ => ?_
      show (frk c k j && (j != c k)) = _
      rw [Bool.and_comm]
    have nd : ((List.range n).filter (frk c k)).Nodup := List.Pairwise.filter _ List.nodup_range
    have mem : c k ∈ (List.range n).filter (frk c k) := List.mem_filter.mpr ⟨List.mem_range.mpr (lt k (by omega)), (frk_iff c k _).mpr fun t ht e => by have := inj t k (by omega) (by omega) e; omega⟩
    have l := List.length_erase_of_mem mem
    rw [nd.erase_eq_filter] at l
    rw [e, l]
    have := List.length_pos_of_mem mem
    omega
section
variable {M L : List (List Int)} {n w : Nat} {piv : List Nat} {o : Nat → Nat}
theorem dz_pv (h : Ech M n w piv L o) (hn : n ≤ w) : ((dzOf L piv : Int) : Rat) = pv (Rz M o) (cz piv) piv.length := by
  unfold dzOf
  by_cases k0 : piv.length = 0
  · rw [if_pos k0, k0, pv_zero]; rfl
  · rw [if_neg k0]
    have km : piv.length - 1 < M.length := by have := h.st.few; omega
    have jw : piv.getD (piv.length - 1) 0 < w := Nat.lt_of_lt_of_le (h.st.pin (piv.length - 1) (by omega)) hn
    have v := h.st.val (piv.length - 1) (piv.getD (piv.length - 1) 0) km jw
    have e0 : min (piv.length - 1) piv.length = piv.length - 1 := by omega
    have e1 : piv.length = (piv.length - 1) + 1 := by omega
    rw [e0] at v
    refine v.trans ?_
    have := pv_succ (R := Rz M o) (c := cz piv) (k := piv.length - 1)
    rw [← e1] at this
    exact this.symm
theorem dz_ne (h : Ech M n w piv L o) (hn : n ≤ w) : dzOf L piv ≠ 0 := fun e => by
  have a := dz_pv h hn
  rw [e] at a
  exact h.st.piv0 piv.length (Nat.le_refl _) a.symm
theorem dz_sz (h : Ech M n w piv L o) (hn : n ≤ w) (hM : ∀ r ∈ M, ∀ z ∈ r, sz 300 z) (h6 : piv.length ≤ 6) : sz 2420 (dzOf L piv) := by
  have a := dz_pv h hn
  rw [pv_int] at a
  rw [cast_inj a]
  exact detZ_sz (by omega) fun a b => zent_sz hM _ _
theorem ech_col (h : Ech M n w piv L o) (hn : n ≤ w) (hM : ∀ r ∈ M, ∀ z ∈ r, sz 300 z) (h6 : piv.length ≤ 6) {j0 : Nat} (hj : j0 < w) (hz : ∀ i, piv.length ≤ i → i < M.length → zent L i j0 = 0) :
    ∃ (y : Nat → Rat) (z : Nat → Int), (∀ b, b < M.length → (zent M b j0 : Rat) = sumN piv.length fun t => y t * (zent M b (cz piv t) : Rat)) ∧ (∀ t, t < piv.length → (z t : Rat) = (dzOf L piv : Rat) * y t) ∧ (∀ t, sz 2420 (z t)) ∧ ∀ i, i < piv.length → (zent L i j0 : Rat) * (dzOf L piv : Rat) = sumN piv.length fun t => (zent L i (cz piv t) : Rat) * (z t : Rat) := by
  obtain ⟨y, hy⟩ := h.st.col_sum hj fun i h1 h2 => by rw [hz i h1 h2]; rfl
  let z : Nat → Int := fun t => if t < piv.length then detZ piv.length (fun a l => if l = t then zent M (o a) j0 else zent M (o a) (cz piv l)) else 0
  have hzy : ∀ t, t < piv.length → (z t : Rat) = (dzOf L piv : Rat) * y t := fun t ht => by
    have e := pv_mul (R := Rz M o) (c := cz piv) (k := piv.length) (b := fun a => (zent M (o a) j0 : Rat)) (y := y) (fun a ha => hy a (Nat.lt_of_lt_of_le ha h.st.few)) ht
    rw [dz_pv h hn, e]
    show ((if t < piv.length then detZ piv.length _ else 0 : Int) : Rat) = _
    rw [if_pos ht, detZ_cast]
    refine det_congr fun a l _ _ => ?_
    unfold setc
    by_cases e : l = t
    · rw [if_pos e, if_pos e]
    · rw [if_neg e, if_neg e]
  refine ⟨y, z, fun b hb => ?_, hzy, fun t => ?_, fun i hi => ?_⟩
  · obtain ⟨a, ha, rfl⟩ := h.onto b hb
    exact hy a ha
  · show sz 2420 (if t < piv.length then _ else 0)
    split
    · refine detZ_sz (by omega) fun a b => ?_
      show sz 300 (if _ then _ else _)
      split
      · exact zent_sz hM _ _
      · exact zent_sz hM _ _
    · show (0 : Int).natAbs < 2 ^ 2420
      exact Nat.pow_pos (by decide)
  · have bk := h.st.back hn hj (fun a ha => hy a (Nat.lt_of_lt_of_le ha h.st.few)) hi
    have bk : (zent L i j0 : Rat) = _ := bk
    rw [bk]
    rw [← Rat.mul_comm, ← sumN_mul]
    refine sumN_congr fun t ht => ?_
    rw [hzy t ht]
    by_cases e : i ≤ t
    · rw [if_pos e]; grind
    · rw [if_neg e]
      have z0 : (zent L i (cz piv t) : Rat) = 0 := h.st.zl i (cz piv t) hi (h.st.asc t i (by omega) hi)
      rw [z0]; grind
/-- the whole numbers for the due column -/
theorem ech_due (h : Ech M n w piv L o) (hn : n ≤ w) (hM : ∀ r ∈ M, ∀ z ∈ r, sz 300 z) (h6 : piv.length ≤ 6) {j0 : Nat} (hj : j0 < w) (hz : ∀ i, piv.length ≤ i → i < M.length → zent L i j0 = 0) :
    ∃ v : Nat → Int, (∀ j, (∀ t, t < piv.length → cz piv t ≠ j) → v j = 0) ∧ (∀ j, sz 2420 (v j)) ∧ (∀ i, i < piv.length → sumN n (fun j => (zent L i j : Rat) * (v j : Rat)) = (zent L i j0 : Rat) * (dzOf L piv : Rat)) ∧ ∀ b, b < M.length → sumN n (fun j => (zent M b j : Rat) * (v j : Rat)) = (zent M b j0 : Rat) * (dzOf L piv : Rat) := by
  obtain ⟨y, z, h1, h2, h3, h4⟩ := ech_col h hn hM h6 hj hz
  obtain ⟨v, v1, v2, v3⟩ := placed h.st.inj z h3
  refine ⟨v, v2, v3, fun i hi => ?_, fun b hb => ?_⟩
  · rw [placed_sum h.st.inj h.st.pin v1 v2, h4 i hi]
  · rw [placed_sum h.st.inj h.st.pin v1 v2, h1 b hb, ← Rat.mul_comm, ← sumN_mul]
    exact sumN_congr fun t ht => by rw [h2 t ht]; grind
/-- the whole numbers for a column without pivot -/
theorem ech_free (h : Ech M n w piv L o) (hn : n ≤ w) (hM : ∀ r ∈ M, ∀ z ∈ r, sz 300 z) (h6 : piv.length ≤ 6) {c0 : Nat} (hj : c0 < n) (hf : ∀ t, t < piv.length → cz piv t ≠ c0) :
    ∃ v : Nat → Int, v c0 = dzOf L piv ∧ (∀ j, j ≠ c0 → (∀ t, t < piv.length → cz piv t ≠ j) → v j = 0) ∧ (∀ j, sz 2420 (v j)) ∧ (∀ i, i < piv.length → sumN n (fun j => (zent L i j : Rat) * (v j : Rat)) = 0) ∧ ∀ b, b < M.length → sumN n (fun j => (zent M b j : Rat) * (v j : Rat)) = 0 := by
  obtain ⟨v, v2, v3, v4, v5⟩ := ech_due h hn hM h6 (Nat.lt_of_lt_of_le hj hn) fun i h1 h2 => by
    have := h.st.zr i c0 h1 h2 hj
    exact cast_inj (this.trans rfl)
  have e : ∀ a : Nat → Rat, sumN n (fun j => a j * (((if j = c0 then dzOf L piv else - v j : Int)) : Rat)) = a c0 * (dzOf L piv : Rat) + (-1) * sumN n (fun j => a j * (v j : Rat)) := fun a => by
    have e1 : (fun j => a j * (((if j = c0 then dzOf L piv else - v j : Int)) : Rat)) = fun j => (if j = c0 then a j * (dzOf L piv : Rat) else 0) + (-1) * (a j * (v j : Rat)) := by
      funext j
      by_cases q : j = c0
      · rw [if_pos q, if_pos q, q, v2 c0 hf]
        show _ = _ + (-1) * (a c0 * ((0 : Int) : Rat))
        grind
      · rw [if_neg q, if_neg q, Rat.intCast_neg]; grind
    rw [e1, sumN_add, sumN_one (f := fun j => if j = c0 then a j * (dzOf L piv : Rat) else 0) hj fun i _ hi => if_neg hi, if_pos rfl]
  refine ⟨fun j => if j = c0 then dzOf L piv else - v j, if_pos rfl, fun j q1 q2 => ?_, fun j => ?_, fun i hi => ?_, fun b hb => ?_⟩
  · show (if j = c0 then dzOf L piv else - v j) = 0
    rw [if_neg q1, v2 j q2]; rfl
  · show sz 2420 (if j = c0 then dzOf L piv else - v j)
    split
    · exact dz_sz h hn hM h6
    · have := v3 j
      unfold sz at *
      rwa [Int.natAbs_neg]
  · rw [e, v4 i hi]; grind
  · rw [e, v5 b hb]; grind
theorem ech_rk (h : Ech M n w piv L o) (hn : n ≤ w) : Rk M.length n (ZM M) piv.length := by
  refine Rk.congr ⟨cz piv, h.st.rk hn⟩ fun x => ?_
  constructor
  · intro hx b hb
    obtain ⟨a, ha, rfl⟩ := h.onto b hb
    exact hx a ha
  · intro hx a ha
    exact hx (o a) (h.lt a ha)
/-- the base -/
theorem ech_bas (h : Ech M n w piv L o) (hn : n ≤ w) (hM : ∀ r ∈ M, ∀ z ∈ r, sz 300 z) (h6 : piv.length ≤ 6) (Z : Nat → Nat → Int)
    (hZ : ∀ c0, c0 < n → (∀ t, t < piv.length → cz piv t ≠ c0) → Z c0 c0 = dzOf L piv ∧ (∀ j, j ≠ c0 → (∀ t, t < piv.length → cz piv t ≠ j) → Z c0 j = 0) ∧ (∀ j, sz 2420 (Z c0 j)) ∧ ∀ b, b < M.length → sumN n (fun j => (zent M b j : Rat) * (Z c0 j : Rat)) = 0) :
    Bas M.length n (ZM M) (((List.range n).filter (frk (cz piv) piv.length)).map fun c0 => toldR n (Z c0) (dzOf L piv)) piv.length (dzOf L piv).natAbs := by
  have d0 := dz_ne h hn
  have dr : ((dzOf L piv : Int) : Rat) ≠ 0 := by exact_mod_cast d0
  have fl : ∀ s, s < ((List.range n).filter (frk (cz piv) piv.length)).length → ((List.range n).filter (frk (cz piv) piv.length)).getD s 0 < n ∧ ∀ t, t < piv.length → cz piv t ≠ ((List.range n).filter (frk (cz piv) piv.length)).getD s 0 := fun s hs => by
    have e : ((List.range n).filter (frk (cz piv) piv.length)).getD s 0 = ((List.range n).filter (frk (cz piv) piv.length))[s] := by simp [hs]
    rw [e]
    obtain ⟨h1, h2⟩ := List.mem_filter.mp (List.getElem_mem hs)
    exact ⟨List.mem_range.mp h1, (frk_iff _ _ _).mp h2⟩
  have inj : ∀ s t, s < ((List.range n).filter (frk (cz piv) piv.length)).length → t < ((List.range n).filter (frk (cz piv) piv.length)).length → ((List.range n).filter (frk (cz piv) piv.length)).getD s 0 = ((List.range n).filter (frk (cz piv) piv.length)).getD t 0 → s = t := fun s t hs ht e => by
    have nd : ((List.range n).filter (frk (cz piv) piv.length)).Nodup := List.Pairwise.filter _ List.nodup_range
    have e1 : ((List.range n).filter (frk (cz piv) piv.length)).getD s 0 = ((List.range n).filter (frk (cz piv) piv.length))[s] := by simp [hs]
    have e2 : ((List.range n).filter (frk (cz piv) piv.length)).getD t 0 = ((List.range n).filter (frk (cz piv) piv.length))[t] := by simp [ht]
    rw [e1, e2] at e
    have pw := List.pairwise_iff_getElem.mp nd
    rcases Nat.lt_trichotomy s t with q | q | q
    · exact absurd e (pw s t hs ht q)
    · exact q
    · exact absurd e.symm (pw t s ht hs q)
  generalize hF : (List.range n).filter (frk (cz piv) piv.length) = F at *
  have en : ∀ s j, s < F.length → j < n → ent (F.map fun c0 => toldR n (Z c0) (dzOf L piv)) s j = Rat.divInt (Z (F.getD s 0) j) (dzOf L piv) := fun s j hs hj => by
    have : (F.map fun c0 => toldR n (Z c0) (dzOf L piv)).getD s [] = toldR n (Z (F.getD s 0)) (dzOf L piv) := by simp [hs]
    unfold ent
    rw [this, rat_told hj]
  refine ⟨by omega, dz_sz h hn hM h6, ?_, fun f hf => ?_, fun s i hs hi => ?_, ?_, ech_rk h hn⟩
  · rw [List.length_map, ← hF]
    exact frk_len h.st.inj h.st.pin
  · obtain ⟨c0, hc, rfl⟩ := List.mem_map.mp hf
    rw [← hF] at hc
    obtain ⟨h1, h2⟩ := List.mem_filter.mp hc
    obtain ⟨_, _, z3, _⟩ := hZ c0 (List.mem_range.mp h1) ((frk_iff _ _ _).mp h2)
    exact ⟨by simp [toldR], told_ts d0 z3⟩
  · rw [List.length_map] at hs
    obtain ⟨f1, f2⟩ := fl s hs
    obtain ⟨_, _, _, z4⟩ := hZ _ f1 f2
    have t := told_sum (n := n) (z := Z (F.getD s 0)) d0 fun j => (zent M i j : Rat)
    rw [z4 i hi] at t
    have e : sumN n (fun j => (zent M i j : Rat) * ent (F.map fun c0 => toldR n (Z c0) (dzOf L piv)) s j) = sumN n fun j => (zent M i j : Rat) * rat (toldR n (Z (F.getD s 0)) (dzOf L piv)) j := sumN_congr fun j hj => by rw [en s j hs hj, rat_told hj]
    show sumN n (fun j => (zent M i j : Rat) * ent (F.map fun c0 => toldR n (Z c0) (dzOf L piv)) s j) = 0
    rw [e]
    rcases Rat.mul_eq_zero.mp t with a | a
    · exact a
    · exact absurd a dr
  · rw [List.length_map]
    refine rk_unit (g := fun s => F.getD s 0) inj (fun t ht => (fl t ht).1) (fun t ht => ?_) fun s t hs ht hst => ?_
    · show ent _ t _ = 1
      rw [en t _ ht (fl t ht).1, (hZ _ (fl t ht).1 (fl t ht).2).1, Rat.divInt_eq_div]
      grind
    · show ent _ s _ = 0
      rw [en s _ hs (fl t ht).1, (hZ _ (fl s hs).1 (fl s hs).2).2.1 _ (fun e => hst (inj s t hs ht e.symm)) (fl t ht).2]
      exact Rat.zero_divInt _
/-- weights from a row without weights but in the due column -/
theorem ech_cert (h : Ech M n w piv L o) (hn : n ≤ w) {i j0 : Nat} (hj : j0 < w) (hk : piv.length ≤ i) (hi : i < M.length) (ne : zent L i j0 ≠ 0) : ∃ μ : Nat → Rat, (∀ j, j < n → sumN M.length (fun b => μ b * (zent M b j : Rat)) = 0) ∧ sumN M.length (fun b => μ b * (zent M b j0 : Rat)) ≠ 0 := by
  obtain ⟨l, hl⟩ := mn_rows (Rz M o) (cz piv) hk hi
  have hv : ∀ j, j < w → mn (Rz M o) (cz piv) piv.length i j = (zent L i j : Rat) := fun j hjw => by
    have v := h.st.val i j hi hjw
    have e0 : min i piv.length = piv.length := by omega
    rw [e0] at v
    exact v.symm
  -- the inverse of o
  have ex : ∀ b, ∃ a, b < M.length → a < M.length ∧ o a = b := fun b => by
    by_cases hb : b < M.length
    · obtain ⟨a, q⟩ := h.onto b hb
      exact ⟨a, fun _ => q⟩
    · exact ⟨0, fun z => absurd z hb⟩
  obtain ⟨p, hp⟩ := Classical.skolem.mp ex
  have re : ∀ g : Nat → Rat, sumN M.length (fun b => l (p b) * g b) = sumN M.length (fun a => l a * g (o a)) := fun g => by
    rw [sum_img (c := o) (k := M.length) h.inj h.lt fun j hj2 q => by
      obtain ⟨a, ha, e⟩ := h.onto j hj2
      exact absurd e (q a ha)]
    refine sumN_congr fun a ha => ?_
    have q := hp (o a) (h.lt a ha)
    rw [h.inj _ a q.1 ha q.2]
  refine ⟨fun b => l (p b), fun j hjn => ?_, ?_⟩
  · rw [re fun b => (zent M b j : Rat), hl j, hv j (by omega)]
    exact h.st.zr i j hk hi hjn
  · rw [re fun b => (zent M b j0 : Rat), hl j0, hv j0 hj]
    exact fun z => ne (cast_inj (z.trans rfl))
end
theorem Bas.congr {m n : Nat} {A A' : Mat} {fs : List (List Rat)} {k D : Nat} (h : Bas m n A' fs k D) (hs : ∀ i, i < m → ∃ t : Rat, t ≠ 0 ∧ ∀ j, j < n → A' i j = t * A i j) : Bas m n A fs k D := by
  have e : ∀ (x : Nat → Rat) i, i < m → (sumN n (fun j => A' i j * x j) = 0 ↔ sumN n (fun j => A i j * x j) = 0) := fun x i hi => by
    obtain ⟨t, t0, ht⟩ := hs i hi
    have : sumN n (fun j => A' i j * x j) = t * sumN n (fun j => A i j * x j) := by
      rw [← sumN_mul]
      exact sumN_congr fun j hj => by rw [ht j hj]; grind
    rw [this]
    constructor
    · intro z
      rcases Rat.mul_eq_zero.mp z with a | a
      · exact absurd a t0
      · exact a
    · intro z; rw [z]; grind
  exact ⟨h.pos, h.low, h.len, h.each, fun s i h1 h2 => (e _ i h2).mp (h.zero s i h1 h2), h.free, h.rk.congr fun x => ⟨fun q i hi => (e x i hi).mp (q i hi), fun q i hi => (e x i hi).mpr (q i hi)⟩⟩
end K05
end
section
set_option Elab.async false
set_option linter.all false
set_option maxRecDepth 100000
namespace K05
open PySem L2 Py LA
theorem cert_not {m n : Nat} {A : Mat} {b : Nat → Rat} (h : Cert m n A b) {y : Nat → Rat} (hy : ∀ i, i < m → sumN n (fun j => A i j * y j) = b i) : False := by
  obtain ⟨μ, h0, h1⟩ := h
  have e : sumN m (fun i => μ i * b i) = sumN n fun j => sumN m fun i => μ i * (A i j * y j) := by
    rw [← sumN_swap (fun i j => μ i * (A i j * y j)) n m]
    exact sumN_congr fun i hi => by rw [sumN_mul, hy i hi]
  rw [e, sumN_zero fun j hj => ?_] at h1
  · exact absurd h1 (by decide)
  · have : (fun i => μ i * (A i j * y j)) = fun i => y j * (μ i * A i j) := by
      funext i; grind
    rw [this, sumN_mul, h0 j hj]; grind
theorem clr_facts {R : List (List Rat)} {M : List (List Int)} {L w : Nat} (hl : M.length = R.length) (hc : ∀ i, i < R.length → Clr L (R.getD i []) (M.getD i [])) (hw : ∀ r ∈ R, r.length = w ∧ ∀ q ∈ r, CQ L q) :
    (∀ r ∈ M, r.length = w ∧ ∀ z ∈ r, sz 300 z) ∧ ∀ i, i < R.length → ∃ t : Rat, t ≠ 0 ∧ ∀ j, j < w → (zent M i j : Rat) = t * ent R i j := by
  have gR : ∀ i, (h : i < R.length) → R.getD i [] = R[i] := fun i h => by simp [h]
  refine ⟨fun r hr => ?_, fun i hi => ?_⟩
  · obtain ⟨i, hi, rfl⟩ := List.mem_iff_getElem.mp hr
    have gM : M.getD i [] = M[i] := by simp [hi]
    have c := hc i (by omega)
    rw [gM, gR i (by omega)] at c
    obtain ⟨c1, t, t0, c2, c3⟩ := c
    obtain ⟨w1, w2⟩ := hw _ (List.getElem_mem (show i < R.length by omega))
    refine ⟨by omega, fun z hz => ?_⟩
    obtain ⟨j, hj, rfl⟩ := List.mem_iff_getElem.mp hz
    have b := c3 j (by omega)
    have g1 : M[i].getD j 0 = M[i][j] := by simp [hj]
    have g2 : rat R[i] j = R[i][j] := by
      have : j < R[i].length := by omega
      simp [rat, this]
    rw [g1, g2] at b
    exact Nat.lt_of_le_of_lt b (w2 _ (List.getElem_mem _)).2
  · have c := hc i hi
    obtain ⟨c1, t, t0, c2, c3⟩ := c
    have w1 := (hw _ (List.getElem_mem hi)).1
    rw [← gR i hi] at w1
    refine ⟨t, fun z => absurd t0 (by rw [z]; decide), fun j hj => ?_⟩
    exact c2 j (by omega)
section
variable {rows R : List (List Rat)} {due : List Rat} {M L : List (List Int)} {n : Nat} {piv : List Nat} {o : Nat → Nat}
/-- the wide table -/
structure Wid (rows : List (List Rat)) (due : List Rat) (n : Nat) (M : List (List Int)) : Prop where
  len : M.length = rows.length
  ok : ∀ r ∈ M, r.length = n + 1 ∧ ∀ z ∈ r, sz 300 z
  val : ∀ i, i < rows.length → ∃ t : Rat, t ≠ 0 ∧ (∀ j, j < n → (zent M i j : Rat) = t * ent rows i j) ∧ (zent M i n : Rat) = t * rat due i
theorem wid_mk {L : Nat} (hd : due.length = rows.length) (hr : CT L n rows) (hq : ∀ q ∈ due, CQ L q) (hl : M.length = rows.length) (hc : ∀ i, i < rows.length → Clr L (rows.getD i [] ++ [rat due i]) (M.getD i [])) : Wid rows due n M := by
  have rl : ((List.range rows.length).map fun i => rows.getD i [] ++ [rat due i]).length = rows.length := by simp
  have gt : ∀ i, i < rows.length → ((List.range rows.length).map fun i => rows.getD i [] ++ [rat due i]).getD i [] = rows.getD i [] ++ [rat due i] := fun i hi => by simp [hi]
  have c := clr_facts (R := (List.range rows.length).map fun i => rows.getD i [] ++ [rat due i]) (M := M) (L := L) (w := n + 1) (by rw [rl]; exact hl) (fun i hi => by rw [rl] at hi; rw [gt i hi]; exact hc i hi) (fun r hr2 => by
    obtain ⟨i, hi, rfl⟩ := List.mem_map.mp hr2
    have hi := List.mem_range.mp hi
    have e : rows.getD i [] = rows[i] := by simp [hi]
    have q := hr _ (List.getElem_mem hi)
    rw [← e] at q
    refine ⟨by simp at q ⊢; omega, fun x hx => ?_⟩
    rcases List.mem_append.mp hx with z | z
    · exact q.2 x z
    · have : x = rat due i := by simpa using z
      rw [this]
      have : rat due i = due[i]'(by omega) := by simp [rat, show i < due.length by omega]
      rw [this]
      exact hq _ (List.getElem_mem _))
  refine ⟨hl, c.1, fun i hi => ?_⟩
  obtain ⟨t, t0, ht⟩ := c.2 i (by rw [rl]; exact hi)
  have e : rows.getD i [] = rows[i] := by simp [hi]
  have q := (hr _ (List.getElem_mem hi)).1
  rw [← e] at q
  have en : ∀ j, ent ((List.range rows.length).map fun i => rows.getD i [] ++ [rat due i]) i j = rat (rows.getD i [] ++ [rat due i]) j := fun j => by
    unfold ent
    rw [gt i hi]
  refine ⟨t, t0, fun j hj => ?_, ?_⟩
  · rw [ht j (by omega), en j]
    have : rat (rows.getD i [] ++ [rat due i]) j = ent rows i j := by
      unfold ent rat
      have : j < (rows.getD i []).length := by omega
      rw [List.getD_eq_getElem?_getD, List.getElem?_append_left this]
      simp
    rw [this]
  · rw [ht n (by omega), en n]
    have : rat (rows.getD i [] ++ [rat due i]) n = rat due i := by
      unfold rat
      have : (rows.getD i []).length ≤ n := by omega
      rw [List.getD_eq_getElem?_getD, List.getElem?_append_right this, q, Nat.sub_self]
      rfl
    rw [this]
theorem Wid.bas (h : Wid rows due n M) {fs : List (List Rat)} {k D : Nat} (b : Bas M.length n (ZM M) fs k D) : Bas rows.length n (AM rows) fs k D := by
  rw [h.len] at b
  exact b.congr fun i hi => by
    obtain ⟨t, t0, ht, _⟩ := h.val i hi
    exact ⟨t, t0, ht⟩
theorem Wid.sol (h : Wid rows due n M) (he : Ech M n (n + 1) piv L o) (h6 : piv.length ≤ 6) {v : Nat → Int} (hv : ∀ j, sz 2420 (v j)) (hs : ∀ b, b < M.length → sumN n (fun j => (zent M b j : Rat) * (v j : Rat)) = (zent M b n : Rat) * (dzOf L piv : Rat)) :
    Sol rows.length n (AM rows) (rat due) (toldR n v (dzOf L piv)) (dzOf L piv).natAbs := by
  have d0 := dz_ne he (by omega)
  have dr : ((dzOf L piv : Int) : Rat) ≠ 0 := by exact_mod_cast d0
  refine ⟨by omega, dz_sz he (by omega) (fun r hr => (h.ok r hr).2) h6, by simp [toldR], told_ts d0 hv, fun i hi => ?_⟩
  obtain ⟨t, t0, ht, hn⟩ := h.val i hi
  have s := told_sum (n := n) (z := v) d0 fun j => (zent M i j : Rat)
  rw [hs i (by rw [h.len]; exact hi), hn] at s
  have e : sumN n (fun j => (zent M i j : Rat) * rat (toldR n v (dzOf L piv)) j) = t * sumN n fun j => ent rows i j * rat (toldR n v (dzOf L piv)) j := by
    rw [← sumN_mul]
    exact sumN_congr fun j hj => by rw [ht j hj]; grind
  rw [e] at s
  show sumN n (fun j => ent rows i j * rat (toldR n v (dzOf L piv)) j) = rat due i
  generalize sumN n (fun j => ent rows i j * rat (toldR n v (dzOf L piv)) j) = X at *
  have : (t * (dzOf L piv : Rat)) * (X - rat due i) = 0 := by grind
  rcases Rat.mul_eq_zero.mp this with a | a
  · rcases Rat.mul_eq_zero.mp a with a | a
    · exact absurd a t0
    · exact absurd a dr
  · grind
theorem Wid.cert (h : Wid rows due n M) (he : Ech M n (n + 1) piv L o) {i : Nat} (hk : piv.length ≤ i) (hi : i < M.length) (ne : zent L i n ≠ 0) : Cert rows.length n (AM rows) (rat due) := by
  obtain ⟨μ, h0, h1⟩ := ech_cert he (by omega) (j0 := n) (by omega) hk hi ne
  rw [h.len] at h0 h1
  have ex : ∀ b, ∃ t : Rat, b < rows.length → t ≠ 0 ∧ (∀ j, j < n → (zent M b j : Rat) = t * ent rows b j) ∧ (zent M b n : Rat) = t * rat due b := fun b => by
    by_cases hb : b < rows.length
    · obtain ⟨t, q⟩ := h.val b hb
      exact ⟨t, fun _ => q⟩
    · exact ⟨0, fun z => absurd z hb⟩
  obtain ⟨T, hT⟩ := Classical.skolem.mp ex
  let s : Rat := sumN rows.length fun b => μ b * (zent M b n : Rat)
  refine ⟨fun b => 1 / s * (μ b * T b), fun j hj => ?_, ?_⟩
  · have : sumN rows.length (fun b => 1 / s * (μ b * T b) * AM rows b j) = sumN rows.length fun b => 1 / s * (μ b * (zent M b j : Rat)) := sumN_congr fun b hb => by
      rw [(hT b hb).2.1 j hj]; show 1 / s * (μ b * T b) * ent rows b j = _; grind
    rw [this, sumN_mul, h0 j hj]; grind
  · have : sumN rows.length (fun b => 1 / s * (μ b * T b) * rat due b) = sumN rows.length fun b => 1 / s * (μ b * (zent M b n : Rat)) := sumN_congr fun b hb => by
      rw [(hT b hb).2.2]; grind
    rw [this, sumN_mul]
    show 1 / s * s = 1
    have : s ≠ 0 := h1
    grind
/-- the turned system of the paper -/
theorem paper_sol {R : List (List Rat)} {goal x : List Rat} {m D : Nat} {A : Mat} {b : Nat → Rat} (hR : ∀ j i, j < n → i < m → ent R j i = A i j) (hb : ∀ i, i < m → ent R n i = b i) (g0 : ∀ j, j < n → rat goal j = 0) (g1 : rat goal n = 1) (h : Sol (n + 1) m (AM R) (rat goal) x D) : Wgt m n A b x D := by
  refine ⟨h.pos, h.low, h.len, h.ts, fun j hj => ?_, ?_⟩
  · have e := h.eq j (by omega)
    rw [g0 j hj] at e
    rw [← e]
    exact sumN_congr fun i hi => by show _ = ent R j i * _; rw [hR j i hj hi]; grind
  · have e := h.eq n (by omega)
    rw [g1] at e
    rw [← e]
    exact sumN_congr fun i hi => by show _ = ent R n i * _; rw [hb i hi]; grind
theorem paper_not {R : List (List Rat)} {goal : List Rat} {m : Nat} {A : Mat} {b : Nat → Rat} (hR : ∀ j i, j < n → i < m → ent R j i = A i j) (hb : ∀ i, i < m → ent R n i = b i) (g0 : ∀ j, j < n → rat goal j = 0) (g1 : rat goal n = 1) (h : Cert (n + 1) m (AM R) (rat goal)) (hc : Cert m n A b) : False := by
  obtain ⟨μ, h0, h1⟩ := h
  have m1 : μ n = 1 := by
    have : sumN n (fun i => μ i * rat goal i) + μ n * rat goal n = 1 := h1
    rw [g1, sumN_zero fun i hi => by rw [g0 i hi]; grind] at this
    grind
  refine cert_not hc (y := fun j => - μ j) fun i hi => ?_
  have e : sumN n (fun j => μ j * ent R j i) + μ n * ent R n i = 0 := h0 i hi
  rw [m1, hb i hi] at e
  have e2 : sumN n (fun j => A i j * - μ j) = (-1) * sumN n (fun j => μ j * ent R j i) := by
    rw [← sumN_mul]
    exact sumN_congr fun j hj => by rw [hR j i hj hi]; grind
  rw [e2]
  grind
end
end K05
end
section
set_option Elab.async false
set_option linter.all false
set_option maxRecDepth 100000
namespace K05
open PySem L2 Py LA
theorem piv6 {M L : List (List Int)} {n w : Nat} {piv : List Nat} {o : Nat → Nat} (h : Ech M n w piv L o) (h6 : M.length ≤ 6 ∨ n ≤ 6) : piv.length ≤ 6 := by
  have a := h.st.few
  have b := asc_bd h.st.asc h.st.pin
  omega
theorem sumZr_cast {n : Nat} {f g : Nat → Int} {r : Int} (h : sumN n (fun j => (f j : Rat) * (g j : Rat)) = (r : Rat)) : sumZr n (fun j => f j * g j) = r := by
  refine cast_inj ?_
  show ((sumZ n _ : Int) : Rat) = _
  rw [sumZ_cast, ← h]
  exact sumN_congr fun j _ => by rw [Rat.intCast_mul]
theorem ent_szL {M L : List (List Int)} {n w : Nat} {piv : List Nat} {o : Nat → Nat} (h : Ech M n w piv L o) (hM : ∀ r ∈ M, ∀ z ∈ r, sz 300 z) (h6 : piv.length ≤ 6) (i j : Nat) : sz 2420 (zent L i j) := by
  have z0 : sz 2420 0 := by
    show (0 : Int).natAbs < 2 ^ 2420
    exact Nat.pow_pos (by decide)
  by_cases hi : i < M.length
  · by_cases hj : j < w
    · exact h.ent_sz hM h6 hi hj
    · have hi' : i < L.length := by rw [h.len]; exact hi
      have e : L.getD i [] = L[i] := by simp [hi']
      have hl := h.wid _ (List.getElem_mem hi')
      have : zent L i j = 0 := by
        unfold zent
        rw [e]
        simp [show L[i].length ≤ j by omega]
      rw [this]; exact z0
  · have hi' : L.length ≤ i := by rw [h.len]; omega
    have : zent L i j = 0 := by
      unfold zent
      simp [hi']
    rw [this]; exact z0
theorem filled_ok {M L : List (List Int)} {n w : Nat} {piv : List Nat} {o : Nat → Nat} (h : Ech M n w piv L o) (hn : n ≤ w) (hw : w ≤ 64) (hm : M.length ≤ 64) (hM : ∀ r ∈ M, ∀ z ∈ r, sz 300 z) (h6 : piv.length ≤ 6) {S : List Int} {Q : Res → List Int → Prop} {E : PX → List Int → Prop} (c0 : Nat) (f : D) (z : Nat → Int)
    (hf : (f = .non ∧ n < w ∧ (∀ j, j < n → (∀ t, t < piv.length → piv.getD t 0 ≠ j) → z j = 0) ∧ ∀ i, i < piv.length → sumZr n (fun j => zent L i j * z j) = zent L i n * dzOf L piv) ∨
    (f = .int c0 ∧ c0 < n ∧ (∀ t, t < piv.length → piv.getD t 0 ≠ c0) ∧ z c0 = dzOf L piv ∧ (∀ j, j < n → j ≠ c0 → (∀ t, t < piv.length → piv.getD t 0 ≠ j) → z j = 0) ∧ ∀ i, i < piv.length → sumZr n (fun j => zent L i j * z j) = 0))
    (hz : ∀ j, sz 2420 (z j)) (q : Q (.dat (qT (toldR n z (dzOf L piv)))) S) : sp_tb_filled [.dat (nL piv), .dat (.lst (L.map zL)), .dat (.int n), .dat f] S Q E := by
  refine ⟨L, piv, n, w, c0, dzOf L piv, z, f, rfl, hf, hn, hw, by rw [h.len]; exact h.st.few, by rw [h.len]; exact hm, h.wid, h.st.pin, h.st.asc, fun i hi => ⟨?_, fun j hj => cast_inj ((h.st.zl i j hi hj).trans rfl)⟩, rfl, ent_szL h hM h6, hz, dz_sz h hn hM h6, q⟩
  intro e
  have km : i < M.length := Nat.lt_of_lt_of_le hi h.st.few
  have v := h.st.val i (piv.getD i 0) km (Nat.lt_of_lt_of_le (h.st.pin i hi) hn)
  have e0 : min i piv.length = i := by omega
  have v : (zent L i (piv.getD i 0) : Rat) = mn (Rz M o) (cz piv) (min i piv.length) i (piv.getD i 0) := v
  rw [e0, e] at v
  have p := pv_succ (R := Rz M o) (c := cz piv) (k := i)
  exact h.st.piv0 (i + 1) (by omega) (p.trans (v.symm.trans rfl))
theorem fr_bool {piv : List Nat} {j : Nat} : (!decide ((j : Int) ∈ piv.map fun (n : Nat) => ((n : Nat) : Int))) = frk (cz piv) piv.length j := by
  rw [Bool.eq_iff_iff, frk_iff]
  simp only [Bool.not_eq_true', decide_eq_false_iff_not, List.mem_map, not_exists, not_and]
  constructor
  · intro h t ht e
    refine h (piv[t]) (List.getElem_mem ht) ?_
    have : piv.getD t 0 = piv[t] := by simp [ht]
    have e : piv.getD t 0 = j := e
    omega
  · intro h x hx e
    obtain ⟨t, ht, rfl⟩ := List.mem_iff_getElem.mp hx
    refine h t ht ?_
    show piv.getD t 0 = j
    have : piv.getD t 0 = piv[t] := by simp [ht]
    omega
theorem pf_tb_free : ∀ rs S Q E, sp_tb_free rs S Q E → p_tb_free (ends Q E) (rs.map Res.slot ++ List.replicate (4 - rs.length) .un) S := by
  rintro rs S Q E ⟨M, L, piv, o, n, w, rfl, hE, hn, hw, hm, hM, h66, q⟩
  have hz64 : (64 : Nat) ≤ sizeLine := by decide
  have h6 := piv6 hE h66
  have hMz : ∀ r ∈ M, ∀ z ∈ r, sz 300 z := fun r hr => (hM r hr).2
  have ex : ∀ c0, ∃ v : Nat → Int, c0 < n → (∀ t, t < piv.length → cz piv t ≠ c0) → v c0 = dzOf L piv ∧ (∀ j, j ≠ c0 → (∀ t, t < piv.length → cz piv t ≠ j) → v j = 0) ∧ (∀ j, sz 2420 (v j)) ∧ (∀ i, i < piv.length → sumN n (fun j => (zent L i j : Rat) * (v j : Rat)) = 0) ∧ ∀ b, b < M.length → sumN n (fun j => (zent M b j : Rat) * (v j : Rat)) = 0 := fun c0 => by
    by_cases h : c0 < n ∧ ∀ t, t < piv.length → cz piv t ≠ c0
    · obtain ⟨v, hv⟩ := ech_free hE hn hMz h6 h.1 h.2
      exact ⟨v, fun _ _ => hv⟩
    · exact ⟨fun _ => 0, fun a b => absurd ⟨a, b⟩ h⟩
  obtain ⟨Z, hZ⟩ := Classical.skolem.mp ex
  simp [p_tb_free, rng_len]
  refine ⟨sm62_nat (by omega), by omega, ?_⟩
  refine lc_rngT (fun c => qT (toldR n (Z c) (dzOf L piv))) (frk (cz piv) piv.length) (fun j hj N hN => ?_) (fun j hj hb N hN => ?_) ?_
  · simp [fIn]
    have := intsD_nls piv
    show match intsD (nLs piv) with
      | some ns => N (!decide ((j : Int) ∈ ns)) S
      | none => False
    rw [this]
    show N _ S
    rw [fr_bool]
    exact hN
  · obtain ⟨z1, z2, z3, z4, z5⟩ := hZ j hj ((frk_iff _ _ _).mp hb)
    simp
    refine filled_ok hE hn hw hm hMz h6 j (.int j) (Z j) (.inr ⟨rfl, hj, (frk_iff _ _ _).mp hb, z1, fun i _ => z2 i, fun i hi => sumZr_cast ((z4 i hi).trans rfl)⟩) z3 ?_
    exact hN
  · have := q _ _ _ (ech_bas hE hn hMz h6 Z fun c0 h1 h2 => by
      obtain ⟨z1, z2, z3, z4, z5⟩ := hZ c0 h1 h2
      exact ⟨z1, z2, z3, z5⟩)
    rw [List.map_map] at this
    exact this
end K05
end
section
set_option Elab.async false
set_option linter.all false
set_option maxRecDepth 100000
namespace K05
open PySem L2 Py LA
theorem lc_rel {α : Type} {i : Nat} {pe : PEx} {sl : List Slot} {R T : D → α → Prop} {S : List Int} : ∀ {ds : List D} {ms : List α} {Q : List D → List Int → Prop}, Paired R ds ms →
    (∀ d m, R d m → m ∈ ms → ∀ (N : D → List Int → Prop), (∀ y, T y m → N y S) → dat pe (sl.set i (.dat d)) S N fun _ _ => False) → (∀ ys, Paired T ys ms → Q ys S) → lcRun i pYes pe ds sl S Q
  | _, _, Q, .nil, _, q => q _ .nil
  | _, _, Q, .cons (b := m) h r, hs, q => by
    simp only [lcRun, pYes, if_true]
    refine hs _ m h (by simp) _ fun y hy => ?_
    exact lc_rel r (fun d m' hd hm => hs d m' hd (by simp [hm])) fun ys hp => q (y :: ys) (.cons hy hp)
theorem clr_rows {α : Type} {L : Nat} {g : α → List Rat} {ys : List D} {ms : List α} (h : Paired (fun y m => ∃ zs, Clr L (g m) zs ∧ y = zL zs) ys ms) : ∃ M : List (List Int), ys = M.map zL ∧ M.length = ms.length ∧ ∀ i (hi : i < ms.length), Clr L (g ms[i]) (M.getD i []) := by
  induction h with
  | nil => exact ⟨[], rfl, rfl, fun i hi => by simp at hi⟩
  | cons h1 _ ih =>
    obtain ⟨zs, hz, rfl⟩ := h1
    obtain ⟨M, rfl, hl, hc⟩ := ih
    refine ⟨zs :: M, rfl, by simp [hl], fun i hi => ?_⟩
    rcases i with _ | i
    · exact hz
    · exact hc i (by simpa using hi)
theorem rng_pair (n : Nat) : Paired (fun d (j : Nat) => d = D.int j) (rng 0 1 n) (List.range n) := by
  have p := paired_rng n 0
  rw [← List.range_eq_range'] at p
  exact p
theorem cq_8000 {L : Nat} {q : Rat} (hL : LOk L) (h : CQ L q) : q.den ∣ L ∧ sz 8000 q.num := by
  refine ⟨h.1, ?_⟩
  have a := h.2
  have b := hL.1
  have : q.num.natAbs ≤ q.num.natAbs * L := Nat.le_mul_of_pos_right _ b
  exact Nat.lt_of_lt_of_le (Nat.lt_of_le_of_lt this a) (Nat.pow_le_pow_right (by decide) (by decide))
/-- rows made whole -/
theorem clear_ok {d : D} {row : List Rat} {L : Nat} {S : List Int} {Q : Res → List Int → Prop} {E : PX → List Int → Prop} (h : isRow d row) (hl : row.length ≤ 64) (hL : LOk L) (hq : ∀ q ∈ row, CQ L q) (q : ∀ zs, Clr L row zs → Q (.own (zs.map .int)) S ∧ Q (.dat (zL zs)) S) : sp_tb_clear [.dat d] S Q E :=
  ⟨d, row, L, rfl, h, hl, hL.1, hL.2, fun x hx => cq_8000 hL (hq x hx), q⟩
theorem Rk.scale {m n k : Nat} {A A' : Mat} (h : Rk m n A' k) (hs : ∀ i, i < m → ∃ t : Rat, t ≠ 0 ∧ ∀ j, j < n → A' i j = t * A i j) : Rk m n A k := by
  have e : ∀ (x : Nat → Rat) i, i < m → (sumN n (fun j => A' i j * x j) = 0 ↔ sumN n (fun j => A i j * x j) = 0) := fun x i hi => by
    obtain ⟨t, t0, ht⟩ := hs i hi
    have : sumN n (fun j => A' i j * x j) = t * sumN n (fun j => A i j * x j) := by
      rw [← sumN_mul]
      exact sumN_congr fun j hj => by rw [ht j hj]; grind
    rw [this]
    constructor
    · intro z
      rcases Rat.mul_eq_zero.mp z with a | a
      · exact absurd a t0
      · exact a
    · intro z; rw [z]; grind
  exact h.congr fun x => ⟨fun q i hi => (e x i hi).mp (q i hi), fun q i hi => (e x i hi).mpr (q i hi)⟩
theorem pf_tb_base : ∀ rs S Q E, sp_tb_base rs S Q E → p_tb_base (ends Q E) (rs.map Res.slot ++ List.replicate (5 - rs.length) .un) S := by
  rintro rs S Q E ⟨d, rows, n, L, rfl, hd, hn, hm, h66, hL, hC, q⟩
  have hz64 : (64 : Nat) ≤ sizeLine := by decide
  obtain ⟨k1, ds, hp, e1⟩ := isMat_seq hd
  have hdl : ds.length = rows.length := Paired.length hp
  simp [p_tb_base, e1]
  refine ⟨by omega, ?_⟩
  refine lc_rel (T := fun y m => ∃ zs, Clr L m zs ∧ y = zL zs) hp (fun x r hx hr N hN => ?_) fun ys hys => ?_
  · simp
    exact clear_ok hx (by rw [(hC r hr).1]; omega) hL (hC r hr).2 fun zs hzs => ⟨hN _ ⟨zs, hzs, rfl⟩, hN _ ⟨zs, hzs, rfl⟩⟩
  · obtain ⟨M, rfl, hMl, hMc⟩ := clr_rows (g := fun m => m) hys
    have cf := clr_facts (R := rows) (M := M) (L := L) (w := n) hMl (fun i hi => by
      have e : rows.getD i [] = rows[i] := by simp [hi]
      rw [e]; exact hMc i hi) hC
    refine ⟨M, n, n, rfl, Nat.le_refl _, by omega, by omega, cf.1, by omega, fun piv Lf o hE => ?_⟩
    simp
    refine ⟨M, Lf, piv, o, n, n, rfl, hE, Nat.le_refl _, by omega, by omega, cf.1, by omega, fun fs k D hB => q fs k D ?_⟩
    rw [hMl] at hB
    exact hB.congr cf.2
theorem pf_tb_rank : ∀ rs S Q E, sp_tb_rank rs S Q E → p_tb_rank (ends Q E) (rs.map Res.slot ++ List.replicate (3 - rs.length) .un) S := by
  rintro rs S Q E ⟨d, rows, n, L, rfl, hd, hn, hm, h66, hL, hC, q⟩
  have hz64 : (64 : Nat) ≤ sizeLine := by decide
  obtain ⟨k1, ds, hp, e1⟩ := isMat_seq hd
  have hdl : ds.length = rows.length := Paired.length hp
  simp [p_tb_rank, e1]
  refine ⟨by omega, ?_⟩
  refine lc_rel (T := fun y m => ∃ zs, Clr L m zs ∧ y = zL zs) hp (fun x r hx hr N hN => ?_) fun ys hys => ?_
  · simp
    exact clear_ok hx (by rw [(hC r hr).1]; omega) hL (hC r hr).2 fun zs hzs => ⟨hN _ ⟨zs, hzs, rfl⟩, hN _ ⟨zs, hzs, rfl⟩⟩
  · obtain ⟨M, rfl, hMl, hMc⟩ := clr_rows (g := fun m => m) hys
    have cf := clr_facts (R := rows) (M := M) (L := L) (w := n) hMl (fun i hi => by
      have e : rows.getD i [] = rows[i] := by simp [hi]
      rw [e]; exact hMc i hi) hC
    refine ⟨M, n, n, rfl, Nat.le_refl _, by omega, by omega, cf.1, by omega, fun piv Lf o hE => ?_⟩
    have rk := ech_rk hE (Nat.le_refl _)
    rw [hMl] at rk
    have := q _ (Rk.scale rk cf.2)
    have e0 : ∀ a b : D, atI [a, b] 0 = some a := fun _ _ => rfl
    simp [nL, e0]
    exact this
theorem pf_tb_answers : ∀ rs S Q E, sp_tb_answers rs S Q E → p_tb_answers (ends Q E) (rs.map Res.slot ++ List.replicate (7 - rs.length) .un) S := by
  rintro rs S Q E ⟨d1, d2, rows, due, n, L, rfl, h1, h2, hdl, hn, hm, h66, hL, hC, hD, q1, q2⟩
  have hz64 : (64 : Nat) ≤ sizeLine := by decide
  obtain ⟨k1, ds, hp, e1⟩ := isMat_seq h1
  obtain ⟨k2, e2⟩ := isRow_seq h2
  have hdl1 : ds.length = rows.length := Paired.length hp
  simp [p_tb_answers, e1, rng_len]
  refine ⟨sm62_nat (by omega), by omega, ?_⟩
  refine lc_rel (T := fun y j => ∃ zs, Clr L (rows.getD j [] ++ [rat due j]) zs ∧ y = zL zs) (rng_pair ds.length) (fun x j hx hj N hN => ?_) fun ys hys => ?_
  · subst hx
    have hj : j < rows.length := by have := List.mem_range.mp hj; omega
    have hg : rows.getD j [] = rows[j] := by simp [hj]
    obtain ⟨y, y1, y2⟩ := Py.paired_get hp (show ds[j]? = some ds[j] from List.getElem?_eq_getElem (by omega))
    have y3 : y = rows[j] := by
      rw [List.getElem?_eq_getElem hj] at y1
      exact (Option.some.inj y1).symm
    subst y3
    obtain ⟨k3, e3⟩ := isRow_seq y2
    have a1 : atI ds (j : Int) = some ds[j] := at_nat (List.getElem?_eq_getElem (by omega))
    have a2 := at_row (r := due) (i := j) (by omega)
    have lr := (hC _ (List.getElem_mem hj)).1
    simp [e1, e2, a1, a2, e3]
    refine ⟨by omega, by omega, ?_⟩
    refine clear_ok (row := rows[j] ++ [rat due j]) (L := L) (.inr ?_) (by simp; omega) hL (fun x hx => ?_) fun zs hzs => ?_
    · simp [qL]
    · rcases List.mem_append.mp hx with z | z
      · exact (hC _ (List.getElem_mem hj)).2 x z
      · have : x = rat due j := by simpa using z
        rw [this]
        exact hD _ (rat_mem (by omega))
    · rw [← hg] at hzs
      exact ⟨hN _ ⟨zs, hzs, rfl⟩, hN _ ⟨zs, hzs, rfl⟩⟩
  · obtain ⟨M, rfl, hMl, hMc⟩ := clr_rows (g := fun j => rows.getD j [] ++ [rat due j]) hys
    rw [List.length_range, hdl1] at hMl
    have W : Wid rows due n M := wid_mk hdl hC hD hMl fun i hi => by
      have := hMc i (by rw [List.length_range, hdl1]; exact hi)
      simpa using this
    have hMz : ∀ r ∈ M, ∀ z ∈ r, sz 300 z := fun r hr => (W.ok r hr).2
    refine ⟨M, n, n + 1, rfl, by omega, by omega, by omega, W.ok, by omega, fun piv Lf o hE => ?_⟩
    have h6 := piv6 hE (by omega)
    have hLl := hE.len
    have few := hE.st.few
    have nLe : D.lst (piv.map fun (m : Nat) => D.int (m : Nat)) = nL piv := rfl
    simp [nL]
    refine ⟨⟨sm62_nat (by omega), sm62_nat (by omega)⟩, ?_⟩
    have e : ((Lf.length : Int) - (piv.length : Int)).toNat = Lf.length - piv.length := by omega
    refine for_ind (fun i sl S' => S' = S ∧ (∃ s6, sl = [.dat d1, .dat d2, .dat (.int n), .dat (.lst (M.map zL)), .dat (nL piv), .dat (.lst (Lf.map zL)), s6]) ∧ ∀ k, piv.length ≤ k → k < piv.length + i → zent Lf k n = 0) ⟨rfl, ⟨_, rfl⟩, fun k h1 h2 => by omega⟩ ?_ ?_
    · rintro i x sl S' N hi ⟨rfl, ⟨s6, rfl⟩, hv⟩ hN
      obtain ⟨hil, rfl⟩ := rng_get hi
      have hk : piv.length + i < Lf.length := by omega
      have e2 : (piv.length : Int) + (i : Int) * 1 = ((piv.length + i : Nat) : Int) := by omega
      have hcc : n < Lf[piv.length + i].length := by rw [hE.wid _ (List.getElem_mem hk)]; omega
      rw [e2]
      simp only [pgName, pSeq, pIf, pTst, pBin, pIx, pQOf, pQVar, dat, pVar, List.getElem?_cons_zero, List.getElem?_cons_succ, List.set_cons_zero, List.set_cons_succ, Res.slot, seqD_lst, at_z hk, zL, at_zi hcc, pC, fNe]
      rw [← zent_at hk]
      by_cases h : zent Lf (piv.length + i) n = 0
      · simp [h]
        refine hN _ _ ⟨rfl, ⟨_, rfl⟩, fun k h1 h2 => ?_⟩
        by_cases z : k = piv.length + i
        · rw [z]; exact h
        · exact hv k h1 (by omega)
      · simp [h]
        exact q2 (W.cert hE (by omega) (by omega) h)
    · rintro sl S' ⟨rfl, ⟨s6, rfl⟩, hv⟩
      rw [rng_len] at hv
      have hz0 : ∀ i, piv.length ≤ i → i < M.length → zent Lf i n = 0 := fun i h1 h2 => hv i h1 (by omega)
      obtain ⟨v, v2, v3, v4, v5⟩ := ech_due hE (by omega) hMz h6 (j0 := n) (by omega) hz0
      simp
      refine filled_ok hE (by omega) (by omega) (by omega) hMz h6 0 .non v (.inl ⟨rfl, by omega, fun j _ => v2 j, fun i hi => sumZr_cast ?_⟩) v3 ?_
      · rw [v4 i hi, Rat.intCast_mul]
      · refine ⟨M, Lf, piv, o, n, n + 1, rfl, hE, by omega, by omega, by omega, W.ok, by omega, fun fs k D hB => ?_⟩
        simp
        exact ⟨by omega, q1 _ fs k _ D (W.sol hE h6 v3 v5) (W.bas hB)⟩
end K05
end
section
set_option Elab.async false
set_option linter.all false
set_option maxRecDepth 100000
namespace K05
open PySem L2 Py LA
theorem pf_tb_paper : ∀ rs S Q E, sp_tb_paper rs S Q E → p_tb_paper (ends Q E) (rs.map Res.slot ++ List.replicate (5 - rs.length) .un) S := by
  rintro rs S Q E ⟨d1, d2, rows, due, n, L, rfl, h1, h2, hdl, hn, hm, h66, hL, hC, hD, hc, q⟩
  have hz64 : (64 : Nat) ≤ sizeLine := by decide
  obtain ⟨k1, ds, hp, e1⟩ := isMat_seq h1
  obtain ⟨k2, e2⟩ := isRow_seq h2
  have hdl1 : ds.length = rows.length := Paired.length hp
  simp [p_tb_paper, e1, e2]
  refine ⟨d1, rows, n, rfl, h1, by omega, by omega, fun m hm2 => by rw [(hC m hm2).1]; exact Nat.le_refl _, ?_⟩
  simp
  have cl : (colsR rows n).length = n := by simp [colsR]
  refine ⟨by omega, by rw [cl]; omega, by omega, by omega, ⟨by omega, by omega⟩, by omega, by omega, by omega, ?_⟩
  have g0 : (List.replicate n (0 : Rat) ++ [1]).map nD = List.replicate n (D.tup [.int 0, .int 1]) ++ [D.tup [.int 1, .int 1]] := by
    rw [List.map_append, List.map_replicate]
    rfl
  have Rl : (colsR rows n ++ [due]).length = n + 1 := by simp [cl]
  have col : ∀ j, j < n → (colsR rows n ++ [due]).getD j [] = rows.map fun m => rat m j := fun j hj => by
    rw [List.getD_eq_getElem?_getD, List.getElem?_append_left (by omega)]
    simp [colsR, hj]
  have col2 : (colsR rows n ++ [due]).getD n [] = due := by
    rw [List.getD_eq_getElem?_getD, List.getElem?_append_right (by omega), cl, Nat.sub_self]
    rfl
  have hR : ∀ j i, j < n → i < rows.length → ent (colsR rows n ++ [due]) j i = AM rows i j := fun j i hj hi => by
    unfold ent
    rw [col j hj, rat_map hi]
  have hb : ∀ i, i < rows.length → ent (colsR rows n ++ [due]) n i = rat due i := fun i hi => by
    unfold ent
    rw [col2]
  have q0 : CQ L 0 := ⟨⟨L, by simp⟩, by show (0 : Rat).num.natAbs * L < 2 ^ 300; simp; exact Nat.pow_pos (by decide)⟩
  have q1 : CQ L 1 := ⟨⟨L, by simp⟩, by
    have := hL.2
    have e : (1 : Rat).num.natAbs * L = L := by simp
    rw [e]
    exact Nat.lt_of_lt_of_le this (Nat.pow_le_pow_right (by decide) (by decide))⟩
  have gj : ∀ j, j < n → rat (List.replicate n (0 : Rat) ++ [1]) j = 0 := fun j hj => by
    unfold rat
    rw [List.getD_eq_getElem?_getD, List.getElem?_append_left (by simp; omega)]
    simp [hj]
  have gn : rat (List.replicate n (0 : Rat) ++ [1]) n = 1 := by
    unfold rat
    rw [List.getD_eq_getElem?_getD, List.getElem?_append_right (by simp)]
    simp
  rw [hdl1]
  refine ⟨_, _, colsR rows n ++ [due], List.replicate n 0 ++ [1], rows.length, L, rfl, ⟨_, .inl rfl, ?_⟩, .inr ?_, by rw [Rl]; simp, hm, by rw [Rl]; omega, by rw [Rl]; omega, hL, fun c hc2 => ?_, fun x hx => ?_, fun x fs k D D' hS _ => ?_, fun hN => ?_⟩
  · have : (colsR rows n).map qT ++ [D.tup (due.map nD)] = (colsR rows n ++ [due]).map qT := by
      rw [List.map_append]; rfl
    rw [this]
    exact Py.paired_map (f := qT) (fun _ => .inl rfl) _
  · rw [qL, g0]
  · rcases List.mem_append.mp hc2 with z | z
    · obtain ⟨j, hj, rfl⟩ := List.mem_map.mp z
      have hj := List.mem_range.mp hj
      refine ⟨by simp, fun x hx => ?_⟩
      obtain ⟨m, hm2, rfl⟩ := List.mem_map.mp hx
      obtain ⟨l1, l2⟩ := hC m hm2
      exact l2 _ (rat_mem (by omega))
    · have : c = due := by simpa using z
      rw [this]
      exact ⟨hdl, hD⟩
  · rcases List.mem_append.mp hx with z | z
    · have : x = 0 := (List.mem_replicate.mp z).2
      rw [this]; exact q0
    · have : x = 1 := by simpa using z
      rw [this]; exact q1
  · rw [Rl] at hS
    have e0 : ∀ a b : Py.D, atI [a, b] 0 = some a := fun _ _ => rfl
    simp [e0]
    exact q x D (paper_sol hR hb gj gn hS)
  · rw [Rl] at hN
    exact (paper_not hR hb gj gn hN hc).elim
end K05
end
section
set_option Elab.async false
set_option linter.all false
set_option maxRecDepth 100000
namespace K05
open PySem L2 Py LA
theorem sz0 (b : Nat) : sz b 0 := by
  show (0 : Int).natAbs < 2 ^ b
  exact Nat.pow_pos (by decide)
theorem sz_comb {b : Nat} {x y u v : Int} (hx : sz b x) (hy : sz b y) (hu : sz b u) (hv : sz b v) : sz (2 * b + 1) (x * y - u * v) := by
  have h1 := sz_mul hx hy
  have h2 := sz_mul hu hv
  have h3 : sz (b + b) (-(u * v)) := by unfold sz at *; rwa [Int.natAbs_neg]
  have := sz_add h1 h3
  rw [Int.sub_eq_add_neg]
  have e : 2 * b + 1 = b + b + 1 := by omega
  rw [e]; exact this
/-- a row of the law made whole -/
def RowW (many : Nat) (row : List Rat) (zs : List Int) : Prop := zs.length = many ∧ (∃ t : Rat, t ≠ 0 ∧ ∀ j, j < many → (zs.getD j 0 : Rat) = t * rat row j) ∧ ∀ z ∈ zs, sz 6500 z
theorem lcm_fdiv {l d : Nat} (hl : 0 < l) (hd : 0 < d) : ((l : Int) * (d : Int)).fdiv ((Int.gcd (l : Int) (d : Int) : Nat) : Int) = ((Nat.lcm l d : Nat) : Int) := by
  rw [Int.fdiv_eq_ediv_of_nonneg _ (by omega)]
  rfl
theorem pf__law_rank : ∀ rs S Q E, sp__law_rank rs S Q E → p__law_rank (ends Q E) (rs.map Res.slot ++ List.replicate (12 - rs.length) .un) S := by
  rintro rs S Q E ⟨d, R, many, L, rfl, hd, hmany, hRl, h66, hL, hL4, hR, q⟩
  have hz64 : (64 : Nat) ≤ sizeLine := by decide
  have hz0 : (0 : Nat) ≤ sizeLine := by decide
  obtain ⟨k1, ds, hp, e1⟩ := isMat_seq hd
  have hdl : ds.length = R.length := Paired.length hp
  have dpos : ∀ x : Rat, 0 < x.den := fun x => Nat.pos_of_ne_zero x.den_nz
  simp [p__law_rank, e1]
  refine for_ind (fun i sl S' => S' = S ∧ i ≤ R.length ∧ ∃ (M : List (List Int)) (s3 s4 s5 : Slot), sl = [.dat d, .dat (.int many), .own (M.map zL), s3, s4, s5, .un, .un, .un, .un, .un, .un] ∧ M.length = i ∧ ∀ a, a < i → RowW many (R.getD a []) (M.getD a [])) ⟨rfl, by omega, [], _, _, _, rfl, rfl, fun a ha => by omega⟩ ?_ ?_
  · rintro i x sl S' N hi ⟨rfl, hiR, M, s3, s4, s5, rfl, hMl, hMw⟩ hN
    have hiR2 : i < R.length := by
      have := (List.getElem?_eq_some_iff.mp hi).1
      omega
    obtain ⟨row, y1, y2⟩ := Py.paired_get hp hi
    have hrow : row = R[i] := by
      rw [List.getElem?_eq_getElem hiR2] at y1
      exact (Option.some.inj y1).symm
    have hg : R.getD i [] = row := by rw [hrow]; simp [hiR2]
    have hrm : row ∈ R := by rw [hrow]; exact List.getElem_mem _
    obtain ⟨w1, w2⟩ := hR row hrm
    obtain ⟨k3, e3⟩ := isRow_seq y2
    simp [e3]
    refine for_ind (fun t sl S2 => S2 = S' ∧ ∃ (l : Nat) (s5 : Slot), sl = [.dat d, .dat (.int many), .own (M.map zL), .dat x, .dat (.int l), s5, .un, .un, .un, .un, .un, .un] ∧ 0 < l ∧ l ∣ L ∧ ∀ j, j < t → j < row.length → (rat row j).den ∣ l) ⟨rfl, 1, _, rfl, by decide, ⟨L, by simp⟩, fun j hj => by omega⟩ ?_ ?_
    · rintro t y sl S2 F ht ⟨rfl, l, s5, rfl, hl, hlL, hv⟩ hF
      rw [List.getElem?_map] at ht
      cases e0 : row[t]? with
      | none => rw [e0] at ht; cases ht
      | some y0 =>
        rw [e0] at ht
        cases ht
        have hil : t < row.length := (List.getElem?_eq_some_iff.mp e0).1
        have hy : y0 = rat row t := by simp [rat, e0]
        have hyL := (w2 y0 (List.mem_of_getElem? e0)).1
        have hy2 : y0.den < 2 ^ 4000 := Nat.lt_of_le_of_lt (Nat.le_of_dvd hL hyL) hL4
        have hl2 : l < 2 ^ 4000 := Nat.lt_of_le_of_lt (Nat.le_of_dvd hL hlL) hL4
        have s1 : sz 4000 (l : Int) := by unfold sz; simpa using hl2
        have s2 : sz 4000 (y0.den : Int) := by unfold sz; simpa using hy2
        have c1 : CMulW (l : Int) (y0.den : Int) := cmul s1 s2 (by decide)
        have gne : ((Int.gcd (l : Int) (y0.den : Int) : Nat) : Int) ≠ 0 := by
          have : 0 < Nat.gcd l y0.den := Nat.gcd_pos_of_pos_left _ hl
          have e : Int.gcd (l : Int) (y0.den : Int) = Nat.gcd l y0.den := rfl
          rw [e]; omega
        have c2 : CDv ((l : Int) * (y0.den : Int)) ((Int.gcd (l : Int) (y0.den : Int) : Nat) : Int) := by
          refine ⟨gne, ?_⟩
          have h : sz 4000 ((Int.gcd (l : Int) (y0.den : Int) : Nat) : Int) := sz_gcd s2 (by have := dpos y0; omega)
          exact Nat.lt_of_le_of_lt (sz_log h) (by decide)
        simp [nD, at1, c1]
        refine ⟨(l : Int), (y0.den : Int), 4000, rfl, s2, by decide, ?_⟩
        simp only [lcm_fdiv hl (dpos y0)]
        refine ⟨c2, ?_⟩
        refine hF _ _ ⟨rfl, Nat.lcm l y0.den, .dat (nD y0), rfl, Nat.lcm_pos hl (dpos y0), Nat.lcm_dvd hlL hyL, fun j hj hjl => ?_⟩
        by_cases z : j = t
        · rw [z, ← hy]; exact Nat.dvd_lcm_right ..
        · exact Nat.dvd_trans (hv j (by omega) hjl) (Nat.dvd_lcm_left ..)
    · rintro sl S2 ⟨rfl, l, s5, rfl, hl, hlL, hv⟩
      have hlL2 : l ≤ L := Nat.le_of_dvd hL hlL
      have hden : ∀ y ∈ row, y.den ∣ l := fun y hy => by
        obtain ⟨i, hi, e1⟩ := List.mem_iff_getElem.mp hy
        have : rat row i = y := by simp [rat, hi, e1]
        rw [← this]
        exact hv i (by simpa using hi) hi
      simp [e3]
      refine ⟨by omega, ?_⟩
      refine lc_pair (R := fun x (y : Rat) => x = nD y) (fun y => .int (y.num * ((l / y.den : Nat) : Int))) (Py.paired_map (f := nD) (fun _ => rfl) row) (fun x y hx hy F hF => ?_) ?_
      · subst hx
        have h1 := hden y hy
        have h2 : (l : Int).fdiv (y.den : Int) = ((l / y.den : Nat) : Int) := by
          rw [Int.fdiv_eq_ediv_of_nonneg _ (by omega)]
          rfl
        have hy2 : y.den < 2 ^ 4000 := Nat.lt_of_le_of_lt (Nat.le_of_dvd hL (w2 y hy).1) hL4
        have c1 : CDv (l : Int) (y.den : Int) := by
          refine ⟨by have := dpos y; omega, ?_⟩
          exact Nat.lt_of_le_of_lt (sz_log (sz_den hy2)) (by decide)
        have c2 : CMulW y.num ((l / y.den : Nat) : Int) := cmul (a := 2500) (b := 4000) (w2 y hy).2 (by
          show ((l / y.den : Nat) : Int).natAbs < 2 ^ 4000
          rw [Int.natAbs_natCast]
          have := Nat.div_le_self l y.den
          omega) (by decide)
        simp [nD, at0, at1, c1, h2]
        exact ⟨c2, hF⟩
      · have ez : row.map (fun y => D.int (y.num * ((l / y.den : Nat) : Int))) = (clr0 l row).map D.int := by
          unfold clr0
          rw [List.map_map]
          rfl
        rw [ez]
        refine ⟨by omega, hN _ _ ⟨rfl, by omega, M ++ [clr0 l row], .dat x, .dat (.int l), s5, ?_, by simp [hMl], fun a ha => ?_⟩⟩
        · simp [zL]
        · by_cases za : a = i
          · subst za
            have : (M ++ [clr0 l row]).getD a [] = clr0 l row := by
              rw [List.getD_eq_getElem?_getD, List.getElem?_append_right (by omega), hMl, Nat.sub_self]
              rfl
            rw [this, hg]
            have lpos : (l : Rat) ≠ 0 := by
              intro z
              have : l = 0 := by exact_mod_cast z
              omega
            refine ⟨by simp [clr0, w1], ⟨(l : Rat), lpos, fun j hj => ?_⟩, fun z hz => ?_⟩
            · rw [clr0_get (by omega)]
              exact scale_eq (hden _ (rat_mem (by omega)))
            · obtain ⟨y, hy, rfl⟩ := List.mem_map.mp hz
              exact sz_mul (a := 2500) (b := 4000) (w2 y hy).2 (by
                show ((l / y.den : Nat) : Int).natAbs < 2 ^ 4000
                rw [Int.natAbs_natCast]
                have := Nat.div_le_self l y.den
                omega)
          · have : (M ++ [clr0 l row]).getD a [] = M.getD a [] := by
              rw [List.getD_eq_getElem?_getD, List.getElem?_append_left (by omega), List.getD_eq_getElem?_getD]
            rw [this]
            exact hMw a (by omega)
  · rintro sl S' ⟨rfl, hiR, M, s3, s4, s5, rfl, hMl, hMw⟩
    rw [hdl] at hMl hMw
    simp [e1]
    have gM : ∀ a (ha : a < M.length), M.getD a [] = M[a] := fun a ha => by simp [ha]
    have hM1 : ∀ r ∈ M, r.length = many ∧ ∀ z ∈ r, sz 6500 z := fun r hr => by
      obtain ⟨a, ha, rfl⟩ := List.mem_iff_getElem.mp hr
      have := hMw a (by omega)
      rw [gM a ha] at this
      exact ⟨this.1, this.2.2⟩
    refine ⟨sm62_nat (by omega), ?_⟩
    refine for_ind (fun i sl S2 => S2 = S' ∧ i ≤ many ∧ ∃ (T : List (List Int)) (k : Nat) (c : Nat → Nat) (s3 s7 s8 s9 s10 s11 : Slot), sl = [.dat d, .dat (.int many), .own (T.map zL), s3, s4, s5, .dat (.int k), s7, s8, s9, s10, s11] ∧ T.length = R.length ∧ (∀ r ∈ T, r.length = many ∧ ∀ z ∈ r, sz (6501 * 2 ^ k - 1) z) ∧ Fl R.length many i k (AM R) (ZM T) c)
      ⟨rfl, by omega, M, 0, fun _ => 0, _, _, _, _, _, _, rfl, hMl, hM1, Fl.init _ fun a ha => (hMw a ha).2.1⟩ ?_ ?_
    · rintro i x sl S2 N hi ⟨rfl, him, T, k, c, s3, s7, s8, s9, s10, s11, rfl, hTl, hT, hF⟩ hN
      obtain ⟨hil, rfl⟩ := rng_get hi
      have few := hF.few
      have kle : k ≤ i := asc_bd hF.asc hF.pin
      simp
      refine ⟨⟨sm62_nat (by omega), sm62_nat (by omega)⟩, ?_⟩
      refine for_ind (fun t sl S3 => S3 = S2 ∧ ∃ (s9 : Slot) (sp : Int), sl = [.dat d, .dat (.int many), .own (T.map zL), s3, s4, s5, .dat (.int k), .dat (.int i), .dat (.int sp), s9, s10, s11] ∧
        ((sp = -1 ∧ ∀ a, k ≤ a → a < k + t → zent T a i = 0) ∨ ∃ p : Nat, sp = p ∧ k ≤ p ∧ p < k + t ∧ zent T p i ≠ 0)) ⟨rfl, s9, -1, rfl, .inl ⟨rfl, fun a h1 h2 => by omega⟩⟩ ?_ ?_
      · rintro t y sl S3 F ht ⟨rfl, s9, sp, rfl, hsp⟩ hFF
        obtain ⟨htl, rfl⟩ := rng_get ht
        have hk : k + t < T.length := by omega
        have e2 : (k : Int) + (t : Int) * 1 = ((k + t : Nat) : Int) := by omega
        have hcc : i < T[k + t].length := by rw [(hT _ (List.getElem_mem hk)).1]; omega
        rw [e2]
        simp only [pgName, pSeq, pIf, pAnd, pTst, pBin, pIx, pQOf, pQVar, dat, pVar, List.getElem?_cons_zero, List.getElem?_cons_succ, List.set_cons_zero, List.set_cons_succ, Res.slot, seqD_lst, at_z hk, zL, at_zi hcc, pC, fNe, fI0]
        rw [← zent_at hk]
        rcases hsp with ⟨rfl, hv⟩ | ⟨p, rfl, h1, h2, h3⟩
        · by_cases h : zent T (k + t) i = 0
          · simp [h]
            refine hFF _ _ ⟨rfl, _, -1, rfl, .inl ⟨rfl, fun a h1 h2 => ?_⟩⟩
            by_cases z : a = k + t
            · rw [z]; exact h
            · exact hv a h1 (by omega)
          · simp [h]
            exact hFF _ _ ⟨rfl, _, ((k + t : Nat) : Int), rfl, .inr ⟨k + t, rfl, by omega, by omega, h⟩⟩
        · have : ¬ ((p : Int) < 0) := by omega
          simp [this]
          exact hFF _ _ ⟨rfl, _, (p : Int), rfl, .inr ⟨p, rfl, h1, by omega, h3⟩⟩
      · rintro sl S3 ⟨rfl, s9, sp, rfl, hsp⟩
        rw [rng_len] at hsp
        rcases hsp with ⟨rfl, hv⟩ | ⟨p, rfl, h1, h2, h3⟩
        · simp
          exact hN _ _ ⟨rfl, by omega, T, k, c, _, _, _, _, _, _, rfl, hTl, hT, hF.skip fun a h1 h2 => by
            show (zent T a i : Rat) = 0
            rw [hv a h1 (by omega)]; rfl⟩
        · have hpl : p < T.length := by omega
          have hkl : k < T.length := by omega
          have k5 : k ≤ 5 := by omega
          have gp : T.getD p [] = T[p] := by simp [hpl]
          have gk : T.getD k [] = T[k] := by simp [hkl]
          have a1 := at_z (M := T) hpl
          have a2 := at_z (M := T) hkl
          have i1 := ixN_nat hpl
          have i2 := ixN_nat hkl
          have e5 : ((T.map zL).set p (zL T[k])).set k (zL T[p]) = (swp T p k).map zL := by
            unfold swp
            rw [List.map_set, List.map_set, gp, gk]
          have tl : (swp T p k).length = T.length := swp_len _ _ _
          have wid1 : ∀ r ∈ swp T p k, r.length = many ∧ ∀ z ∈ r, sz (6501 * 2 ^ k - 1) z := fun r hr => by
            unfold swp at hr
            have m1 : T.getD p [] ∈ T := by rw [gp]; exact List.getElem_mem _
            have m2 : T.getD k [] ∈ T := by rw [gk]; exact List.getElem_mem _
            rcases List.mem_or_eq_of_mem_set hr with z | z
            · rcases List.mem_or_eq_of_mem_set z with y | y
              · exact hT r y
              · rw [y]; exact hT _ m2
            · rw [z]; exact hT _ m1
          have ent1 : ∀ a j, zent (swp T p k) a j = zent T (sw p k a) j := fun a j => swp_ent hpl hkl
          have sz1 : ∀ a j, sz (6501 * 2 ^ k - 1) (zent (swp T p k) a j) := fun a j => zent_sz (fun r hr => (wid1 r hr).2) a j
          have bnd : 6501 * 2 ^ k - 1 ≤ 208031 := by
            have : 2 ^ k ≤ 2 ^ 5 := Nat.pow_le_pow_right (by decide) k5
            omega
          have bup : 2 * (6501 * 2 ^ k - 1) + 1 = 6501 * 2 ^ (k + 1) - 1 := by
            have : 1 ≤ 2 ^ k := Nat.one_le_two_pow
            rw [Nat.pow_succ]; omega
          have kk : sw p k k = p := by
            unfold sw; rw [if_pos rfl]
          have lead : ∀ j, T[p].getD j 0 = zent (swp T p k) k j := fun j => by rw [ent1, kk, zent_row hpl]
          have leadw : T[p].length = many := (hT _ (List.getElem_mem hpl)).1
          simp [a1, a2, i1, i2, e5, tl]
          generalize hld : T[p] = ld at *
          refine ⟨⟨sm62_nat' (by omega) (by omega), sm62_nat (by omega)⟩, ?_⟩
          refine for_ind (fun t sl S4 => S4 = S3 ∧ k + 1 + t ≤ T.length ∧ ∃ (T2 : List (List Int)) (s3 s9 s11 : Slot), sl = [.dat d, .dat (.int many), .own (T2.map zL), s3, s4, s5, .dat (.int k), .dat (.int i), .dat (.int p), s9, .dat (zL ld), s11] ∧
            T2.length = T.length ∧ (∀ r ∈ T2, r.length = many ∧ ∀ z ∈ r, sz (6501 * 2 ^ (k + 1) - 1) z) ∧ (∀ a j, (a ≤ k ∨ k + 1 + t ≤ a) → zent T2 a j = zent (swp T p k) a j) ∧ ∀ a j, k < a → a < k + 1 + t → j < many → zent T2 a j = zent (swp T p k) a j * zent (swp T p k) k i - zent (swp T p k) k j * zent (swp T p k) a i)
            ⟨rfl, by omega, swp T p k, s3, s9, s11, rfl, tl, fun r hr => ⟨(wid1 r hr).1, fun z hz => sz_mono ((wid1 r hr).2 z hz) (by omega)⟩, fun _ _ _ => rfl, fun a j h3 h4 => by omega⟩ ?_ ?_
          · rintro t y sl S4 F ht ⟨rfl, htT, T2, s3, s9, s11, rfl, hl2, hw2, hv1, hv2⟩ hFF
            obtain ⟨htl, rfl⟩ := rng_get ht
            have ha : k + 1 + t < T2.length := by omega
            have ea : (k : Int) + 1 + (t : Int) * 1 = ((k + 1 + t : Nat) : Int) := by omega
            have r1 := at_z (M := T2) ha
            have rw2 : T2[k + 1 + t].length = many := (hw2 _ (List.getElem_mem ha)).1
            have rent : ∀ j, T2[k + 1 + t].getD j 0 = zent (swp T p k) (k + 1 + t) j := fun j => by
              rw [← zent_row ha]
              exact hv1 _ j (.inr (Nat.le_refl _))
            have cst : ((k + 1 + t : Nat) : Int) = (k : Int) + 1 + (t : Int) := by omega
            have r2 := ixN_nat ha
            rw [cst] at r1 r2
            have ai : atI (ld.map D.int) (i : Int) = some (.int (zent (swp T p k) k i)) := by rw [at_zi (by omega), lead]
            have ri : atI (T2[k + 1 + t].map D.int) (i : Int) = some (.int (zent (swp T p k) (k + 1 + t) i)) := by rw [at_zi (by omega), rent]
            let nr : List Int := (List.range many).map fun j => zent (swp T p k) (k + 1 + t) j * zent (swp T p k) k i - zent (swp T p k) k j * zent (swp T p k) (k + 1 + t) i
            have nrl : nr.length = many := by simp [nr]
            have nrg : ∀ j, j < many → nr.getD j 0 = zent (swp T p k) (k + 1 + t) j * zent (swp T p k) k i - zent (swp T p k) k j * zent (swp T p k) (k + 1 + t) i := fun j hj => by simp [nr, hj]
            rw [ea]
            simp [r1, r2, zL, rng_len]
            refine ⟨sm62_nat (by omega), by omega, ?_⟩
            refine lc_rng (fun j => .int (zent (swp T p k) (k + 1 + t) j * zent (swp T p k) k i - zent (swp T p k) k j * zent (swp T p k) (k + 1 + t) i)) (fun j hj G hG => ?_) ?_
            · have aj : atI (ld.map D.int) (j : Int) = some (.int (zent (swp T p k) k j)) := by rw [at_zi (by omega), lead]
              have rj : atI (T2[k + 1 + t].map D.int) (j : Int) = some (.int (zent (swp T p k) (k + 1 + t) j)) := by rw [at_zi (by omega), rent]
              have m1 : CMulW (zent (swp T p k) (k + 1 + t) j) (zent (swp T p k) k i) := cmul (sz1 _ j) (sz1 _ i) (by omega)
              have m2 : CMulW (zent (swp T p k) k j) (zent (swp T p k) (k + 1 + t) i) := cmul (sz1 _ j) (sz1 _ i) (by omega)
              simp [zL, ai, ri, aj, rj, m1, m2]
              exact hG
            · have e6 : (T2.map zL).set (k + 1 + t) (.lst ((List.range many).map fun j => D.int (zent (swp T p k) (k + 1 + t) j * zent (swp T p k) k i - zent (swp T p k) k j * zent (swp T p k) (k + 1 + t) i))) = (T2.set (k + 1 + t) nr).map zL := by
                rw [List.map_set]
                have : zL nr = .lst ((List.range many).map fun j => D.int (zent (swp T p k) (k + 1 + t) j * zent (swp T p k) k i - zent (swp T p k) k j * zent (swp T p k) (k + 1 + t) i)) := by
                  show D.lst (nr.map D.int) = _
                  simp only [nr, List.map_map]
                  rfl
                rw [this]
              have hF2 := hFF [.dat d, .dat (.int many), .own ((T2.set (k + 1 + t) nr).map zL), .dat (zL T2[k + 1 + t]), s4, s5, .dat (.int k), .dat (.int i), .dat (.int p), .dat (.int ((k : Int) + 1 + (t : Int))), .dat (zL ld), s11] S4
                ⟨rfl, by omega, T2.set (k + 1 + t) nr, _, _, _, rfl, by simp [hl2], fun r hr => ?_, fun a j hj => ?_, fun a j h3 h4 hj => ?_⟩
              · rw [← e6] at hF2
                simp [zL] at hF2 ⊢
                exact hF2
              · rcases List.mem_or_eq_of_mem_set hr with z | z
                · exact hw2 r z
                · rw [z]
                  refine ⟨nrl, fun x hx => ?_⟩
                  obtain ⟨j, hj, rfl⟩ := List.mem_map.mp hx
                  rw [← bup]
                  exact sz_comb (sz1 _ _) (sz1 _ _) (sz1 _ _) (sz1 _ _)
              · rw [zent_set ha, if_neg (by omega)]
                exact hv1 a j (by omega)
              · rw [zent_set ha]
                by_cases z : a = k + 1 + t
                · rw [if_pos z, z]
                  exact nrg j hj
                · rw [if_neg z]
                  exact hv2 a j h3 (by omega) hj
          · rintro sl S4 ⟨rfl, htT, T2, s3, s9, s11, rfl, hl2, hw2, hv1, hv2⟩
            rw [rng_len] at hv1 hv2 htT
            have e8 : ((k : Int) + 1) = ((k + 1 : Nat) : Int) := by omega
            simp
            rw [e8]
            refine hN _ _ ⟨rfl, by omega, T2, k + 1, fun t => if t < k then c t else i, _, _, _, _, _, _, rfl, by omega, hw2, hF.pivot (s := p) hil h1 (by omega) ?_ (fun t ht => if_pos ht) (if_neg (by omega)) (fun a j hj => ?_) (fun j => ?_) fun a j h3 h4 hj => ?_⟩
            · intro z
              exact h3 (cast_inj (z.trans rfl))
            · show (zent T2 a j : Rat) = (zent T a j : Rat)
              rw [hv1 a j (by omega), ent1]
              have : sw p k a = a := by unfold sw; rw [if_neg (by omega), if_neg (by omega)]
              rw [this]
            · show (zent T2 k j : Rat) = (zent T p j : Rat)
              rw [hv1 k j (by omega), ent1, kk]
            · show (zent T2 a j : Rat) = (zent T (LA.swp k p a) j : Rat) * (zent T p i : Rat) - (zent T p j : Rat) * (zent T (LA.swp k p a) i : Rat)
              rw [hv2 a j h3 (by omega) hj, ent1, ent1, ent1, ent1, kk, Rat.intCast_sub, Rat.intCast_mul, Rat.intCast_mul]
              rfl
    · rintro sl S2 ⟨rfl, him, T, k, c, s3, s7, s8, s9, s10, s11, rfl, hTl, hT, hF⟩
      rw [rng_len] at hF
      simp
      exact q k hF.rk
end K05
end
section
set_option Elab.async false
set_option linter.all false
set_option maxRecDepth 100000
namespace K05
open PySem L2 Py LA
theorem lq_sq {q : Rat} (h : LQ q) : SQ 3000 q ∧ vb (2 ^ 285) q := by
  have d1 : q.den ≤ 36 := Nat.le_of_dvd (by decide) h.1
  have d0 : 0 < q.den := Nat.pos_of_ne_zero q.den_nz
  have p1 : (2 : Nat) ^ 285 ≤ 2 ^ 3000 := Nat.pow_le_pow_right (by decide) (by decide)
  have p2 : (2 : Nat) ^ 6 ≤ 2 ^ 3000 := Nat.pow_le_pow_right (by decide) (by decide)
  refine ⟨⟨Nat.lt_of_lt_of_le h.2 p1, Nat.lt_of_lt_of_le (by omega) p2⟩, ?_⟩
  exact Nat.le_trans (Nat.le_of_lt h.2) (Nat.le_mul_of_pos_right _ d0)
theorem ts_sq {q : Rat} {D : Nat} (h0 : 0 < D) (h1 : D < 2 ^ 2420) (h : q.den ∣ D ∧ sz 2420 q.num) : SQ 3000 q ∧ vb (2 ^ 2420) q := by
  have d1 : q.den ≤ D := Nat.le_of_dvd h0 h.1
  have d0 : 0 < q.den := Nat.pos_of_ne_zero q.den_nz
  have p1 : (2 : Nat) ^ 2420 ≤ 2 ^ 3000 := Nat.pow_le_pow_right (by decide) (by decide)
  refine ⟨⟨Nat.lt_of_lt_of_le h.2 p1, by omega⟩, ?_⟩
  exact Nat.le_trans (Nat.le_of_lt h.2) (Nat.le_mul_of_pos_right _ d0)
theorem lq_L {D : Nat} (h0 : 0 < D) (h1 : D < 2 ^ 2420) : 0 < 36 * D ∧ 36 * D < 2 ^ 4000 := by
  refine ⟨by omega, ?_⟩
  have a : 36 * D ≤ 2 ^ 6 * 2 ^ 2420 := Nat.mul_le_mul (by decide) (Nat.le_of_lt h1)
  rw [← Nat.pow_add] at a
  exact Nat.lt_of_le_of_lt a (Nat.pow_lt_pow_right (by decide) (by decide))
theorem lq_N : (2 : Nat) ^ 285 * 2 ^ 2420 < 2 ^ 50000 := by
  rw [← Nat.pow_add]
  exact Nat.pow_lt_pow_right (by decide) (by decide)
/-- a row of the law by a row that is told -/
theorem dot_ok {d1 d2 : D} {r x : List Rat} {B : Nat} {S : List Int} {Q : Res → List Int → Prop} {E : PX → List Int → Prop} (h1 : isRow d1 r) (h2 : isRow d2 x) (hl : r.length ≤ x.length) (h6 : r.length ≤ 64) (hr : ∀ q ∈ r, LQ q) (b0 : 0 < B) (b1 : B < 2 ^ 2420) (hx : TS B x) (q : Q (.dat (nD (dotR r x))) S) : sp__law_dot [.dat d1, .dat d2] S Q E := by
  have l := lq_L b0 b1
  refine ⟨d1, d2, r, x, 3000, 2 ^ 285 * 2 ^ 2420, 36 * B, rfl, h1, h2, hl, h6, by decide, l.1, l.2, lq_N, fun i hi => ?_, q⟩
  have a := hr _ (rat_mem hi)
  have b := hx _ (rat_mem (show i < x.length by omega))
  exact ⟨(lq_sq a).1, (ts_sq b0 b1 b).1, Nat.mul_dvd_mul a.1 b.1, vb_mul (lq_sq a).2 (ts_sq b0 b1 b).2⟩
theorem dot_ok2 {d1 d2 : D} {r x : List Rat} {B : Nat} {S : List Int} {Q : Res → List Int → Prop} {E : PX → List Int → Prop} (h1 : isRow d1 x) (h2 : isRow d2 r) (hl : x.length ≤ r.length) (h6 : x.length ≤ 64) (hr : ∀ q ∈ r, LQ q) (b0 : 0 < B) (b1 : B < 2 ^ 2420) (hx : TS B x) (q : Q (.dat (nD (dotR x r))) S) : sp__law_dot [.dat d1, .dat d2] S Q E := by
  have l := lq_L b0 b1
  have nn : 2 ^ 2420 * 2 ^ 285 < 2 ^ 50000 := by rw [Nat.mul_comm]; exact lq_N
  refine ⟨d1, d2, x, r, 3000, 2 ^ 2420 * 2 ^ 285, 36 * B, rfl, h1, h2, hl, h6, by decide, l.1, l.2, nn, fun i hi => ?_, q⟩
  have a := hr _ (rat_mem (show i < r.length by omega))
  have b := hx _ (rat_mem hi)
  exact ⟨(ts_sq b0 b1 b).1, (lq_sq a).1, by rw [Nat.mul_comm]; exact Nat.mul_dvd_mul a.1 b.1, vb_mul (ts_sq b0 b1 b).2 (lq_sq a).2⟩
theorem shp_nD (q : Rat) : shp (nD q) := ⟨rfl, rfl⟩
theorem eqv_self {d : D} (h : shp d) : PyData.eqv d.py d.py = true := PySem.SeqAt.eqv_refl _ (PySem.SeqAt.canLay_of_shaped h.2)
theorem fNe_self {d : D} {Q : Res → Prop} (h : shp d) (q : Q (.dat (.bl false))) : fNeD d d Q := ⟨h, h, by rw [eqv_self h]; exact q⟩
theorem fEq_self {d : D} {Q : Res → Prop} (h : shp d) (q : Q (.dat (.bl true))) : fEqD d d Q := ⟨h, h, by rw [eqv_self h]; exact q⟩
theorem flats_nD : ∀ r : List Rat, D.flats (r.map nD) = true
  | [] => rfl
  | x :: r => by
    show ((nD x).flat && D.flats (r.map nD)) = true
    rw [flats_nD r]; rfl
theorem lay_nD : ∀ r : List Rat, PyData.canLayAll0 (D.pys (r.map nD)) = true
  | [] => rfl
  | x :: r => by
    show (PyData.canLay0 (nD x).py && PyData.canLayAll0 (D.pys (r.map nD))) = true
    rw [lay_nD r]; rfl
theorem dep_nD : ∀ r : List Rat, PyData.depthAll (D.pys (r.map nD)) ≤ 3
  | [] => by decide
  | x :: r => by
    show max (PyData.depth (nD x).py) (PyData.depthAll (D.pys (r.map nD))) ≤ 3
    have h1 : PyData.depth (nD x).py ≤ 3 := of_decide_eq_true rfl
    have := dep_nD r
    omega
theorem shp_row (r : List Rat) : shp (qL r) := by
  refine ⟨flats_nD r, ?_⟩
  show (PyData.canLayAll0 (D.pys (r.map nD)) && decide (PyData.depthAll (D.pys (r.map nD)) + 1 ≤ 64)) = true
  rw [lay_nD r, decide_eq_true]
  · rfl
  · have := dep_nD r
    omega
theorem nD_zero : nD 0 = .tup [.int 0, .int 1] := rfl
theorem nD_one : nD 1 = .tup [.int 1, .int 1] := rfl
theorem pf__law_is_base : ∀ rs S Q E, sp__law_is_base rs S Q E → p__law_is_base (ends Q E) (rs.map Res.slot ++ List.replicate (6 - rs.length) .un) S := by
  rintro rs S Q E ⟨d, fs, rows, n, k, B, r, rfl, hd, hm, hn, hT, hB, hr, q⟩
  have hz64 : (64 : Nat) ≤ sizeLine := by decide
  obtain ⟨k1, ds, hp, e1⟩ := isMat_seq hd
  have hl := hB.len
  simp [p__law_is_base, hr]
  refine for_ind (fun i sl S' => S' = S ∧ i ≤ fs.length ∧ ∃ s4 s5, sl = [.dat (.tup (fs.map qT)), .dat d, .dat (.int n), .dat (.int fs.length), s4, s5]) ⟨rfl, by omega, _, _, rfl⟩ ?_ ?_
  · rintro i x sl S' N hi ⟨rfl, hiF, s4, s5, rfl⟩ hN
    have hif : i < fs.length := by
      have := (List.getElem?_eq_some_iff.mp hi).1
      simpa using this
    have hx : x = qT fs[i] := by
      rw [List.getElem?_map, List.getElem?_eq_getElem hif] at hi
      exact (Option.some.inj hi).symm
    subst hx
    obtain ⟨f1, f2⟩ := hB.each _ (List.getElem_mem hif)
    simp [e1]
    refine ⟨fs[i], 3000, n, rfl, by omega, fun y hy => (ts_sq hB.pos hB.low (f2 y hy)).1, by decide, ?_⟩
    simp
    refine for_ind (fun t sl S2 => S2 = S' ∧ t ≤ rows.length ∧ ∃ s5, sl = [.dat (.tup (fs.map qT)), .dat d, .dat (.int n), .dat (.int fs.length), .dat (qT fs[i]), s5]) ⟨rfl, by omega, _, rfl⟩ ?_ ?_
    · rintro t y sl S2 F ht ⟨rfl, htR, s5, rfl⟩ hF
      obtain ⟨row, y1, y2⟩ := Py.paired_get hp ht
      obtain ⟨htl, rfl⟩ := List.getElem?_eq_some_iff.mp y1
      obtain ⟨w1, w2⟩ := hT _ (List.getElem_mem htl)
      simp
      refine dot_ok (r := rows[t]) (x := fs[i]) (B := B) y2 (.inl rfl) (by omega) (by omega) w2 hB.pos hB.low f2 ?_
      have dz : dotR rows[t] fs[i] = 0 := by
        have z := hB.zero i t hif htl
        rw [← w1] at z
        unfold dotR
        rw [← z]
        refine sumN_congr fun j _ => ?_
        simp [AM, ent, htl, hif]
      rw [dz, nD_zero]
      refine ⟨by omega, fNe_self (shp_nD 0) ?_⟩
      simp
      exact hF _ _ ⟨rfl, by omega, _, rfl⟩
    · rintro sl S2 ⟨rfl, htR, s5, rfl⟩
      simp
      exact hN _ _ ⟨rfl, by omega, _, _, rfl⟩
  · rintro sl S' ⟨rfl, hiF, s4, s5, rfl⟩
    simp
    refine ⟨_, fs, n, B, rfl, ⟨_, .inr rfl, Py.paired_map (f := qT) (fun _ => .inl rfl) _⟩, by omega, by omega, by omega, hB.pos, Nat.lt_of_lt_of_le hB.low (Nat.pow_le_pow_right (by decide) (by decide)), fun f hf => ?_, fun k' hk' => ?_⟩
    · obtain ⟨f1, f2⟩ := hB.each f hf
      exact ⟨f1, fun y hy => ⟨(f2 y hy).1, sz_mono (f2 y hy).2 (by decide)⟩⟩
    · have := hk'.eq hB.free
      simp [this]
      exact q
end K05
end
section
set_option Elab.async false
set_option linter.all false
set_option maxRecDepth 100000
namespace K05
open PySem L2 Py LA
theorem numsOf_len : ∀ {xs : List D} {qs : List Rat}, numsOf xs = .inl qs → qs.length = xs.length
  | [], qs, h => by
    simp [numsOf] at h; subst h; rfl
  | x :: r, qs, h => by
    unfold numsOf at h
    cases h1 : numOf x with
    | none => simp [h1] at h
    | some q =>
      cases h2 : numsOf r with
      | inr b => simp [h1, h2] at h
      | inl ps =>
        simp [h1, h2] at h
        subst h
        simp [numsOf_len h2]
theorem tabOf_len : ∀ {xs : List D} {qs : List (List Rat)}, tabOf xs = .inl qs → qs.length = xs.length
  | [], qs, h => by
    simp [tabOf] at h; subst h; rfl
  | x :: r, qs, h => by
    unfold tabOf at h
    cases h1 : numsOf (x.seq.getD []) with
    | inr b => simp [h1] at h
    | inl q =>
      cases h2 : tabOf r with
      | inr b => simp [h1, h2] at h
      | inl ps =>
        simp [h1, h2] at h
        subst h
        simp [tabOf_len h2]
theorem lcR_tab {C_BadNumber C_BadTable C_TooMuch : Addr} {i : Nat} {sl : List Slot} {E : PX → List Int → Prop} {S : List Int} (hi : i < sl.length) :
    ∀ (xs : List D) (Q : List D → List Int → Prop), (∀ x ∈ xs, (∃ ys, x.seq = some ys ∧ ys.length ≤ sizeLine) ∧ ∀ y ∈ x.seq.getD [], okN y) → (match tabOf xs with | .inl qs => Q (qs.map qT) S | .inr b => E ⟨C_BadNumber, ["handed"], [b]⟩ S) →
      lcRunR i (pCall (sp_tb_numbers C_BadNumber C_BadTable C_TooMuch) (pCons (pVar i) pNil)) xs sl S Q E
  | [], Q, _, q => q
  | x :: r, Q, ok, q => by
    obtain ⟨⟨ys, hx, hl⟩, hok⟩ := ok x (by simp)
    simp only [lcRunR]
    have e : (sl.set i (.dat x))[i]? = some (.dat x) := List.getElem?_set_self hi
    simp [e]
    refine ⟨x, ys, rfl, hx, hl, ?_, ?_⟩
    · rw [hx] at hok
      exact hok
    · have e2 : x.seq.getD [] = ys := by rw [hx]; rfl
      cases h : numsOf ys with
      | inr b => simpa [tabOf, e2, h] using q
      | inl v =>
        refine lcR_tab hi r _ (fun y hy => ok y (by simp [hy])) ?_
        cases h2 : tabOf r with
        | inl qs => simpa [tabOf, e2, h, h2] using q
        | inr b => simpa [tabOf, e2, h, h2] using q
theorem isTab_rows {d : D} {n : Int} {xs : List D} (h : isTab d n = true) (hs : d.seq = some xs) (hn : n ≤ 40) : ∀ x ∈ xs, ∃ ys, x.seq = some ys ∧ ys.length ≤ sizeLine := fun x hx => by
  unfold isTab at h
  rw [hs] at h
  have := List.all_eq_true.mp h x hx
  unfold isRw at this
  have hz64 : (64 : Nat) ≤ sizeLine := by decide
  cases e : x.seq with
  | none => rw [e] at this; cases this
  | some ys =>
    rw [e] at this
    have := of_decide_eq_true this
    exact ⟨ys, rfl, by omega⟩
theorem seqD_of {d : D} {xs : List D} (h : d.seq = some xs) : ∃ k, ∀ Q : Bool → List D → Prop, seqD d Q = Q k xs := by
  cases d <;> simp [D.seq] at h <;> subst h
  · exact ⟨true, fun _ => rfl⟩
  · exact ⟨true, fun _ => rfl⟩
  · exact ⟨false, fun _ => rfl⟩
theorem colsR_len (rows : List (List Rat)) (n : Nat) : (colsR rows n).length = n := by simp [colsR]
theorem colsR_ent {rows : List (List Rat)} {n i j : Nat} (hj : j < n) (hi : i < rows.length) : ent (colsR rows n) j i = ent rows i j := by
  have e : (colsR rows n).getD j [] = rows.map fun m => rat m j := by simp [colsR, hj]
  unfold ent
  rw [e, rat_map hi]
  rfl
theorem colsR_mem {rows : List (List Rat)} {n : Nat} {P : Rat → Prop} (h : ∀ r ∈ rows, r.length = n ∧ ∀ q ∈ r, P q) : ∀ c ∈ colsR rows n, c.length = rows.length ∧ ∀ q ∈ c, P q := fun c hc => by
  obtain ⟨j, hj, rfl⟩ := List.mem_map.mp hc
  have hj := List.mem_range.mp hj
  refine ⟨by simp, fun x hx => ?_⟩
  obtain ⟨m, hm2, rfl⟩ := List.mem_map.mp hx
  obtain ⟨l1, l2⟩ := h m hm2
  exact l2 _ (rat_mem (by omega))
theorem pf_rank (C_BadNumber C_BadTable C_TooMuch : Addr) : ∀ rs S Q E, sp_rank C_BadNumber C_BadTable C_TooMuch rs S Q E → p_rank C_BadNumber C_BadTable C_TooMuch (ends Q E) (rs.map Res.slot ++ List.replicate (3 - rs.length) .un) S := by
  rintro rs S Q E ⟨d, m, rfl, hm, hd, q⟩
  have hz64 : (64 : Nat) ≤ sizeLine := by decide
  simp [p_rank]
  refine ⟨d, m, "rows", rfl, hm, hd, ?_⟩
  cases m with
  | obj c ns xs => exact hm.elim
  | int n =>
    by_cases h : n < 0
    · simp [h] at q
      simp [h]
      exact q
    · by_cases h2 : isTab d n = true
      · simp only [h, h2, if_false, if_true] at q ⊢
        cases hs : d.seq with
        | none =>
          unfold isTab at h2
          rw [hs] at h2
          cases h2
        | some xs =>
          simp only [hs] at q
          refine ⟨d, xs, n, 40, rfl, hs, ?_⟩
          obtain ⟨k1, e1⟩ := seqD_of hs
          by_cases h3 : 40 < xs.length ∨ 40 < n
          · rw [if_pos h3] at q
            rw [if_pos (by omega)]
            exact q
          · rw [if_neg h3] at q
            rw [if_neg (by omega)]
            obtain ⟨ok, q⟩ := q
            have hrow := isTab_rows h2 hs (by omega)
            simp [noOwn, e1]
            refine ⟨by omega, ?_⟩
            refine lcR_tab (by simp) xs _ (fun x hx => ⟨hrow x hx, ok x hx⟩) ?_
            cases ht : tabOf xs with
            | inr b => rw [ht] at q; exact q
            | inl rows =>
              rw [ht] at q
              obtain ⟨L, hL, hC, h66, q⟩ := q
              have hn : ((n.toNat : Nat) : Int) = n := by omega
              have := tabOf_len ht
              refine ⟨.lst (rows.map qT), rows, n.toNat, L, by rw [hn], ⟨_, .inl rfl, Py.paired_map (f := qT) (fun _ => .inl rfl) _⟩, by omega, by omega, h66, hL, hC, q⟩
      · have h2 : isTab d n = false := by simpa using h2
        simp only [h, h2, if_false, if_true] at q ⊢
        exact q
  | _ => exact q
theorem pf_number_ties (C_BadNumber C_BadTable C_TooMuch : Addr) : ∀ rs S Q E, sp_number_ties C_BadNumber C_BadTable C_TooMuch rs S Q E → p_number_ties C_BadNumber C_BadTable C_TooMuch (ends Q E) (rs.map Res.slot ++ List.replicate (4 - rs.length) .un) S := by
  rintro rs S Q E ⟨d, m, rfl, hm, hd, q⟩
  have hz64 : (64 : Nat) ≤ sizeLine := by decide
  simp [p_number_ties]
  refine ⟨d, m, "vectors", rfl, hm, hd, ?_⟩
  cases m with
  | obj c ns xs => exact hm.elim
  | int n =>
    by_cases h : n < 0
    · simp [h] at q
      simp [h]
      exact q
    · by_cases h2 : isTab d n = true
      · simp only [h, h2, if_false, if_true] at q ⊢
        cases hs : d.seq with
        | none =>
          unfold isTab at h2
          rw [hs] at h2
          cases h2
        | some xs =>
          simp only [hs] at q
          refine ⟨d, xs, n, 40, rfl, hs, ?_⟩
          obtain ⟨k1, e1⟩ := seqD_of hs
          by_cases h3 : 40 < xs.length ∨ 40 < n
          · rw [if_pos h3] at q
            rw [if_pos (by omega)]
            exact q
          · rw [if_neg h3] at q
            rw [if_neg (by omega)]
            obtain ⟨ok, q⟩ := q
            have hrow := isTab_rows h2 hs (by omega)
            simp [noOwn, e1]
            refine ⟨by omega, ?_⟩
            refine lcR_tab (by simp) xs _ (fun x hx => ⟨hrow x hx, ok x hx⟩) ?_
            cases ht : tabOf xs with
            | inr b => rw [ht] at q; exact q
            | inl rows =>
              rw [ht] at q
              obtain ⟨L, hL, hC, h66, q⟩ := q
              have hn : ((n.toNat : Nat) : Int) = n := by omega
              have := tabOf_len ht
              simp
              refine ⟨.lst (rows.map qT), rows, n.toNat, by rw [hn], ⟨_, .inl rfl, Py.paired_map (f := qT) (fun _ => .inl rfl) _⟩, by omega, by omega, fun r hr => by rw [(hC r hr).1]; exact Nat.le_refl _, ?_⟩
              simp
              refine ⟨.lst ((colsR rows n.toNat).map qT), colsR rows n.toNat, rows.length, L, rfl, ⟨_, .inl rfl, Py.paired_map (f := qT) (fun _ => .inl rfl) _⟩, by omega, by rw [colsR_len]; omega, by rw [colsR_len]; omega, hL, colsR_mem hC, fun fs k B hB => q fs k B ?_⟩
              rw [colsR_len] at hB
              exact hB.congr fun i hi => ⟨1, by decide, fun j hj => by rw [show AM (colsR rows n.toNat) i j = ent rows j i from colsR_ent hi hj]; grind⟩
      · have h2 : isTab d n = false := by simpa using h2
        simp only [h, h2, if_false, if_true] at q ⊢
        exact q
  | _ => exact q
theorem pf_solve (C_BadNumber C_BadTable C_TooMuch : Addr) : ∀ rs S Q E, sp_solve C_BadNumber C_BadTable C_TooMuch rs S Q E → p_solve C_BadNumber C_BadTable C_TooMuch (ends Q E) (rs.map Res.slot ++ List.replicate (7 - rs.length) .un) S := by
  rintro rs S Q E ⟨d, due, m, rfl, hm, hd, hdue, q⟩
  have hz64 : (64 : Nat) ≤ sizeLine := by decide
  simp [p_solve]
  refine ⟨d, m, "rows", rfl, hm, hd, ?_⟩
  cases m with
  | obj c ns xs => exact hm.elim
  | int n =>
    by_cases h : n < 0
    · simp [h] at q
      simp [h]
      exact q
    · by_cases h2 : isTab d n = true
      · simp only [h, h2, if_false, if_true] at q ⊢
        cases hs : d.seq with
        | none =>
          unfold isTab at h2
          rw [hs] at h2
          cases h2
        | some xs =>
          simp only [hs] at q
          refine ⟨d, xs, due, rfl, hs, hdue, ?_⟩
          cases hy : due.seq with
          | none => rw [hy] at q; exact q
          | some ys =>
            simp only [hy] at q ⊢
            by_cases hlen : ys.length = xs.length
            · rw [if_neg (show ¬ ys.length ≠ xs.length from fun z => z hlen)] at q
              rw [if_pos hlen]
              refine ⟨d, xs, n, 40, rfl, hs, ?_⟩
              obtain ⟨k1, e1⟩ := seqD_of hs
              by_cases h3 : 40 < xs.length ∨ 40 < n
              · rw [if_pos h3] at q
                rw [if_pos (by omega)]
                exact q
              · rw [if_neg h3] at q
                rw [if_neg (by omega)]
                obtain ⟨ok, q⟩ := q
                have hrow := isTab_rows h2 hs (by omega)
                simp [noOwn, e1]
                refine ⟨by omega, ?_⟩
                refine lcR_tab (by simp) xs _ (fun x hx => ⟨hrow x hx, ok x hx⟩) ?_
                cases ht : tabOf xs with
                | inr b => rw [ht] at q; exact q
                | inl rows =>
                  rw [ht] at q
                  obtain ⟨ok2, q⟩ := q
                  simp
                  refine ⟨due, ys, rfl, hy, by omega, ok2, ?_⟩
                  cases hg : numsOf ys with
                  | inr b => rw [hg] at q; exact q
                  | inl gs =>
                    rw [hg] at q
                    obtain ⟨L, hL, hC, hD, h66, q1, q2⟩ := q
                    have hn : ((n.toNat : Nat) : Int) = n := by omega
                    have l1 := tabOf_len ht
                    have l2 := numsOf_len hg
                    simp
                    refine ⟨.lst (rows.map qT), qT gs, rows, gs, n.toNat, L, by rw [hn], ⟨_, .inl rfl, Py.paired_map (f := qT) (fun _ => .inl rfl) _⟩, .inl rfl, by omega, by omega, by omega, by omega, hL, hC, hD, fun x fs k B B2 hS hB => ?_, fun hc => ?_⟩
                    · simp [at0, at1]
                      exact ⟨by omega, q1 x fs k B B2 hS hB⟩
                    · simp
                      refine ⟨.lst (rows.map qT), qT gs, rows, gs, n.toNat, L, by rw [hn], ⟨_, .inl rfl, Py.paired_map (f := qT) (fun _ => .inl rfl) _⟩, .inl rfl, by omega, by omega, by omega, h66, hL, hC, hD, hc, fun x B hW => ?_⟩
                      exact ⟨by show 2 ≤ sizeLine; omega, q2 x B hW⟩
            · rw [if_pos (show ys.length ≠ xs.length from hlen)] at q
              rw [if_neg hlen]
              exact q
      · have h2 : isTab d n = false := by simpa using h2
        simp only [h, h2, if_false, if_true] at q ⊢
        exact q
  | _ => exact q
end K05
end
section
set_option Elab.async false
set_option linter.all false
set_option maxRecDepth 100000
namespace K05
open PySem L2 Py LA
def t__law_judged_8 (C_BadNumber C_BadTable C_TooMuch : Addr) : PSm := pSeq (pRet (pC (.str "none"))) (pNext)
def t__law_judged_7 (C_BadNumber C_BadTable C_TooMuch : Addr) : PSm := pSeq (pIf (pOr (pTst (pBin fNe (pCall sp__law_mix (pCons (pIx (pQVar 6) (pC (.int 1))) (pCons (pVar 1) (pCons (pVar 3) (pNil))))) (pBin fMul (pLst (pCons (pTup (pCons (pC (.int 0)) (pCons (pC (.int 1)) (pNil)))) (pNil))) (pVar 3)))) (pTst (pBin fNe (pCall sp__law_dot (pCons (pIx (pQVar 6) (pC (.int 1))) (pCons (pVar 2) (pNil)))) (pTup (pCons (pC (.int 1)) (pCons (pC (.int 1)) (pNil))))))) (pSeq (pRet (pC .non)) (pNext)) (pNext)) (t__law_judged_8 C_BadNumber C_BadTable C_TooMuch)
def t__law_judged_12 (C_BadNumber C_BadTable C_TooMuch : Addr) : PSm := pSeq (pRet (pC (.str "all"))) (pNext)
def t__law_judged_11 (C_BadNumber C_BadTable C_TooMuch : Addr) : PSm := pSeq (pIf (pNotT (pTst (pCall sp__law_is_base (pCons (pIx (pQVar 6) (pC (.int 2))) (pCons (pVar 1) (pCons (pVar 3) (pCons (pBin fSub (pVar 3) (pVar 7)) (pNil)))))))) (pSeq (pRet (pC .non)) (pNext)) (pNext)) (t__law_judged_12 C_BadNumber C_BadTable C_TooMuch)
def t__law_judged_10 (C_BadNumber C_BadTable C_TooMuch : Addr) : PSm := pSeq (pFor (pRng1 (pCons (pLen (pQVar 1)) (pNil))) (pgName 9) (pSeq (pIf (pTst (pBin fNe (pCall sp__law_dot (pCons (pIx (pQVar 1) (pVar 9)) (pCons (pIx (pQVar 6) (pC (.int 1))) (pNil)))) (pIx (pQVar 2) (pVar 9)))) (pSeq (pRet (pC .non)) (pNext)) (pNext)) (pNext))) (t__law_judged_11 C_BadNumber C_BadTable C_TooMuch)
def t__law_judged_9 (C_BadNumber C_BadTable C_TooMuch : Addr) : PSm := pSeq (pIf (pOr (pTst (pBin fNe (pIx (pQVar 6) (pC (.int 0))) (pC (.str "all")))) (pOr (pTst (pBin fNe (pLen (pQVar 6)) (pC (.int 3)))) (pNotT (pTst (pCall sp__law_is_row (pCons (pIx (pQVar 6) (pC (.int 1))) (pCons (pVar 3) (pNil)))))))) (pSeq (pRet (pC .non)) (pNext)) (pNext)) (t__law_judged_10 C_BadNumber C_BadTable C_TooMuch)
def t__law_judged_6 (C_BadNumber C_BadTable C_TooMuch : Addr) : PSm := pSeq (pFrz 8 (pIf (pTst (pBin fGt (pCall sp__law_rank (pCons (pVar 8) (pCons (pBin fAdd (pVar 3) (pC (.int 1))) (pNil)))) (pVar 7))) (pSeq (pIf (pOr (pTst (pBin fNe (pIx (pQVar 6) (pC (.int 0))) (pC (.str "none")))) (pOr (pTst (pBin fNe (pLen (pQVar 6)) (pC (.int 2)))) (pNotT (pTst (pCall sp__law_is_row (pCons (pIx (pQVar 6) (pC (.int 1))) (pCons (pLen (pQVar 1)) (pNil)))))))) (pSeq (pRet (pC .non)) (pNext)) (pNext)) (t__law_judged_7 C_BadNumber C_BadTable C_TooMuch)) (pNext))) (t__law_judged_9 C_BadNumber C_BadTable C_TooMuch)
def t__law_judged_5 (C_BadNumber C_BadTable C_TooMuch : Addr) : PSm := pSeq (pIf (pOr (pNotT (pTst (pIsi "tuple" (pVar 6)))) (pOr (pTst (pBin fLt (pLen (pQVar 6)) (pC (.int 2)))) (pNotT (pTst (pIsi "str" (pIx (pQVar 6) (pC (.int 0)))))))) (pSeq (pRet (pC .non)) (pNext)) (pNext)) (t__law_judged_6 C_BadNumber C_BadTable C_TooMuch)
def t__law_judged_4 (C_BadNumber C_BadTable C_TooMuch : Addr) : PSm := pSeq (pAsg (pLc 9 (pRng1 (pCons (pLen (pQVar 1)) (pNil))) (pYes) (pBin fAdd (pIx (pQVar 1) (pVar 9)) (pLst (pCons (pIx (pQVar 2) (pVar 9)) (pNil))))) (pgName 8)) (t__law_judged_5 C_BadNumber C_BadTable C_TooMuch)
def t__law_judged_3 (C_BadNumber C_BadTable C_TooMuch : Addr) : PSm := pSeq (pAsg (pCall sp__law_rank (pCons (pVar 1) (pCons (pVar 3) (pNil)))) (pgName 7)) (t__law_judged_4 C_BadNumber C_BadTable C_TooMuch)
def t__law_judged_2 (C_BadNumber C_BadTable C_TooMuch : Addr) : PSm := pSeq (pFrz 4 (pAsg (pCall (sp_solve C_BadNumber C_BadTable C_TooMuch) (pCons (pVar 4) (pCons (pVar 5) (pCons (pVar 3) (pNil))))) (pgName 6))) (t__law_judged_3 C_BadNumber C_BadTable C_TooMuch)
def t__law_judged_1 (C_BadNumber C_BadTable C_TooMuch : Addr) : PSm := pSeq (pAsg (pIx (pQOf (pCall sp__law_handed (pCons (pVar 0) (pCons (pLst (pCons (pVar 2) (pNil))) (pNil))))) (pC (.int 0))) (pgName 5)) (t__law_judged_2 C_BadNumber C_BadTable C_TooMuch)
theorem e__law_judged (C_BadNumber C_BadTable C_TooMuch : Addr) : p__law_judged C_BadNumber C_BadTable C_TooMuch = pSeq (pAsg (pCall sp__law_handed (pCons (pVar 0) (pCons (pVar 1) (pNil)))) (pgName 4)) (t__law_judged_1 C_BadNumber C_BadTable C_TooMuch) := rfl
def t__law_counted_6 (C_BadNumber C_BadTable C_TooMuch : Addr) : PSm := pSeq (pRet (pAndV (pBin fEq (pCall (sp_rank C_BadNumber C_BadTable C_TooMuch) (pCons (pLst (pNil)) (pCons (pVar 2) (pNil)))) (pC (.int 0))) (pBin fEq (pCall (sp_number_ties C_BadNumber C_BadTable C_TooMuch) (pCons (pTup (pNil)) (pCons (pVar 2) (pNil)))) (pTup (pNil))))) (pNext)
def t__law_counted_5 (C_BadNumber C_BadTable C_TooMuch : Addr) : PSm := pSeq (pIf (pNotT (pTst (pCall sp__law_is_base (pCons (pVar 6) (pCons (pCall sp__law_turned (pCons (pVar 1) (pCons (pVar 2) (pNil)))) (pCons (pLen (pQVar 1)) (pCons (pBin fSub (pLen (pQVar 1)) (pVar 3)) (pNil)))))))) (pSeq (pRet (pC (.bl false))) (pNext)) (pNext)) (t__law_counted_6 C_BadNumber C_BadTable C_TooMuch)
def t__law_counted_4 (C_BadNumber C_BadTable C_TooMuch : Addr) : PSm := pSeq (pFrz 4 (pAsg (pCall (sp_number_ties C_BadNumber C_BadTable C_TooMuch) (pCons (pVar 4) (pCons (pVar 2) (pNil)))) (pgName 6))) (t__law_counted_5 C_BadNumber C_BadTable C_TooMuch)
def t__law_counted_3 (C_BadNumber C_BadTable C_TooMuch : Addr) : PSm := pSeq (pIf (pOr (pNotT (pTst (pCall sp__law_int (pCons (pVar 5) (pNil))))) (pTst (pBin fNe (pVar 5) (pVar 3)))) (pSeq (pRet (pC (.bl false))) (pNext)) (pNext)) (t__law_counted_4 C_BadNumber C_BadTable C_TooMuch)
def t__law_counted_2 (C_BadNumber C_BadTable C_TooMuch : Addr) : PSm := pSeq (pFrz 4 (pAsg (pCall (sp_rank C_BadNumber C_BadTable C_TooMuch) (pCons (pVar 4) (pCons (pVar 2) (pNil)))) (pgName 5))) (t__law_counted_3 C_BadNumber C_BadTable C_TooMuch)
def t__law_counted_1 (C_BadNumber C_BadTable C_TooMuch : Addr) : PSm := pSeq (pAsg (pCall sp__law_handed (pCons (pVar 0) (pCons (pVar 1) (pNil)))) (pgName 4)) (t__law_counted_2 C_BadNumber C_BadTable C_TooMuch)
theorem e__law_counted (C_BadNumber C_BadTable C_TooMuch : Addr) : p__law_counted C_BadNumber C_BadTable C_TooMuch = pSeq (pAsg (pCall sp__law_rank (pCons (pVar 1) (pCons (pVar 2) (pNil)))) (pgName 3)) (t__law_counted_1 C_BadNumber C_BadTable C_TooMuch) := rfl
def t_law_14 : PSm := pSeq (pRet (pCall0 sp__law_refused)) (pNext)
def t_law_13 : PSm := pSeq (pFrz 3 (pIf (pNotT (pTst (pCall sp__law_counted (pCons (pVar 1) (pCons (pVar 3) (pCons (pVar 2) (pNil))))))) (pSeq (pRet (pC (.bl false))) (pNext)) (pNext))) t_law_14
def t_law_12 : PSm := pSeq (pFrz 3 (pFrz 9 (pIf (pTst (pBin fIsN (pCall sp__law_judged (pCons (pVar 1) (pCons (pVar 3) (pCons (pVar 9) (pCons (pVar 2) (pNil)))))) (pC .non))) (pSeq (pRet (pC (.bl false))) (pNext)) (pNext)))) t_law_13
def t_law_11 : PSm := pSeq (pFrz 3 (pAsg (pLc 11 (pISeq (pVar 3)) (pYes) (pCall sp__law_drawn (pCons (pVar 1) (pNil)))) (pgName 9))) t_law_12
def t_law_10 : PSm := pSeq (pFrz 3 (pFrz 7 (pIf (pTst (pBin fNe (pCall sp__law_judged (pCons (pVar 1) (pCons (pVar 3) (pCons (pVar 7) (pCons (pVar 2) (pNil)))))) (pC (.str "none")))) (pSeq (pRet (pC (.bl false))) (pNext)) (pNext)))) t_law_11
def t_law_9 : PSm := pSeq (pAsg (pCall sp__law_nplus (pCons (pIx (pQVar 7) (pVar 8)) (pCons (pTup (pCons (pBin fAdd (pC (.int 1)) (pCall sp__law_next (pCons (pVar 1) (pCons (pC (.int 5)) (pNil))))) (pCons (pBin fAdd (pC (.int 1)) (pCall sp__law_next (pCons (pVar 1) (pCons (pC (.int 2)) (pNil))))) (pNil)))) (pNil)))) (pgSub 7 (pVar 8))) t_law_10
def t_law_8 : PSm := pSeq (pAsg (pBin fSub (pLen (pQVar 7)) (pC (.int 1))) (pgName 8)) t_law_9
def t_law_7 : PSm := pSeq (pFrz 6 (pAsg (pLc 12 (pISeq (pVar 6)) (pYes) (pVar 12)) (pgName 7))) t_law_8
def t_law_6 : PSm := pSeq (pFrz 3 (pFrz 6 (pIf (pTst (pBin fNe (pCall sp__law_judged (pCons (pVar 1) (pCons (pVar 3) (pCons (pVar 6) (pCons (pVar 2) (pNil)))))) (pC (.str "all")))) (pSeq (pRet (pC (.bl false))) (pNext)) (pNext)))) t_law_7
def t_law_5 : PSm := pSeq (pFrz 4 (pFrz 3 (pAsg (pLc 11 (pISeq (pVar 3)) (pYes) (pCall sp__law_dot (pCons (pVar 11) (pCons (pVar 4) (pNil))))) (pgName 6)))) t_law_6
def t_law_4 : PSm := pSeq (pFrz 5 (pApp 3 (pLend 3 (pCall sp__law_mix (pCons (pVar 5) (pCons (pVar 3) (pCons (pVar 2) (pNil)))))))) t_law_5
def t_law_3 : PSm := pSeq (pAsg (pLc 10 (pRng1 (pCons (pLen (pQVar 3)) (pNil))) (pYes) (pTup (pCons (pBin fSub (pCall sp__law_next (pCons (pVar 1) (pCons (pC (.int 5)) (pNil)))) (pC (.int 2))) (pCons (pC (.int 1)) (pNil))))) (pgName 5)) t_law_4
def t_law_2 : PSm := pSeq (pAsg (pLc 10 (pRng1 (pCons (pVar 2) (pNil))) (pYes) (pCall sp__law_drawn (pCons (pVar 1) (pNil)))) (pgName 4)) t_law_3
def t_law_1 : PSm := pSeq (pAsg (pCall sp__law_rows (pCons (pVar 1) (pCons (pVar 2) (pNil)))) (pgName 3)) t_law_2
theorem e_law : p_law = pStrm 1 (pCall sp__law_stream (pCons (pVar 0) (pNil))) (pSeq (pAsg (pCall sp__law_next (pCons (pVar 1) (pCons (pC (.int 6)) (pNil)))) (pgName 2)) t_law_1) := rfl
def t__law_refused_6 : PSm := pSeq (pIf (pTst (pBin fNe (pCall sp__law_much (pCons (pVar 1) (pCons (pC (.int 41)) (pNil)))) (pLst (pCons (pTup (pCons (pC (.str "table")) (pCons (pC (.int 40)) (pNil)))) (pCons (pC .non) (pNil)))))) (pSeq (pRet (pC (.bl false))) (pNext)) (pNext)) (pNext)
def t__law_refused_7 : PSm := pSeq (pRet (pC (.bl true))) (pNext)
def t__law_refused_5 : PSm := pSeq (pFor (pRng1 (pCons (pC (.int 3)) (pNil))) (pgName 1) (pSeq (pIf (pTst (pBin fNe (pCall sp__law_much (pCons (pVar 1) (pCons (pC (.int 40)) (pNil)))) (pLst (pCons (pC .non) (pCons (pIx (pQOf (pLst (pCons (pC (.int 1)) (pCons (pC (.int 0)) (pCons (pC (.int 0)) (pNil)))))) (pVar 1)) (pNil)))))) (pSeq (pRet (pC (.bl false))) (pNext)) (pNext)) t__law_refused_6)) t__law_refused_7
def t__law_refused_4 : PSm := pSeq (pIf (pOr (pTst (pBin fNe (pLen (pQVar 2)) (pC (.int 1)))) (pTst (pBin fNotB (pIx (pQVar 2) (pC (.int 0))) (pC (.bl true))))) (pSeq (pRet (pC (.bl false))) (pNext)) (pNext)) t__law_refused_5
def t__law_refused_3 : PSm := pSeq (pAsg (pCall sp__law_bad_value (pCons (pC (.int 2)) (pNil))) (pgName 2)) t__law_refused_4
def t__law_refused_2 : PSm := pSeq (pIf (pOr (pTst (pBin fNe (pCall sp__law_bad_value (pCons (pC (.int 0)) (pNil))) (pLst (pCons (pTup (pCons (pC (.int 1)) (pCons (pC (.int 0)) (pNil)))) (pNil))))) (pOr (pTst (pBin fNe (pCall sp__law_bad_value (pCons (pC (.int 1)) (pNil))) (pLst (pCons (pC .non) (pNil))))) (pTst (pBin fNe (pCall sp__law_bad_value (pCons (pC (.int 3)) (pNil))) (pLst (pCons (pTup (pCons (pC (.int 1)) (pCons (pNeg (pC (.int 2))) (pNil)))) (pNil))))))) (pSeq (pRet (pC (.bl false))) (pNext)) (pNext)) t__law_refused_3
def t__law_refused_1 : PSm := pSeq (pFor (pRng1 (pCons (pC (.int 8)) (pNil))) (pgName 1) (pSeq (pIf (pTst (pBin fNe (pCall sp__law_word (pCons (pVar 1) (pNil))) (pIx (pQVar 0) (pVar 1)))) (pSeq (pRet (pC (.bl false))) (pNext)) (pNext)) (pNext))) t__law_refused_2
theorem e__law_refused : p__law_refused = pSeq (pAsg (pLst (pCons (pC (.str "many")) (pCons (pC (.str "many")) (pCons (pC (.str "rows")) (pCons (pC (.str "due")) (pCons (pC (.str "rows")) (pCons (pC (.str "vectors")) (pCons (pC (.str "many")) (pCons (pC (.str "due")) (pNil)))))))))) (pgName 0)) t__law_refused_1 := rfl
end K05
end
section
set_option Elab.async false
set_option linter.all false
set_option maxRecDepth 100000
namespace K05
open PySem L2 Py LA
theorem fits_lq {z : Int} (h : z.natAbs < 2 ^ 300) : fits z := fits_sz (b := 300) h (by decide)
theorem numOf_hq {y : D} {q : Rat} (h : HQ y q) : numOf y = some q := by
  have d0 : 0 < q.den := Nat.pos_of_ne_zero q.den_nz
  have e : Rat.divInt q.num q.den = q := Rat.num_divInt_den q
  rcases h with ⟨h1, rfl⟩ | rfl | rfl
  · have : ((q.num : Int) : Rat) = q := by
      have e2 := e
      rw [h1, Rat.divInt_eq_div] at e2
      have one : (((1 : Nat) : Int) : Rat) = 1 := rfl
      rw [one] at e2
      grind
    simp [numOf, this]
  · have h6 : (1 : Int) ≤ (q.den : Int) * 6 := by omega
    have : Rat.divInt (q.num * 6) ((q.den : Int) * 6) = q := by
      rw [Rat.divInt_mul_right (by decide)]
      exact e
    simp [numOf, h6, this]
  · have h6 : (1 : Int) ≤ (q.den : Int) := by omega
    simp [numOf, nD, h6, e]
theorem okN_hq {y : D} {q : Rat} (h : HQ y q) (hq : LQ q) : okN y := by
  have dle : q.den ≤ 36 := Nat.le_of_dvd (by decide) hq.1
  have a := hq.2
  have p1 : (2 : Nat) ^ 285 * 6 < 2 ^ 300 := by decide
  have p2 : (216 : Nat) < 2 ^ 300 := by decide
  have f1 : fits (q.num * 6) := fits_lq (by
    have : Int.natAbs 6 = 6 := rfl
    rw [Int.natAbs_mul, this]
    omega)
  have f2 : fits ((q.den : Int) * 6) := fits_lq (by omega)
  have f3 : fits q.num := fits_lq (by omega)
  have f4 : fits (q.den : Int) := fits_lq (by omega)
  rcases h with ⟨h1, rfl⟩ | rfl | rfl
  · trivial
  · intro x hx
    rcases List.mem_cons.mp hx with z | z
    · rw [z]; exact f1
    · have : x = .int ((q.den : Int) * 6) := by simpa using z
      rw [this]; exact f2
  · intro x hx
    rcases List.mem_cons.mp hx with z | z
    · rw [z]; exact f3
    · have : x = .int (q.den : Int) := by simpa using z
      rw [this]; exact f4
theorem numsOf_hq {ys : List D} {r : List Rat} (h : Paired HQ ys r) : numsOf ys = .inl r := by
  induction h with
  | nil => rfl
  | cons h1 _ ih => simp [numsOf, numOf_hq h1, ih]
theorem okNs_hq {ys : List D} {r : List Rat} (h : Paired HQ ys r) (hq : ∀ q ∈ r, LQ q) : ∀ y ∈ ys, okN y := by
  induction h with
  | nil => intro y hy; cases hy
  | cons h1 _ ih =>
    intro y hy
    rcases List.mem_cons.mp hy with z | z
    · rw [z]; exact okN_hq h1 (hq _ (by simp))
    · exact ih (fun q h => hq q (by simp [h])) y z
theorem hrow_seq {x : D} {r : List Rat} (h : HRow x r) : noObj x ∧ ∃ ys, x.seq = some ys ∧ Paired HQ ys r := by
  obtain ⟨ys, rfl | rfl, hp⟩ := h
  · exact ⟨trivial, ys, rfl, hp⟩
  · exact ⟨trivial, ys, rfl, hp⟩
theorem tab_hq {ls : List D} {M : List (List Rat)} (h : Paired HRow ls M) : tabOf ls = .inl M := by
  induction h with
  | nil => rfl
  | cons h1 _ ih =>
    obtain ⟨_, ys, hs, hp⟩ := hrow_seq h1
    simp [tabOf, hs, numsOf_hq hp, ih]
theorem tab_facts {ls : List D} {M : List (List Rat)} {n : Nat} (h : Paired HRow ls M) (hM : LT n M) : (∀ x ∈ ls, noObj x) ∧ ls.all (isRw n) = true ∧ okR ls := by
  induction h with
  | nil => exact ⟨fun x hx => (by cases hx), rfl, fun x hx => (by cases hx)⟩
  | cons h1 _ ih =>
    obtain ⟨no, ys, hs, hp⟩ := hrow_seq h1
    obtain ⟨a, b, c⟩ := ih fun r hr => hM r (by simp [hr])
    obtain ⟨l1, l2⟩ := hM _ List.mem_cons_self
    have hl := Paired.length hp
    refine ⟨fun x hx => ?_, ?_, fun x hx => ?_⟩
    · rcases List.mem_cons.mp hx with z | z
      · rw [z]; exact no
      · exact a x z
    · rw [List.all_cons, b, Bool.and_true]
      unfold isRw
      rw [hs]
      exact decide_eq_true (by omega)
    · rcases List.mem_cons.mp hx with z | z
      · rw [z, hs]
        exact okNs_hq hp l2
      · exact c x z
theorem lq_cq {q : Rat} (h : LQ q) : CQ 36 q := by
  refine ⟨h.1, ?_⟩
  have := h.2
  have p : (2 : Nat) ^ 285 * 36 < 2 ^ 300 := by decide
  omega
theorem lq_36 : LOk 36 := ⟨by decide, by decide⟩
theorem lt_ct {n : Nat} {M : List (List Rat)} (h : LT n M) : CT 36 n M := fun r hr => ⟨(h r hr).1, fun q hq => lq_cq ((h r hr).2 q hq)⟩
/-- what a handed table is -/
structure Hand (d : D) (ls : List D) (M : List (List Rat)) (n : Nat) : Prop where
  seq : d.seq = some ls
  ok : okT d
  tab : isTab d n = true
  okr : okR ls
  of : tabOf ls = .inl M
  len : ls.length = M.length
theorem hand_mk {d : D} {ls : List D} {M : List (List Rat)} {n : Nat} (hd : d = .tup ls ∨ d = .lst ls) (h : Paired HRow ls M) (hM : LT n M) : Hand d ls M n := by
  obtain ⟨a, b, c⟩ := tab_facts h hM
  rcases hd with rfl | rfl
  · exact ⟨rfl, ⟨trivial, fun xs e x hx => by cases e; exact a x hx⟩, b, c, tab_hq h, Paired.length h⟩
  · exact ⟨rfl, ⟨trivial, fun xs e x hx => by cases e; exact a x hx⟩, b, c, tab_hq h, Paired.length h⟩
theorem hand_solve {C1 C2 C3 : Addr} {d y : D} {ls : List D} {rows : List (List Rat)} {due : List Rat} {n : Nat} {S : List Int} {Q : Res → List Int → Prop} {E : PX → List Int → Prop} (h : Hand d ls rows n) (hM : LT n rows) (hy : HRow y due) (hl : due.length = rows.length) (hD : ∀ q ∈ due, LQ q) (h6 : rows.length ≤ 6) (hn : n ≤ 5)
    (q1 : ∀ x fs k B B', Sol rows.length n (AM rows) (rat due) x B → Bas rows.length n (AM rows) fs k B' → Q (.dat (.tup [.str "all", qT x, .tup (fs.map qT)])) S)
    (q2 : ∀ x B, Wgt rows.length n (AM rows) (rat due) x B → Q (.dat (.tup [.str "none", qT x])) S) : sp_solve C1 C2 C3 [.dat d, .dat y, .dat (.int n)] S Q E := by
  obtain ⟨no, ys, hs, hp⟩ := hrow_seq hy
  have l1 := Paired.length hp
  have l2 := h.len
  refine ⟨d, y, .int n, rfl, trivial, h.ok, no, ?_⟩
  show if (n : Int) < 0 then _ else _
  rw [if_neg (by omega), if_neg (by rw [h.tab]; decide)]
  rw [h.seq, hs]
  show if ys.length ≠ ls.length then _ else _
  rw [if_neg (by omega), if_neg (by omega)]
  refine ⟨h.okr, ?_⟩
  rw [h.of]
  refine ⟨okNs_hq hp hD, ?_⟩
  rw [numsOf_hq hp]
  exact ⟨36, lq_36, by simpa using lt_ct hM, fun q hq => lq_cq (hD q hq), .inl h6, by simpa using q1, by simpa using q2⟩
theorem hand_rank {C1 C2 C3 : Addr} {d : D} {ls : List D} {rows : List (List Rat)} {n : Nat} {S : List Int} {Q : Res → List Int → Prop} {E : PX → List Int → Prop} (h : Hand d ls rows n) (hM : LT n rows) (h6 : rows.length ≤ 6) (hn : n ≤ 5)
    (q1 : ∀ k, Rk rows.length n (AM rows) k → Q (.dat (.int k)) S) : sp_rank C1 C2 C3 [.dat d, .dat (.int n)] S Q E := by
  have l2 := h.len
  refine ⟨d, .int n, rfl, trivial, h.ok, ?_⟩
  show if (n : Int) < 0 then _ else _
  rw [if_neg (by omega), if_neg (by rw [h.tab]; decide)]
  rw [h.seq]
  show if 40 < ls.length ∨ 40 < (n : Int) then _ else _
  rw [if_neg (by omega)]
  refine ⟨h.okr, ?_⟩
  rw [h.of]
  exact ⟨36, lq_36, by simpa using lt_ct hM, .inl h6, by simpa using q1⟩
theorem hand_ties {C1 C2 C3 : Addr} {d : D} {ls : List D} {rows : List (List Rat)} {n : Nat} {S : List Int} {Q : Res → List Int → Prop} {E : PX → List Int → Prop} (h : Hand d ls rows n) (hM : LT n rows) (h6 : rows.length ≤ 6) (hn : n ≤ 5)
    (q1 : ∀ fs k B, Bas n rows.length (fun i j => AM rows j i) fs k B → Q (.dat (.tup (fs.map qT))) S) : sp_number_ties C1 C2 C3 [.dat d, .dat (.int n)] S Q E := by
  have l2 := h.len
  refine ⟨d, .int n, rfl, trivial, h.ok, ?_⟩
  show if (n : Int) < 0 then _ else _
  rw [if_neg (by omega), if_neg (by rw [h.tab]; decide)]
  rw [h.seq]
  show if 40 < ls.length ∨ 40 < (n : Int) then _ else _
  rw [if_neg (by omega)]
  refine ⟨h.okr, ?_⟩
  rw [h.of]
  exact ⟨36, lq_36, by simpa using lt_ct hM, .inl h6, by simpa using q1⟩
end K05
end
section
set_option Elab.async false
set_option linter.all false
set_option maxRecDepth 100000
namespace K05
open PySem L2 Py LA
theorem rank_ok {d : D} {M : List (List Rat)} {many : Nat} {S : List Int} {Q : Res → List Int → Prop} {E : PX → List Int → Prop} (h : isMat d M) (h1 : many ≤ 6) (h2 : M.length ≤ 6) (hM : LT many M) (q : ∀ k, Rk M.length many (AM M) k → Q (.dat (.int k)) S) : sp__law_rank [.dat d, .dat (.int many)] S Q E :=
  ⟨d, M, many, 36, rfl, h, by omega, by omega, by omega, by decide, Nat.lt_of_lt_of_le (by decide : 36 < 2 ^ 6) (Nat.pow_le_pow_right (by decide) (by decide)), fun r hr => ⟨(hM r hr).1, fun x hx => ⟨((hM r hr).2 x hx).1, Nat.lt_of_lt_of_le ((hM r hr).2 x hx).2 (Nat.pow_le_pow_right (by decide) (by decide))⟩⟩, q⟩
/-- the wide table of the law -/
def wideR (rows : List (List Rat)) (due : List Rat) : List (List Rat) := (List.range rows.length).map fun i => rows.getD i [] ++ [rat due i]
theorem wideR_len (rows : List (List Rat)) (due : List Rat) : (wideR rows due).length = rows.length := by simp [wideR]
theorem wideR_get {rows : List (List Rat)} {due : List Rat} {i : Nat} (h : i < rows.length) : (wideR rows due).getD i [] = rows.getD i [] ++ [rat due i] := by simp [wideR, h]
theorem wideR_lt {rows : List (List Rat)} {due : List Rat} {n : Nat} (hl : due.length = rows.length) (hM : LT n rows) (hD : ∀ q ∈ due, LQ q) : LT (n + 1) (wideR rows due) := fun r hr => by
  obtain ⟨i, hi, rfl⟩ := List.mem_map.mp hr
  have hi := List.mem_range.mp hi
  have e : rows.getD i [] = rows[i] := by simp [hi]
  obtain ⟨l1, l2⟩ := hM _ (List.getElem_mem hi)
  rw [e]
  refine ⟨by simp [l1], fun x hx => ?_⟩
  rcases List.mem_append.mp hx with z | z
  · exact l2 x z
  · have : x = rat due i := by simpa using z
    rw [this]
    exact hD _ (rat_mem (by omega))
theorem wideR_ent {rows : List (List Rat)} {due : List Rat} {n i j : Nat} (hM : LT n rows) (hi : i < rows.length) (hj : j < n) : ent (wideR rows due) i j = ent rows i j := by
  have e : rows.getD i [] = rows[i] := by simp [hi]
  have l1 := (hM _ (List.getElem_mem hi)).1
  unfold ent
  rw [wideR_get hi]
  unfold rat
  rw [List.getD_eq_getElem?_getD, List.getElem?_append_left (by rw [e]; omega)]
  simp
theorem wideR_due {rows : List (List Rat)} {due : List Rat} {n i : Nat} (hM : LT n rows) (hi : i < rows.length) : ent (wideR rows due) i n = rat due i := by
  have e : rows.getD i [] = rows[i] := by simp [hi]
  have l1 := (hM _ (List.getElem_mem hi)).1
  unfold ent
  rw [wideR_get hi, rat, List.getD_eq_getElem?_getD, List.getElem?_append_right (by rw [e]; omega), e, l1, Nat.sub_self]
  rfl
theorem at02 (a b c : D) : atI [a, b, c] 0 = some a := rfl
theorem at12 (a b c : D) : atI [a, b, c] 1 = some b := rfl
theorem at22 (a b c : D) : atI [a, b, c] 2 = some c := rfl
theorem shp_str (s : Str) (h : (D.str s).py.canLay0 = true) : shp (.str s) := ⟨rfl, by
  show (_ && decide (PyData.depth _ ≤ 64)) = true
  rw [h]; rfl⟩
theorem shp_none : shp (.str "none") := ⟨rfl, by decide +kernel⟩
theorem shp_all : shp (.str "all") := ⟨rfl, by decide +kernel⟩
section
variable {C_BadNumber C_BadTable C_TooMuch : Addr} {rows : List (List Rat)} {due : List Rat} {n : Nat} {Q : Res → List Int → Prop} {E : PX → List Int → Prop}
/-- the weights -/
theorem judged_none (hdl : due.length = rows.length) (h6 : rows.length ≤ 6) (hn : n ≤ 5) (hM : LT n rows) (hD : ∀ q ∈ due, LQ q) {x : List Rat} {B : Nat} (hW : Wgt rows.length n (AM rows) (rat due) x B) {S : List Int} {s4 s5 s7 s8 s9 : Slot} {P : PEnds} (hP : P.rt = Q) (q : Q (.dat (.str "none")) S) :
    t__law_judged_7 C_BadNumber C_BadTable C_TooMuch P [.drw, .dat (.lst (rows.map qL)), .dat (qL due), .dat (.int n), s4, s5, .dat (.tup [.str "none", qT x]), s7, s8, s9] S := by
  have hz64 : (64 : Nat) ≤ sizeLine := by decide
  have isr : isMat (.lst (rows.map qL)) rows := ⟨_, .inl rfl, Py.paired_map (f := qL) (fun _ => .inr rfl) _⟩
  have l := lq_L hW.pos hW.low
  have nn : 2 ^ 2420 * 2 ^ 285 < 2 ^ 50000 := by rw [Nat.mul_comm]; exact lq_N
  have hl := hW.len
  unfold t__law_judged_7
  simp [at1]
  refine ⟨qT x, .lst (rows.map qL), x, rows, n, 3000, 2 ^ 2420 * 2 ^ 285, 36 * B, rfl, .inl rfl, isr, by omega, by omega, by omega, fun m hm => by rw [(hM m hm).1]; exact Nat.le_refl _, by decide, l.1, l.2, nn, fun i j hi hj => ?_, ?_⟩
  · have a := hW.ts _ (rat_mem hi)
    obtain ⟨m, hm, e⟩ := ent_mem (M := rows) (i := i) (j := j) (by omega)
    obtain ⟨l1, l2⟩ := hM m hm
    have b := l2 _ (rat_mem (show j < m.length by omega))
    rw [e]
    exact ⟨(ts_sq hW.pos hW.low a).1, (lq_sq b).1, by rw [Nat.mul_comm]; exact Nat.mul_dvd_mul b.1 a.1, vb_mul (ts_sq hW.pos hW.low a).2 (lq_sq b).2⟩
  · have e : mixR x rows n = List.replicate n 0 := by
      refine List.eq_replicate_iff.mpr ⟨by simp [mixR], fun y hy => ?_⟩
      obtain ⟨j, hj, rfl⟩ := List.mem_map.mp hy
      have := hW.zero j (List.mem_range.mp hj)
      rw [← hl] at this
      exact this
    rw [e]
    have e2 : (List.replicate n (0 : Rat)).map nD = List.replicate n (D.tup [.int 0, .int 1]) := by
      rw [List.map_replicate]; rfl
    simp
    have s0 : shp (D.lst (List.replicate n (nD 0))) := by
      have := shp_row (List.replicate n 0)
      unfold qL at this
      rw [List.map_replicate] at this
      exact this
    refine ⟨by omega, by omega, by omega, fNe_self s0 ?_⟩
    simp
    refine dot_ok2 (r := due) (x := x) (B := B) (.inl rfl) (.inr rfl) (by omega) (by omega) hD hW.pos hW.low hW.ts ?_
    have d1 : dotR x due = 1 := by
      have := hW.one
      rw [← hl] at this
      exact this
    rw [d1]
    refine ⟨by omega, fNe_self (shp_nD 1) ?_⟩
    simp [t__law_judged_8]
    rw [hP]
    exact q
/-- one answer and a base -/
theorem judged_all (hdl : due.length = rows.length) (h6 : rows.length ≤ 6) (hn : n ≤ 5) (hM : LT n rows) (hD : ∀ q ∈ due, LQ q) {x : List Rat} {fs : List (List Rat)} {B B2 k k2 : Nat} (hS : Sol rows.length n (AM rows) (rat due) x B) (hB : Bas rows.length n (AM rows) fs k B2) (hk : Rk rows.length n (AM rows) k2) {S : List Int} {s4 s5 s8 s9 : Slot} (q : Q (.dat (.str "all")) S) :
    t__law_judged_9 C_BadNumber C_BadTable C_TooMuch (ends Q E) [.drw, .dat (.lst (rows.map qL)), .dat (qL due), .dat (.int n), s4, s5, .dat (.tup [.str "all", qT x, .tup (fs.map qT)]), .dat (.int k2), s8, s9] S := by
  have hz64 : (64 : Nat) ≤ sizeLine := by decide
  have isr : isMat (.lst (rows.map qL)) rows := ⟨_, .inl rfl, Py.paired_map (f := qL) (fun _ => .inr rfl) _⟩
  have hl := hS.len
  unfold t__law_judged_9
  simp [at12, at02]
  refine fNe_self shp_all ?_
  simp
  refine ⟨x, 3000, n, rfl, by omega, fun y hy => (ts_sq hS.pos hS.low (hS.ts y hy)).1, by decide, ?_⟩
  simp
  unfold t__law_judged_10
  simp
  refine ⟨sm62_nat (by omega), ?_⟩
  refine for_ind (fun i sl S' => S' = S ∧ ∃ s9, sl = [.drw, .dat (.lst (rows.map qL)), .dat (qL due), .dat (.int n), s4, s5, .dat (.tup [.str "all", qT x, .tup (fs.map qT)]), .dat (.int k2), s8, s9]) ⟨rfl, _, rfl⟩ ?_ ?_
  · rintro i d sl S' N hi ⟨rfl, s9, rfl⟩ hN
    obtain ⟨hil, rfl⟩ := rng_get hi
    have e1 : atI (rows.map qL) (i : Int) = some (qL rows[i]) := at_nat (by rw [List.getElem?_map, List.getElem?_eq_getElem hil]; rfl)
    have e2 := at_row (r := due) (i := i) (by omega)
    obtain ⟨l1, l2⟩ := hM _ (List.getElem_mem hil)
    simp [e1, at12]
    refine dot_ok (r := rows[i]) (x := x) (B := B) (.inr rfl) (.inl rfl) (by omega) (by omega) l2 hS.pos hS.low hS.ts ?_
    have d1 : dotR rows[i] x = rat due i := by
      have := hS.eq i hil
      rw [← this]
      unfold dotR
      rw [l1]
      exact sumN_congr fun j _ => by simp [AM, ent, hil]
    rw [d1]
    simp [qL, e2]
    refine fNe_self (d := nD (rat due i)) (shp_nD _) ?_
    simp
    exact hN _ _ ⟨rfl, _, rfl⟩
  · rintro sl S' ⟨rfl, s9, rfl⟩
    unfold t__law_judged_11
    have rk := hB.rk.eq hk
    have bl := hB.len
    simp [at22]
    refine ⟨.lst (rows.map qL), fs, rows, n, k, B2, (n : Int) - k2, rfl, isr, h6, by omega, hM, hB, by omega, ?_⟩
    simp [t__law_judged_12]
    exact q
/-- from the ranks on -/
theorem judged_told (hdl : due.length = rows.length) (h6 : rows.length ≤ 6) (hn : n ≤ 5) (hM : LT n rows) (hD : ∀ q ∈ due, LQ q)
    (q : ∀ S', ((∃ y : Nat → Rat, ∀ i, i < rows.length → sumN n (fun j => ent rows i j * y j) = rat due i) → Q (.dat (.str "all")) S') ∧ (Cert rows.length n (AM rows) (rat due) → Q (.dat (.str "none")) S')) {S : List Int} {s4 s5 s7 s8 s9 : Slot} {told : D}
    (ht : (∃ x fs k B B', Sol rows.length n (AM rows) (rat due) x B ∧ Bas rows.length n (AM rows) fs k B' ∧ told = .tup [.str "all", qT x, .tup (fs.map qT)]) ∨ ∃ x B, Wgt rows.length n (AM rows) (rat due) x B ∧ told = .tup [.str "none", qT x]) :
    t__law_judged_3 C_BadNumber C_BadTable C_TooMuch (ends Q E) [.drw, .dat (.lst (rows.map qL)), .dat (qL due), .dat (.int n), s4, s5, .dat told, s7, s8, s9] S := by
  have hz64 : (64 : Nat) ≤ sizeLine := by decide
  have isr : isMat (.lst (rows.map qL)) rows := ⟨_, .inl rfl, Py.paired_map (f := qL) (fun _ => .inr rfl) _⟩
  unfold t__law_judged_3
  simp
  refine rank_ok isr (by omega) h6 hM fun k hk => ?_
  simp
  unfold t__law_judged_4
  simp [rng_len]
  refine ⟨sm62_nat (by omega), by omega, ?_⟩
  refine lc_rng (fun j => qL (rows.getD j [] ++ [rat due j])) (fun j hj N hN => ?_) ?_
  · have e1 : atI (rows.map qL) (j : Int) = some (qL rows[j]) := at_nat (by rw [List.getElem?_map, List.getElem?_eq_getElem hj]; rfl)
    have e2 := at_row (r := due) (i := j) (by omega)
    have eg : rows.getD j [] = rows[j] := by simp [hj]
    have l1 := (hM _ (List.getElem_mem hj)).1
    rw [eg] at hN
    simp [e1, qL, e2]
    refine ⟨by omega, by omega, ?_⟩
    simp [qL] at hN
    exact hN
  · have ew : (List.range rows.length).map (fun j => qL (rows.getD j [] ++ [rat due j])) = (wideR rows due).map qL := by
      unfold wideR
      rw [List.map_map]
      rfl
    rw [ew]
    have wl := wideR_len rows due
    have wr : ∀ {S : List Int} {Q : Res → List Int → Prop} {E : PX → List Int → Prop}, (∀ k2, Rk rows.length (n + 1) (AM (wideR rows due)) k2 → Q (.dat (.int k2)) S) → sp__law_rank [.dat (.lst ((wideR rows due).map qL)), .dat (.int ((n : Int) + 1))] S Q E := fun h => by
      have e : ((n : Int) + 1) = ((n + 1 : Nat) : Int) := by omega
      rw [e]
      refine rank_ok ⟨_, .inl rfl, Py.paired_map (f := qL) (fun _ => .inr rfl) _⟩ (by omega) (by rw [wl]; exact h6) (wideR_lt hdl hM hD) fun k2 hk2 => h k2 ?_
      rw [wl] at hk2
      exact hk2
    rcases ht with ⟨x, fs, k', B, B', hS, hB, rfl⟩ | ⟨x, B, hW, rfl⟩
    · unfold t__law_judged_5
      simp [at02]
      unfold t__law_judged_6
      simp
      refine wr fun k2 hk2 => ?_
      have := hk2.eq (rk_wide_sol hk (fun i j hi hj => wideR_ent hM hi hj) (fun i hi => wideR_due hM hi) (y := rat x) fun i hi => hS.eq i hi)
      subst this
      simp
      exact judged_all hdl h6 hn hM hD hS hB hk ((q _).1 ⟨rat x, fun i hi => hS.eq i hi⟩)
    · have hc : Cert rows.length n (AM rows) (rat due) := ⟨rat x, hW.zero, hW.one⟩
      unfold t__law_judged_5
      simp [at0]
      unfold t__law_judged_6
      simp
      refine wr fun k2 hk2 => ?_
      have := hk2.eq (rk_wide_cert hk (fun i j hi hj => wideR_ent hM hi hj) (fun i hi => wideR_due hM hi) hW.zero (by rw [hW.one]; decide))
      subst this
      have hlt : (k : Int) < (k : Int) + 1 := by omega
      simp [at0, at1]
      rw [if_pos hlt]
      refine fNe_self shp_none ?_
      simp
      refine ⟨x, 3000, rows.length, rfl, by rw [hW.len], fun y hy => (ts_sq hW.pos hW.low (hW.ts y hy)).1, by decide, ?_⟩
      simp
      exact judged_none hdl h6 hn hM hD hW rfl ((q _).2 hc)
end
theorem pf__law_judged (C_BadNumber C_BadTable C_TooMuch : Addr) : ∀ rs S Q E, sp__law_judged rs S Q E → p__law_judged C_BadNumber C_BadTable C_TooMuch (ends Q E) (rs.map Res.slot ++ List.replicate (10 - rs.length) .un) S := by
  rintro rs S Q E ⟨rows, due, n, rfl, hdl, h6, hn, hM, hD, q⟩
  have hz64 : (64 : Nat) ≤ sizeLine := by decide
  have isr : isMat (.lst (rows.map qL)) rows := ⟨_, .inl rfl, Py.paired_map (f := qL) (fun _ => .inr rfl) _⟩
  rw [e__law_judged]
  simp
  refine ⟨.lst (rows.map qL), rows, 3000, rfl, isr, by omega, fun m hm => ⟨by rw [(hM m hm).1]; omega, fun x hx => (lq_sq ((hM m hm).2 x hx)).1⟩, by decide, fun ls S1 hls => ?_⟩
  have J2 : ∀ (s4 : Slot) (y : D) (S2 : List Int), (s4 = .dat (.tup ls) ∨ s4 = .own ls) → HRow y due → t__law_judged_2 C_BadNumber C_BadTable C_TooMuch (ends Q E) [.drw, .dat (.lst (rows.map qL)), .dat (qL due), .dat (.int n), s4, .dat y, .un, .un, .un, .un] S2 := by
    intro s4 y S2 hs4 hy
    have fz : ∃ d, s4.frz = .dat d ∧ (d = .tup ls ∨ d = .lst ls) := by
      rcases hs4 with rfl | rfl
      · exact ⟨_, rfl, .inl rfl⟩
      · exact ⟨_, rfl, .inr rfl⟩
    obtain ⟨d, fd, hd⟩ := fz
    unfold t__law_judged_2
    simp only [pSeq, pFrz, List.getElem?_cons_zero, List.getElem?_cons_succ, List.set_cons_zero, List.set_cons_succ, fd]
    simp
    refine hand_solve (hand_mk hd hls hM) hM hy hdl hD h6 hn (fun x fs k B B' hS hB => ?_) fun x B hW => ?_
    · exact judged_told hdl h6 hn hM hD q (.inl ⟨x, fs, k, B, B', hS, hB, rfl⟩)
    · exact judged_told hdl h6 hn hM hD q (.inr ⟨x, B, hW, rfl⟩)
  have J1 : ∀ (s4 : Slot) (S1 : List Int), (s4 = .dat (.tup ls) ∨ s4 = .own ls) → t__law_judged_1 C_BadNumber C_BadTable C_TooMuch (ends Q E) [.drw, .dat (.lst (rows.map qL)), .dat (qL due), .dat (.int n), s4, .un, .un, .un, .un, .un] S1 := by
    intro s4 S1 hs4
    unfold t__law_judged_1
    simp
    refine ⟨by omega, .lst [qL due], [due], 3000, rfl, ⟨_, .inl rfl, .cons (.inr rfl) .nil⟩, by simp, fun m hm => ?_, by decide, fun ls2 S2 h2 => ?_⟩
    · have : m = due := by simpa using hm
      rw [this]
      exact ⟨by omega, fun x hx => (lq_sq (hD x hx)).1⟩
    · cases h2 with
      | cons hy r =>
        cases r
        exact ⟨J2 _ _ _ hs4 hy, J2 _ _ _ hs4 hy⟩
  exact ⟨J1 _ _ (.inl rfl), J1 _ _ (.inr rfl)⟩
end K05
end
section
set_option Elab.async false
set_option linter.all false
set_option maxRecDepth 100000
namespace K05
open PySem L2 Py LA
theorem rank_nil {C1 C2 C3 : Addr} {n : Nat} {S : List Int} {Q : Res → List Int → Prop} {E : PX → List Int → Prop} (hn : n ≤ 40) (q : Q (.dat (.int 0)) S) : sp_rank C1 C2 C3 [.dat (.lst []), .dat (.int n)] S Q E := by
  refine ⟨.lst [], .int n, rfl, trivial, ⟨trivial, fun xs e x hx => by cases e; cases hx⟩, ?_⟩
  show if (n : Int) < 0 then _ else _
  rw [if_neg (by omega), if_neg (by show ¬ (true = false); decide)]
  show if 40 < ([] : List D).length ∨ 40 < (n : Int) then _ else _
  rw [if_neg (by simp; omega)]
  refine ⟨fun x hx => (by cases hx), 36, lq_36, fun r hr => (by cases hr), .inl (by decide), fun k hk => ?_⟩
  have r0 : Rk 0 ((n : Int).toNat) (AM []) 0 := Fl.rk (E := AM []) (c := fun _ => 0) ⟨Nat.le_refl _, fun t ht => absurd ht (Nat.not_lt_zero t), fun s t _ ht => absurd ht (Nat.not_lt_zero t), fun t ht => absurd ht (Nat.not_lt_zero t), fun t j ht => absurd ht (Nat.not_lt_zero t), fun i j _ hi => absurd hi (Nat.not_lt_zero i), fun x => Iff.rfl⟩
  have := hk.eq r0
  rw [this]
  exact q
theorem ties_nil {C1 C2 C3 : Addr} {n : Nat} {S : List Int} {Q : Res → List Int → Prop} {E : PX → List Int → Prop} (hn : n ≤ 40) (q : Q (.dat (.tup [])) S) : sp_number_ties C1 C2 C3 [.dat (.tup []), .dat (.int n)] S Q E := by
  refine ⟨.tup [], .int n, rfl, trivial, ⟨trivial, fun xs e x hx => by cases e; cases hx⟩, ?_⟩
  show if (n : Int) < 0 then _ else _
  rw [if_neg (by omega), if_neg (by show ¬ (true = false); decide)]
  show if 40 < ([] : List D).length ∨ 40 < (n : Int) then _ else _
  rw [if_neg (by simp; omega)]
  refine ⟨fun x hx => (by cases hx), 36, lq_36, fun r hr => (by cases hr), .inl (by decide), fun fs k B hB => ?_⟩
  have l : fs.length + k = 0 := hB.len
  have : fs = [] := List.length_eq_zero_iff.mp (by omega)
  rw [this]
  exact q
theorem pf__law_counted (C_BadNumber C_BadTable C_TooMuch : Addr) : ∀ rs S Q E, sp__law_counted rs S Q E → p__law_counted C_BadNumber C_BadTable C_TooMuch (ends Q E) (rs.map Res.slot ++ List.replicate (7 - rs.length) .un) S := by
  rintro rs S Q E ⟨rows, n, rfl, h6, hn, hM, q⟩
  have hz64 : (64 : Nat) ≤ sizeLine := by decide
  have isr : isMat (.lst (rows.map qL)) rows := ⟨_, .inl rfl, Py.paired_map (f := qL) (fun _ => .inr rfl) _⟩
  rw [e__law_counted]
  simp
  refine rank_ok isr (by omega) h6 hM fun k hk => ?_
  simp
  unfold t__law_counted_1
  simp
  refine ⟨.lst (rows.map qL), rows, 3000, rfl, isr, by omega, fun m hm => ⟨by rw [(hM m hm).1]; omega, fun x hx => (lq_sq ((hM m hm).2 x hx)).1⟩, by decide, fun ls S1 hls => ?_⟩
  have J2 : ∀ (s4 : Slot) (S2 : List Int), (s4 = .dat (.tup ls) ∨ s4 = .own ls) → t__law_counted_2 C_BadNumber C_BadTable C_TooMuch (ends Q E) [.drw, .dat (.lst (rows.map qL)), .dat (.int n), .dat (.int k), s4, .un, .un] S2 := by
    intro s4 S2 hs4
    have fz : ∃ d, s4.frz = .dat d ∧ (d = .tup ls ∨ d = .lst ls) := by
      rcases hs4 with rfl | rfl
      · exact ⟨_, rfl, .inl rfl⟩
      · exact ⟨_, rfl, .inr rfl⟩
    obtain ⟨d, fd, hd⟩ := fz
    unfold t__law_counted_2
    simp only [pSeq, pFrz, List.getElem?_cons_zero, List.getElem?_cons_succ, List.set_cons_zero, List.set_cons_succ, fd]
    simp
    refine hand_rank (hand_mk hd hls hM) hM h6 hn fun k1 hk1 => ?_
    have := hk1.eq hk
    subst this
    simp
    unfold t__law_counted_3
    simp
    refine ⟨.int k1, rfl, trivial, ?_⟩
    simp [isI]
    unfold t__law_counted_4
    simp
    refine hand_ties (hand_mk hd hls hM) hM h6 hn fun fs k2 B hB => ?_
    simp
    unfold t__law_counted_5
    simp
    refine ⟨.lst (rows.map qL), rows, n, rfl, isr, by omega, by omega, fun r hr => by rw [(hM r hr).1]; exact Nat.le_refl _, ?_⟩
    simp
    have e2 := rk_tr hk hB.rk
    have l := hB.len
    refine ⟨.lst ((colsR rows n).map qL), fs, colsR rows n, rows.length, k2, B, (rows.length : Int) - k1, rfl, ⟨_, .inl rfl, Py.paired_map (f := qL) (fun _ => .inr rfl) _⟩, by rw [colsR_len]; omega, h6, colsR_mem hM, ?_, by omega, ?_⟩
    · rw [colsR_len]
      exact hB.congr fun i hi => ⟨1, by decide, fun j hj => by rw [show AM (colsR rows n) i j = ent rows j i from colsR_ent hi hj]; grind⟩
    · simp
      unfold t__law_counted_6
      simp
      refine rank_nil (by omega) ?_
      simp
      refine ties_nil (by omega) ?_
      exact fEq_self (d := .tup []) ⟨rfl, rfl⟩ (q _)
  exact ⟨J2 _ _ (.inl rfl), J2 _ _ (.inr rfl)⟩
end K05
end
section
set_option Elab.async false
set_option linter.all false
set_option maxRecDepth 100000
namespace K05
open PySem L2 Py LA
def t__law_much_3 (C_BadNumber C_BadTable C_TooMuch : Addr) : PSm := pSeq (pAsg (pCall (sp_rank C_BadNumber C_BadTable C_TooMuch) (pCons (pLc 5 (pRng1 (pCons (pVar 1) (pNil))) (pYes) (pLst (pCons (pTup (pCons (pC (.int 1)) (pCons (pC (.int 2)) (pNil)))) (pNil)))) (pCons (pC (.int 1)) (pNil)))) (pgName 3)) (pNext)
def t__law_much_5 (C_BadNumber C_BadTable C_TooMuch : Addr) : PSm := pSeq (pAsg (pBin fAdd (pBin fSub (pLen (pQOf (pCall (sp_number_ties C_BadNumber C_BadTable C_TooMuch) (pCons (pLst (pCons (pLst (pNil)) (pNil))) (pCons (pBin fSub (pVar 1) (pVar 1)) (pNil)))))) (pC (.int 1))) (pCall (sp_rank C_BadNumber C_BadTable C_TooMuch) (pCons (pLst (pNil)) (pCons (pVar 1) (pNil))))) (pgName 3)) (pNext)
def t__law_much_6 (C_BadNumber C_BadTable C_TooMuch : Addr) : PSm := pSeq (pAsg (pBin fSub (pLen (pQOf (pIx (pQOf (pCall (sp_solve C_BadNumber C_BadTable C_TooMuch) (pCons (pLst (pCons (pBin fMul (pLst (pCons (pC (.int 0)) (pNil))) (pVar 1)) (pNil))) (pCons (pLst (pCons (pC (.int 0)) (pNil))) (pCons (pVar 1) (pNil)))))) (pC (.int 2))))) (pVar 1)) (pgName 3)) (pNext)
def t__law_much_4 (C_BadNumber C_BadTable C_TooMuch : Addr) : PSm := pSeq (pIf (pTst (pBin fEq (pVar 0) (pC (.int 1)))) (t__law_much_5 C_BadNumber C_BadTable C_TooMuch) (t__law_much_6 C_BadNumber C_BadTable C_TooMuch)) (pNext)
def t__law_much_7 (C_BadNumber C_BadTable C_TooMuch : Addr) : PSm := pSeq (pRet (pLst (pCons (pVar 2) (pCons (pVar 3) (pNil))))) (pNext)
def t__law_much_2 (C_BadNumber C_BadTable C_TooMuch : Addr) : PSm := pSeq (pTry 4 C_TooMuch (pSeq (pIf (pTst (pBin fEq (pVar 0) (pC (.int 0)))) (t__law_much_3 C_BadNumber C_BadTable C_TooMuch) (t__law_much_4 C_BadNumber C_BadTable C_TooMuch)) (pNext)) (fun a d => pSeq (pAsg (pTup (pCons (pExF 4 a d "word") (pCons (pExF 4 a d "most") (pNil)))) (pgName 2)) (pNext))) (t__law_much_7 C_BadNumber C_BadTable C_TooMuch)
def t__law_much_1 (C_BadNumber C_BadTable C_TooMuch : Addr) : PSm := pSeq (pAsg (pC .non) (pgName 3)) (t__law_much_2 C_BadNumber C_BadTable C_TooMuch)
theorem e__law_much (C_BadNumber C_BadTable C_TooMuch : Addr) : p__law_much C_BadNumber C_BadTable C_TooMuch = pSeq (pAsg (pC .non) (pgName 2)) (t__law_much_1 C_BadNumber C_BadTable C_TooMuch) := rfl
def t__law_word_2 (C_BadNumber C_BadTable C_TooMuch : Addr) : PSm := pSeq (pDrop (pCall (sp_solve C_BadNumber C_BadTable C_TooMuch) (pCons (pLst (pCons (pLst (pCons (pC (.int 1)) (pNil))) (pCons (pLst (pCons (pC (.int 1)) (pCons (pC (.int 2)) (pNil)))) (pNil)))) (pCons (pC .non) (pCons (pC (.bl true)) (pNil)))))) (pNext)
def t__law_word_4 (C_BadNumber C_BadTable C_TooMuch : Addr) : PSm := pSeq (pDrop (pCall (sp_solve C_BadNumber C_BadTable C_TooMuch) (pCons (pLst (pNil)) (pCons (pLst (pNil)) (pCons (pNeg (pC (.int 1))) (pNil)))))) (pNext)
def t__law_word_6 (C_BadNumber C_BadTable C_TooMuch : Addr) : PSm := pSeq (pDrop (pCall (sp_solve C_BadNumber C_BadTable C_TooMuch) (pCons (pLst (pCons (pLst (pCons (pC (.int 1)) (pCons (pC (.int 2)) (pNil)))) (pCons (pLst (pCons (pC (.int 1)) (pNil))) (pNil)))) (pCons (pC .non) (pCons (pC (.int 2)) (pNil)))))) (pNext)
def t__law_word_8 (C_BadNumber C_BadTable C_TooMuch : Addr) : PSm := pSeq (pDrop (pCall (sp_solve C_BadNumber C_BadTable C_TooMuch) (pCons (pLst (pCons (pLst (pCons (pC (.int 1)) (pCons (pC (.int 2)) (pNil)))) (pNil))) (pCons (pLst (pCons (pC (.int 1)) (pCons (pC (.int 2)) (pNil)))) (pCons (pC (.int 2)) (pNil)))))) (pNext)
def t__law_word_10 (C_BadNumber C_BadTable C_TooMuch : Addr) : PSm := pSeq (pDrop (pCall (sp_rank C_BadNumber C_BadTable C_TooMuch) (pCons (pLst (pCons (pLst (pCons (pC .non) (pCons (pC (.int 2)) (pNil)))) (pCons (pC (.int 7)) (pNil)))) (pCons (pC (.int 2)) (pNil))))) (pNext)
def t__law_word_12 (C_BadNumber C_BadTable C_TooMuch : Addr) : PSm := pSeq (pDrop (pCall (sp_number_ties C_BadNumber C_BadTable C_TooMuch) (pCons (pLst (pCons (pLst (pCons (pC (.int 1)) (pCons (pC .non) (pNil)))) (pCons (pLst (pCons (pC (.int 1)) (pNil))) (pNil)))) (pCons (pC (.int 2)) (pNil))))) (pNext)
def t__law_word_14 (C_BadNumber C_BadTable C_TooMuch : Addr) : PSm := pSeq (pDrop (pCall (sp_number_ties C_BadNumber C_BadTable C_TooMuch) (pCons (pLst (pCons (pLst (pCons (pC (.int 1)) (pCons (pC .non) (pNil)))) (pCons (pLst (pCons (pC (.int 1)) (pNil))) (pNil)))) (pCons (pC .non) (pNil))))) (pNext)
def t__law_word_15 (C_BadNumber C_BadTable C_TooMuch : Addr) : PSm := pSeq (pDrop (pCall (sp_solve C_BadNumber C_BadTable C_TooMuch) (pCons (pLc 3 (pRng1 (pCons (pC (.int 41)) (pNil))) (pYes) (pLst (pCons (pC .non) (pCons (pC (.int 2)) (pNil))))) (pCons (pLst (pCons (pC (.int 1)) (pNil))) (pCons (pC (.int 2)) (pNil)))))) (pNext)
def t__law_word_13 (C_BadNumber C_BadTable C_TooMuch : Addr) : PSm := pSeq (pIf (pTst (pBin fEq (pVar 0) (pC (.int 6)))) (t__law_word_14 C_BadNumber C_BadTable C_TooMuch) (t__law_word_15 C_BadNumber C_BadTable C_TooMuch)) (pNext)
def t__law_word_11 (C_BadNumber C_BadTable C_TooMuch : Addr) : PSm := pSeq (pIf (pTst (pBin fEq (pVar 0) (pC (.int 5)))) (t__law_word_12 C_BadNumber C_BadTable C_TooMuch) (t__law_word_13 C_BadNumber C_BadTable C_TooMuch)) (pNext)
def t__law_word_9 (C_BadNumber C_BadTable C_TooMuch : Addr) : PSm := pSeq (pIf (pTst (pBin fEq (pVar 0) (pC (.int 4)))) (t__law_word_10 C_BadNumber C_BadTable C_TooMuch) (t__law_word_11 C_BadNumber C_BadTable C_TooMuch)) (pNext)
def t__law_word_7 (C_BadNumber C_BadTable C_TooMuch : Addr) : PSm := pSeq (pIf (pTst (pBin fEq (pVar 0) (pC (.int 3)))) (t__law_word_8 C_BadNumber C_BadTable C_TooMuch) (t__law_word_9 C_BadNumber C_BadTable C_TooMuch)) (pNext)
def t__law_word_5 (C_BadNumber C_BadTable C_TooMuch : Addr) : PSm := pSeq (pIf (pTst (pBin fEq (pVar 0) (pC (.int 2)))) (t__law_word_6 C_BadNumber C_BadTable C_TooMuch) (t__law_word_7 C_BadNumber C_BadTable C_TooMuch)) (pNext)
def t__law_word_3 (C_BadNumber C_BadTable C_TooMuch : Addr) : PSm := pSeq (pIf (pTst (pBin fEq (pVar 0) (pC (.int 1)))) (t__law_word_4 C_BadNumber C_BadTable C_TooMuch) (t__law_word_5 C_BadNumber C_BadTable C_TooMuch)) (pNext)
def t__law_word_16 (C_BadNumber C_BadTable C_TooMuch : Addr) : PSm := pSeq (pRetN 1) (pNext)
def t__law_word_1 (C_BadNumber C_BadTable C_TooMuch : Addr) : PSm := pSeq (pTry 2 C_BadTable (pSeq (pIf (pTst (pBin fEq (pVar 0) (pC (.int 0)))) (t__law_word_2 C_BadNumber C_BadTable C_TooMuch) (t__law_word_3 C_BadNumber C_BadTable C_TooMuch)) (pNext)) (fun a d => pSeq (pAsg (pExF 2 a d "handed") (pgName 1)) (pNext))) (t__law_word_16 C_BadNumber C_BadTable C_TooMuch)
theorem e__law_word (C_BadNumber C_BadTable C_TooMuch : Addr) : p__law_word C_BadNumber C_BadTable C_TooMuch = pSeq (pAsg (pC .non) (pgName 1)) (t__law_word_1 C_BadNumber C_BadTable C_TooMuch) := rfl
def t__law_bad_value_2 (C_BadNumber C_BadTable C_TooMuch : Addr) : PSm := pSeq (pDrop (pCall (sp_solve C_BadNumber C_BadTable C_TooMuch) (pCons (pLst (pCons (pLst (pCons (pC (.int 1)) (pCons (pTup (pCons (pC (.int 2)) (pCons (pC (.int 4)) (pNil)))) (pNil)))) (pCons (pLst (pCons (pTup (pCons (pC (.int 1)) (pCons (pC (.int 0)) (pNil)))) (pCons (pC (.bl true)) (pNil)))) (pNil)))) (pCons (pLst (pCons (pC .non) (pCons (pC (.int 1)) (pNil)))) (pCons (pC (.int 2)) (pNil)))))) (pNext)
def t__law_bad_value_4 (C_BadNumber C_BadTable C_TooMuch : Addr) : PSm := pSeq (pDrop (pCall (sp_solve C_BadNumber C_BadTable C_TooMuch) (pCons (pLst (pCons (pLst (pCons (pC (.int 1)) (pCons (pC (.int 2)) (pNil)))) (pNil))) (pCons (pLst (pCons (pC .non) (pNil))) (pCons (pC (.int 2)) (pNil)))))) (pNext)
def t__law_bad_value_6 (C_BadNumber C_BadTable C_TooMuch : Addr) : PSm := pSeq (pDrop (pCall (sp_rank C_BadNumber C_BadTable C_TooMuch) (pCons (pLst (pCons (pLst (pCons (pC (.int 1)) (pCons (pC (.bl true)) (pNil)))) (pNil))) (pCons (pC (.int 2)) (pNil))))) (pNext)
def t__law_bad_value_7 (C_BadNumber C_BadTable C_TooMuch : Addr) : PSm := pSeq (pDrop (pCall (sp_number_ties C_BadNumber C_BadTable C_TooMuch) (pCons (pLst (pCons (pLst (pCons (pC (.int 1)) (pCons (pC (.int 2)) (pNil)))) (pCons (pLst (pCons (pTup (pCons (pC (.int 1)) (pCons (pNeg (pC (.int 2))) (pNil)))) (pCons (pC (.int 3)) (pNil)))) (pNil)))) (pCons (pC (.int 2)) (pNil))))) (pNext)
def t__law_bad_value_5 (C_BadNumber C_BadTable C_TooMuch : Addr) : PSm := pSeq (pIf (pTst (pBin fEq (pVar 0) (pC (.int 2)))) (t__law_bad_value_6 C_BadNumber C_BadTable C_TooMuch) (t__law_bad_value_7 C_BadNumber C_BadTable C_TooMuch)) (pNext)
def t__law_bad_value_3 (C_BadNumber C_BadTable C_TooMuch : Addr) : PSm := pSeq (pIf (pTst (pBin fEq (pVar 0) (pC (.int 1)))) (t__law_bad_value_4 C_BadNumber C_BadTable C_TooMuch) (t__law_bad_value_5 C_BadNumber C_BadTable C_TooMuch)) (pNext)
def t__law_bad_value_8 (C_BadNumber C_BadTable C_TooMuch : Addr) : PSm := pSeq (pRetN 1) (pNext)
def t__law_bad_value_1 (C_BadNumber C_BadTable C_TooMuch : Addr) : PSm := pSeq (pTry 2 C_BadNumber (pSeq (pIf (pTst (pBin fEq (pVar 0) (pC (.int 0)))) (t__law_bad_value_2 C_BadNumber C_BadTable C_TooMuch) (t__law_bad_value_3 C_BadNumber C_BadTable C_TooMuch)) (pNext)) (fun a d => pSeq (pAsg (pLst (pCons (pExF 2 a d "handed") (pNil))) (pgName 1)) (pNext))) (t__law_bad_value_8 C_BadNumber C_BadTable C_TooMuch)
theorem e__law_bad_value (C_BadNumber C_BadTable C_TooMuch : Addr) : p__law_bad_value C_BadNumber C_BadTable C_TooMuch = pSeq (pAsg (pLst (pNil)) (pgName 1)) (t__law_bad_value_1 C_BadNumber C_BadTable C_TooMuch) := rfl
end K05
end
section
set_option Elab.async false
set_option linter.all false
set_option maxRecDepth 100000
namespace K05
open PySem L2 Py LA
section
variable {C_BadNumber C_BadTable C_TooMuch : Addr} {S : List Int} {Q : Res → List Int → Prop} {E : PX → List Int → Prop} {d due : D} {n : Int}
theorem sol_neg (ok : okT d) (nd : noObj due) (h : n < 0) (e : E ⟨C_BadTable, ["handed"], [.str "many"]⟩ S) : sp_solve C_BadNumber C_BadTable C_TooMuch [.dat d, .dat due, .dat (.int n)] S Q E := by
  refine ⟨d, due, .int n, rfl, trivial, ok, nd, ?_⟩
  show if n < 0 then _ else _
  rw [if_pos h]
  exact e
theorem sol_tab (ok : okT d) (nd : noObj due) (h : ¬ n < 0) (t : isTab d n = false) (e : E ⟨C_BadTable, ["handed"], [.str "rows"]⟩ S) : sp_solve C_BadNumber C_BadTable C_TooMuch [.dat d, .dat due, .dat (.int n)] S Q E := by
  refine ⟨d, due, .int n, rfl, trivial, ok, nd, ?_⟩
  show if n < 0 then _ else _
  rw [if_neg h, if_pos t]
  exact e
theorem sol_due {xs ys : List D} (ok : okT d) (nd : noObj due) (h : ¬ n < 0) (t : isTab d n = true) (h1 : d.seq = some xs) (h2 : due.seq = some ys) (h3 : ys.length ≠ xs.length) (e : E ⟨C_BadTable, ["handed"], [.str "due"]⟩ S) : sp_solve C_BadNumber C_BadTable C_TooMuch [.dat d, .dat due, .dat (.int n)] S Q E := by
  refine ⟨d, due, .int n, rfl, trivial, ok, nd, ?_⟩
  show if n < 0 then _ else _
  rw [if_neg h, if_neg (by rw [t]; decide), h1, h2]
  show if ys.length ≠ xs.length then _ else _
  rw [if_pos h3]
  exact e
theorem rank_tab (ok : okT d) (h : ¬ n < 0) (t : isTab d n = false) (e : E ⟨C_BadTable, ["handed"], [.str "rows"]⟩ S) : sp_rank C_BadNumber C_BadTable C_TooMuch [.dat d, .dat (.int n)] S Q E := by
  refine ⟨d, .int n, rfl, trivial, ok, ?_⟩
  show if n < 0 then _ else _
  rw [if_neg h, if_pos t]
  exact e
theorem ties_tab (ok : okT d) (h : ¬ n < 0) (t : isTab d n = false) (e : E ⟨C_BadTable, ["handed"], [.str "vectors"]⟩ S) : sp_number_ties C_BadNumber C_BadTable C_TooMuch [.dat d, .dat (.int n)] S Q E := by
  refine ⟨d, .int n, rfl, trivial, ok, ?_⟩
  show if n < 0 then _ else _
  rw [if_neg h, if_pos t]
  exact e
theorem sol_num {xs ys : List D} {b : D} (ok : okT d) (nd : noObj due) (h : ¬ n < 0) (h40 : n ≤ 40) (t : isTab d n = true) (h1 : d.seq = some xs) (h2 : due.seq = some ys) (h3 : ys.length = xs.length) (hx : xs.length ≤ 40) (okr : okR xs)
    (q : tabOf xs = .inr b ∨ (∃ rows, tabOf xs = .inl rows ∧ (∀ y ∈ ys, okN y) ∧ numsOf ys = .inr b)) (e : E ⟨C_BadNumber, ["handed"], [b]⟩ S) : sp_solve C_BadNumber C_BadTable C_TooMuch [.dat d, .dat due, .dat (.int n)] S Q E := by
  refine ⟨d, due, .int n, rfl, trivial, ok, nd, ?_⟩
  show if n < 0 then _ else _
  rw [if_neg h, if_neg (by rw [t]; decide), h1, h2]
  show if ys.length ≠ xs.length then _ else _
  rw [if_neg (by omega), if_neg (by omega)]
  refine ⟨okr, ?_⟩
  rcases q with q | ⟨rows, q, o, q2⟩
  · rw [q]; exact e
  · rw [q]
    refine ⟨o, ?_⟩
    rw [q2]
    exact e
theorem rank_num {xs : List D} {b : D} (ok : okT d) (h : ¬ n < 0) (h40 : n ≤ 40) (t : isTab d n = true) (h1 : d.seq = some xs) (hx : xs.length ≤ 40) (okr : okR xs) (q : tabOf xs = .inr b) (e : E ⟨C_BadNumber, ["handed"], [b]⟩ S) : sp_rank C_BadNumber C_BadTable C_TooMuch [.dat d, .dat (.int n)] S Q E := by
  refine ⟨d, .int n, rfl, trivial, ok, ?_⟩
  show if n < 0 then _ else _
  rw [if_neg h, if_neg (by rw [t]; decide), h1]
  show if 40 < xs.length ∨ 40 < n then _ else _
  rw [if_neg (by omega)]
  refine ⟨okr, ?_⟩
  rw [q]
  exact e
theorem ties_num {xs : List D} {b : D} (ok : okT d) (h : ¬ n < 0) (h40 : n ≤ 40) (t : isTab d n = true) (h1 : d.seq = some xs) (hx : xs.length ≤ 40) (okr : okR xs) (q : tabOf xs = .inr b) (e : E ⟨C_BadNumber, ["handed"], [b]⟩ S) : sp_number_ties C_BadNumber C_BadTable C_TooMuch [.dat d, .dat (.int n)] S Q E := by
  refine ⟨d, .int n, rfl, trivial, ok, ?_⟩
  show if n < 0 then _ else _
  rw [if_neg h, if_neg (by rw [t]; decide), h1]
  show if 40 < xs.length ∨ 40 < n then _ else _
  rw [if_neg (by omega)]
  refine ⟨okr, ?_⟩
  rw [q]
  exact e
theorem rank_much {xs : List D} (ok : okT d) (h : ¬ n < 0) (t : isTab d n = true) (h1 : d.seq = some xs) (hx : 40 < xs.length ∨ 40 < n) (e : E ⟨C_TooMuch, ["word", "most"], [.str "table", .int 40]⟩ S) : sp_rank C_BadNumber C_BadTable C_TooMuch [.dat d, .dat (.int n)] S Q E := by
  refine ⟨d, .int n, rfl, trivial, ok, ?_⟩
  show if n < 0 then _ else _
  rw [if_neg h, if_neg (by rw [t]; decide), h1]
  show if 40 < xs.length ∨ 40 < n then _ else _
  rw [if_pos hx]
  exact e
theorem sol_much {xs ys : List D} (ok : okT d) (nd : noObj due) (h : ¬ n < 0) (t : isTab d n = true) (h1 : d.seq = some xs) (h2 : due.seq = some ys) (h3 : ys.length = xs.length) (hx : 40 < xs.length ∨ 40 < n) (e : E ⟨C_TooMuch, ["word", "most"], [.str "table", .int 40]⟩ S) : sp_solve C_BadNumber C_BadTable C_TooMuch [.dat d, .dat due, .dat (.int n)] S Q E := by
  refine ⟨d, due, .int n, rfl, trivial, ok, nd, ?_⟩
  show if n < 0 then _ else _
  rw [if_neg h, if_neg (by rw [t]; decide), h1, h2]
  show if ys.length ≠ xs.length then _ else _
  rw [if_neg (by omega), if_pos hx]
  exact e
end
theorem isTab_rep {x : D} {n : Int} {m : Nat} (h : isRw n x = true) : isTab (.lst (List.replicate m x)) n = true := by
  show (List.replicate m x).all (isRw n) = true
  rw [List.all_eq_true]
  intro y hy
  rw [List.eq_of_mem_replicate hy]
  exact h
theorem okT_rep {x : D} {m : Nat} (h : noObj x) : okT (.lst (List.replicate m x)) := ⟨trivial, fun xs e y hy => by
  cases e
  rw [List.eq_of_mem_replicate hy]
  exact h⟩
theorem ex_one {i : Nat} {a : Addr} {o : Option Addr} {C : Addr} {v : D} {sl : List Slot} {S : List Int} {Q : Res → List Int → Prop} {E : PX → List Int → Prop} (h : sl[i]? = some (.exc a o ⟨C, ["handed"], [v]⟩)) (q : Q (.dat v) S) : pExF i a o "handed" sl S Q E := by
  unfold pExF
  rw [h]
  exact ⟨rfl, rfl, q⟩
theorem map_rep {α : Type} (n : Nat) (x : α) : (List.range n).map (fun _ => x) = List.replicate n x := List.eq_replicate_iff.mpr ⟨by simp, fun y hy => by
  obtain ⟨_, _, rfl⟩ := List.mem_map.mp hy
  rfl⟩
theorem pf__law_word (C_BadNumber C_BadTable C_TooMuch : Addr) : ∀ rs S Q E, sp__law_word rs S Q E → p__law_word C_BadNumber C_BadTable C_TooMuch (ends Q E) (rs.map Res.slot ++ List.replicate (4 - rs.length) .un) S := by
  rintro rs S Q E ⟨i, rfl, hi, q⟩
  have h : i = 0 ∨ i = 1 ∨ i = 2 ∨ i = 3 ∨ i = 4 ∨ i = 5 ∨ i = 6 ∨ i = 7 := by omega
  have hz64 : (64 : Nat) ≤ sizeLine := by decide
  have z1 : (1 : Nat) ≤ sizeLine := by decide
  have z2 : (2 : Nat) ≤ sizeLine := by decide
  rw [e__law_word]
  simp
  unfold t__law_word_1
  simp [pTry]
  rcases h with rfl | rfl | rfl | rfl | rfl | rfl | rfl | rfl
  · simp [t__law_word_2, z1, z2]
    exact ⟨_, _, _, rfl, trivial, ⟨trivial, fun xs e x hx => by cases e; simp at hx; rcases hx with rfl | rfl <;> trivial⟩, trivial, ⟨rfl, fun a o => ex_one rfl q⟩⟩
  · simp [t__law_word_3, t__law_word_4]
    exact sol_neg ⟨trivial, fun xs e x hx => by cases e; cases hx⟩ trivial (by decide) ⟨rfl, fun a o => ex_one rfl q⟩
  · simp [t__law_word_3, t__law_word_5, t__law_word_6, z1, z2]
    exact sol_tab ⟨trivial, fun xs e x hx => by cases e; simp at hx; rcases hx with rfl | rfl <;> trivial⟩ trivial (by decide) (by decide) ⟨rfl, fun a o => ex_one rfl q⟩
  · simp [t__law_word_3, t__law_word_5, t__law_word_7, t__law_word_8, z1, z2]
    exact sol_due ⟨trivial, fun xs e x hx => by cases e; simp at hx; subst hx; trivial⟩ trivial (by decide) (by decide) rfl rfl (by decide) ⟨rfl, fun a o => ex_one rfl q⟩
  · simp [t__law_word_3, t__law_word_5, t__law_word_7, t__law_word_9, t__law_word_10, z1, z2]
    exact rank_tab ⟨trivial, fun xs e x hx => by cases e; simp at hx; rcases hx with rfl | rfl <;> trivial⟩ (by decide) (by decide) ⟨rfl, fun a o => ex_one rfl q⟩
  · simp [t__law_word_3, t__law_word_5, t__law_word_7, t__law_word_9, t__law_word_11, t__law_word_12, z1, z2]
    exact ties_tab ⟨trivial, fun xs e x hx => by cases e; simp at hx; rcases hx with rfl | rfl <;> trivial⟩ (by decide) (by decide) ⟨rfl, fun a o => ex_one rfl q⟩
  · simp [t__law_word_3, t__law_word_5, t__law_word_7, t__law_word_9, t__law_word_11, t__law_word_13, t__law_word_14, z1, z2]
    exact ⟨_, _, rfl, trivial, ⟨trivial, fun xs e x hx => by cases e; simp at hx; rcases hx with rfl | rfl <;> trivial⟩, ⟨rfl, fun a o => ex_one rfl q⟩⟩
  · simp [t__law_word_3, t__law_word_5, t__law_word_7, t__law_word_9, t__law_word_11, t__law_word_13, t__law_word_15, z1, z2]
    rw [rng_len]
    refine ⟨by unfold sm62; decide, by omega, ?_⟩
    refine lc_rng (fun _ => .lst [.non, .int 2]) (fun j hj N hN => ?_) ?_
    · simp
      exact ⟨by omega, hN⟩
    · have e : (List.range 41).map (fun _ => D.lst [.non, .int 2]) = List.replicate 41 (D.lst [.non, .int 2]) := map_rep 41 _
      rw [e]
      exact sol_due (okT_rep trivial) trivial (by decide) (isTab_rep (by decide)) rfl rfl (by rw [List.length_replicate]; decide) ⟨rfl, fun a o => ex_one rfl q⟩
theorem pf__law_bad_value (C_BadNumber C_BadTable C_TooMuch : Addr) : ∀ rs S Q E, sp__law_bad_value rs S Q E → p__law_bad_value C_BadNumber C_BadTable C_TooMuch (ends Q E) (rs.map Res.slot ++ List.replicate (3 - rs.length) .un) S := by
  rintro rs S Q E ⟨i, rfl, hi, q⟩
  have h : i = 0 ∨ i = 1 ∨ i = 2 ∨ i = 3 := by omega
  have hz64 : (64 : Nat) ≤ sizeLine := by decide
  have z1 : (1 : Nat) ≤ sizeLine := by decide
  have z2 : (2 : Nat) ≤ sizeLine := by decide
  rw [e__law_bad_value]
  simp
  unfold t__law_bad_value_1
  simp [pTry]
  rcases h with rfl | rfl | rfl | rfl
  · simp [t__law_bad_value_2, z1, z2]
    exact sol_num (b := .tup [.int 1, .int 0]) ⟨trivial, fun xs e x hx => by cases e; simp at hx; rcases hx with rfl | rfl <;> trivial⟩ trivial (by decide) (by decide) (by decide) rfl rfl rfl (by decide) (by intro x hx y hy; simp at hx; rcases hx with rfl | rfl <;> simp [D.seq] at hy <;> rcases hy with rfl | rfl <;> simp [okN, okI, fits] <;> decide) (.inl rfl) ⟨rfl, fun a o => ex_one rfl ⟨z1, q⟩⟩
  · simp [t__law_bad_value_3, t__law_bad_value_4, z1, z2]
    exact sol_num (b := .non) ⟨trivial, fun xs e x hx => by cases e; simp at hx; subst hx; trivial⟩ trivial (by decide) (by decide) (by decide) rfl rfl rfl (by decide) (by intro x hx y hy; simp at hx; subst hx; simp [D.seq] at hy; rcases hy with rfl | rfl <;> simp [okN, okI, fits]) (.inr ⟨_, rfl, (by intro y hy; simp at hy; subst hy; trivial), rfl⟩) ⟨rfl, fun a o => ex_one rfl ⟨z1, q⟩⟩
  · simp [t__law_bad_value_3, t__law_bad_value_5, t__law_bad_value_6, z1, z2]
    exact rank_num (b := .bl true) ⟨trivial, fun xs e x hx => by cases e; simp at hx; subst hx; trivial⟩ (by decide) (by decide) (by decide) rfl (by decide) (by intro x hx y hy; simp at hx; subst hx; simp [D.seq] at hy; rcases hy with rfl | rfl <;> simp [okN, okI, fits]) rfl ⟨rfl, fun a o => ex_one rfl ⟨z1, q⟩⟩
  · simp [t__law_bad_value_3, t__law_bad_value_5, t__law_bad_value_7, z1, z2]
    exact ties_num (b := .tup [.int 1, .int (-2)]) ⟨trivial, fun xs e x hx => by cases e; simp at hx; rcases hx with rfl | rfl <;> trivial⟩ (by decide) (by decide) (by decide) rfl (by decide) (by intro x hx y hy; simp at hx; rcases hx with rfl | rfl <;> simp [D.seq] at hy <;> rcases hy with rfl | rfl <;> simp [okN, okI, fits] <;> decide) rfl ⟨rfl, fun a o => ex_one rfl ⟨z1, q⟩⟩
end K05
end
section
set_option Elab.async false
set_option linter.all false
set_option maxRecDepth 100000
namespace K05
open PySem L2 Py LA
theorem tabOf_rep {x : D} {r : List Rat} (h : numsOf (x.seq.getD []) = .inl r) : ∀ m, tabOf (List.replicate m x) = .inl (List.replicate m r)
  | 0 => rfl
  | m + 1 => by
    rw [List.replicate_succ, List.replicate_succ]
    simp [tabOf, h, tabOf_rep h m]
theorem okR_rep {x : D} (h : ∀ y ∈ x.seq.getD [], okN y) (m : Nat) : okR (List.replicate m x) := fun z hz => by
  rw [List.eq_of_mem_replicate hz]
  exact h
theorem half_cq : CQ 36 (Rat.divInt 1 2) := by
  have e : Rat.divInt 1 2 = ⟨1, 2, by decide, by decide⟩ := rfl
  rw [e]
  exact ⟨⟨18, rfl⟩, by show 1 * 36 < 2 ^ 300; decide⟩
theorem zero_cq : CQ 36 ((0 : Int) : Rat) := ⟨⟨36, rfl⟩, by show 0 * 36 < 2 ^ 300; decide⟩
theorem rk_half : Rk 40 1 (AM (List.replicate 40 [Rat.divInt 1 2])) 1 := by
  refine ⟨fun _ => 0, fun s t hs ht _ => by omega, fun t _ => by decide, fun x hx hz j hj => ?_, fun f => ⟨fun _ => 0, fun r _ => sumN_zero fun j _ => by grind, fun j hj h => absurd (h 0 (by decide)) (by omega)⟩⟩
  have h := hx 0 (by decide)
  have e : sumN 1 (fun j => AM (List.replicate 40 [Rat.divInt 1 2]) 0 j * x j) = 0 + Rat.divInt 1 2 * x 0 := rfl
  rw [e] at h
  have j0 : j = 0 := by omega
  rw [j0]
  have hh : Rat.divInt 1 2 ≠ 0 := by decide
  have h2 : Rat.divInt 1 2 * x 0 = 0 := by grind
  rcases Rat.mul_eq_zero.mp h2 with a | a
  · exact absurd a hh
  · exact a
theorem rk_none {n : Nat} {A : Mat} : Rk 0 n A 0 := Fl.rk (E := A) (c := fun _ => 0) ⟨Nat.le_refl _, fun t ht => absurd ht (Nat.not_lt_zero t), fun s t _ ht => absurd ht (Nat.not_lt_zero t), fun t ht => absurd ht (Nat.not_lt_zero t), fun t j ht => absurd ht (Nat.not_lt_zero t), fun i j _ hi => absurd hi (Nat.not_lt_zero i), fun x => Iff.rfl⟩
theorem rk_zero {m n : Nat} {A : Mat} (h : ∀ i j, i < m → j < n → A i j = 0) : Rk m n A 0 := Fl.rk (E := A) (c := fun _ => 0) ⟨Nat.zero_le _, fun t ht => absurd ht (Nat.not_lt_zero t), fun s t _ ht => absurd ht (Nat.not_lt_zero t), fun t ht => absurd ht (Nat.not_lt_zero t), fun t j ht => absurd ht (Nat.not_lt_zero t), fun i j _ hi hj => h i j hi hj, fun x => Iff.rfl⟩
section
variable {C_BadNumber C_BadTable C_TooMuch : Addr} {S : List Int} {Q : Res → List Int → Prop} {E : PX → List Int → Prop}
theorem much_rank (q : Q (.dat (.int 1)) S) : sp_rank C_BadNumber C_BadTable C_TooMuch [.dat (.lst (List.replicate 40 (.lst [.tup [.int 1, .int 2]]))), .dat (.int 1)] S Q E := by
  refine ⟨_, .int 1, rfl, trivial, okT_rep trivial, ?_⟩
  show if (1 : Int) < 0 then _ else _
  rw [if_neg (by decide), if_neg (by rw [isTab_rep (by decide)]; decide)]
  show if 40 < (List.replicate 40 (D.lst [.tup [.int 1, .int 2]])).length ∨ 40 < (1 : Int) then _ else _
  rw [if_neg (by rw [List.length_replicate]; decide)]
  refine ⟨okR_rep (by intro y hy; simp [D.seq] at hy; subst hy; simp [okN, okI, fits]; decide) _, ?_⟩
  rw [tabOf_rep (r := [Rat.divInt 1 2]) rfl 40]
  refine ⟨36, lq_36, fun r hr => ?_, .inr (by decide), fun k hk => ?_⟩
  · rw [List.eq_of_mem_replicate hr]
    exact ⟨rfl, fun x hx => by
      have : x = Rat.divInt 1 2 := by simpa using hx
      rw [this]; exact half_cq⟩
  · rw [List.length_replicate] at hk
    have := hk.eq rk_half
    rw [this]
    exact q
theorem much_ties (q : ∀ fs : List (List Rat), fs.length = 1 → Q (.dat (.tup (fs.map qT))) S) : sp_number_ties C_BadNumber C_BadTable C_TooMuch [.dat (.lst [.lst []]), .dat (.int 0)] S Q E := by
  refine ⟨_, .int 0, rfl, trivial, ⟨trivial, fun xs e x hx => by cases e; simp at hx; subst hx; trivial⟩, ?_⟩
  show if (0 : Int) < 0 then _ else _
  rw [if_neg (by decide), if_neg (by show ¬ (true = false); decide)]
  show if 40 < ([.lst []] : List D).length ∨ 40 < (0 : Int) then _ else _
  rw [if_neg (by decide)]
  refine ⟨(by intro x hx y hy; simp at hx; subst hx; cases hy), ?_⟩
  refine ⟨36, lq_36, fun r hr => ?_, .inl (by decide), fun fs k B hB => ?_⟩
  · have : r = [] := by simpa using hr
    rw [this]
    exact ⟨rfl, fun x hx => by cases hx⟩
  · have l : fs.length + k = 1 := hB.len
    have := hB.rk.eq rk_none
    exact q fs (by omega)
theorem much_sol (q : ∀ (x : List Rat) (fs : List (List Rat)), fs.length = 40 → Q (.dat (.tup [.str "all", qT x, .tup (fs.map qT)])) S) : sp_solve C_BadNumber C_BadTable C_TooMuch [.dat (.lst [.lst (List.replicate 40 (.int 0))]), .dat (.lst [.int 0]), .dat (.int 40)] S Q E := by
  have nz : ∀ m, numsOf (List.replicate m (.int 0)) = .inl (List.replicate m ((0 : Int) : Rat)) := by
    intro m
    induction m with
    | zero => rfl
    | succ m ih =>
      rw [List.replicate_succ, List.replicate_succ]
      simp [numsOf, numOf, ih]
  have tb : tabOf [.lst (List.replicate 40 (.int 0))] = .inl [List.replicate 40 ((0 : Int) : Rat)] := by
    have e : (D.lst (List.replicate 40 (.int 0))).seq.getD [] = List.replicate 40 (.int 0) := rfl
    unfold tabOf
    rw [e, nz]
    rfl
  refine ⟨_, _, .int 40, rfl, trivial, ⟨trivial, fun xs e x hx => by cases e; simp only [List.mem_singleton] at hx; subst hx; trivial⟩, trivial, ?_⟩
  have tt : isTab (.lst [.lst (List.replicate 40 (.int 0))]) 40 = true := by
    show (isRw 40 (.lst (List.replicate 40 (.int 0))) && true) = true
    rw [Bool.and_true]
    show decide (((List.replicate 40 (D.int 0)).length : Int) = 40) = true
    rw [List.length_replicate]
    decide
  show if (40 : Int) < 0 then _ else _
  rw [if_neg (by decide), if_neg (by rw [tt]; decide)]
  show if ([.int 0] : List D).length ≠ ([.lst (List.replicate 40 (.int 0))] : List D).length then _ else _
  rw [if_neg (fun z => z rfl)]
  rw [if_neg (by show ¬ (40 < 1 ∨ (40 : Int) < 40); decide)]
  refine ⟨fun x hx y hy => ?_, ?_⟩
  · simp only [List.mem_singleton] at hx
    subst hx
    have hy : y ∈ List.replicate 40 (D.int 0) := hy
    rw [List.eq_of_mem_replicate hy]
    trivial
  · rw [tb]
    refine ⟨fun y hy => by simp only [List.mem_singleton] at hy; subst hy; trivial, ?_⟩
    refine ⟨36, lq_36, fun r hr => ?_, fun x hx => ?_, .inl (by decide), fun x fs k B B2 hS hB => ?_, fun x B hW => ?_⟩
    · simp only [List.mem_singleton] at hr
      subst hr
      exact ⟨by rw [List.length_replicate]; rfl, fun x hx => by rw [List.eq_of_mem_replicate hx]; exact zero_cq⟩
    · have : x = ((0 : Int) : Rat) := by simpa using hx
      rw [this]; exact zero_cq
    · have l : fs.length + k = 40 := hB.len
      have rk : Rk 1 40 (AM [List.replicate 40 ((0 : Int) : Rat)]) k := hB.rk
      have := rk.eq (rk_zero fun i j hi hj => by
        have : i = 0 := by omega
        subst this
        show (List.replicate 40 ((0 : Int) : Rat)).getD j 0 = 0
        rw [List.getD_eq_getElem?_getD, List.getElem?_replicate, if_pos hj]
        rfl)
      exact q x fs (by omega)
    · have o : (0 : Rat) + rat x 0 * ((0 : Int) : Rat) = 1 := hW.one
      have z : ((0 : Int) : Rat) = 0 := rfl
      rw [z] at o
      exfalso
      have : (0 : Rat) = 1 := by grind
      exact absurd this (by decide)
end
theorem ex_w {i : Nat} {a : Addr} {o : Option Addr} {C : Addr} {v1 v2 : D} {sl : List Slot} {S : List Int} {Q : Res → List Int → Prop} {E : PX → List Int → Prop} (h : sl[i]? = some (.exc a o ⟨C, ["word", "most"], [v1, v2]⟩)) (q : Q (.dat v1) S) : pExF i a o "word" sl S Q E := by
  unfold pExF
  rw [h]
  exact ⟨rfl, rfl, q⟩
theorem ex_m {i : Nat} {a : Addr} {o : Option Addr} {C : Addr} {v1 v2 : D} {sl : List Slot} {S : List Int} {Q : Res → List Int → Prop} {E : PX → List Int → Prop} (h : sl[i]? = some (.exc a o ⟨C, ["word", "most"], [v1, v2]⟩)) (q : Q (.dat v2) S) : pExF i a o "most" sl S Q E := by
  unfold pExF
  rw [h]
  exact ⟨rfl, rfl, q⟩
theorem t7_ok {C_BadNumber C_BadTable C_TooMuch : Addr} {S : List Int} {Q : Res → List Int → Prop} {E : PX → List Int → Prop} {s0 s1 s4 s5 : Slot} {x y : D} (q : Q (.own [x, y]) S) : t__law_much_7 C_BadNumber C_BadTable C_TooMuch (ends Q E) [s0, s1, .dat x, .dat y, s4, s5] S := by
  have z2 : (2 : Nat) ≤ sizeLine := by decide
  unfold t__law_much_7
  simp
  exact ⟨z2, q⟩
theorem pf__law_much (C_BadNumber C_BadTable C_TooMuch : Addr) : ∀ rs S Q E, sp__law_much rs S Q E → p__law_much C_BadNumber C_BadTable C_TooMuch (ends Q E) (rs.map Res.slot ++ List.replicate (6 - rs.length) .un) S := by
  rintro rs S Q E ⟨i, hi, hq⟩
  have h : i = 0 ∨ i = 1 ∨ i = 2 := by omega
  have hz64 : (64 : Nat) ≤ sizeLine := by decide
  have z1 : (1 : Nat) ≤ sizeLine := by decide
  have z2 : (2 : Nat) ≤ sizeLine := by decide
  have z0 : (0 : Nat) ≤ sizeLine := by decide
  rw [e__law_much]
  rcases h with rfl | rfl | rfl <;> rcases hq with ⟨rfl, q⟩ | ⟨rfl, q⟩ <;> simp <;> unfold t__law_much_1 <;> simp <;> unfold t__law_much_2 <;> simp [pTry]
  · simp [t__law_much_3, rng_len]
    refine ⟨by unfold sm62; decide, by omega, ?_⟩
    refine lc_rng (fun _ => .lst [.tup [.int 1, .int 2]]) (fun j hj N hN => ?_) ?_
    · simp
      exact ⟨by omega, by omega, hN⟩
    · rw [map_rep]
      refine much_rank ?_
      exact t7_ok q
  · simp [t__law_much_3, rng_len]
    refine ⟨by unfold sm62; decide, by omega, ?_⟩
    refine lc_rng (fun _ => .lst [.tup [.int 1, .int 2]]) (fun j hj N hN => ?_) ?_
    · simp
      exact ⟨by omega, by omega, hN⟩
    · rw [map_rep]
      exact rank_much (okT_rep trivial) (by decide) (isTab_rep (by decide)) rfl (.inl (by rw [List.length_replicate]; decide)) ⟨rfl, fun a o => ex_w rfl (ex_m rfl ⟨z2, t7_ok q⟩)⟩
  · simp [t__law_much_4, t__law_much_5]
    refine ⟨by omega, much_ties fun fs hf => ?_⟩
    simp [hf]
    refine rank_nil (n := 40) (by decide) ?_
    simp
    exact t7_ok q
  · simp [t__law_much_4, t__law_much_5]
    refine ⟨by omega, much_ties fun fs hf => ?_⟩
    simp [hf]
    exact rank_much (d := .lst []) ⟨trivial, fun xs e x hx => by cases e; cases hx⟩ (by decide) (by decide) rfl (.inr (by decide)) ⟨rfl, fun a o => ex_w rfl (ex_m rfl ⟨z2, t7_ok q⟩)⟩
  · simp [t__law_much_4, t__law_much_6]
    refine ⟨by omega, by omega, by omega, much_sol fun x fs hf => ?_⟩
    simp [at22, hf]
    exact t7_ok q
  · simp [t__law_much_4, t__law_much_6]
    refine ⟨by omega, by omega, by omega, ?_⟩
    exact sol_much ⟨trivial, fun xs e x hx => by cases e; simp only [List.mem_singleton] at hx; subst hx; trivial⟩ trivial (by decide) (by decide) rfl rfl rfl (.inr (by decide)) ⟨rfl, fun a o => ex_w rfl (ex_m rfl ⟨z2, t7_ok q⟩)⟩
end K05
end
section
set_option Elab.async false
set_option linter.all false
set_option maxRecDepth 100000
namespace K05
open PySem L2 Py LA
theorem shp_word {i : Nat} (h : i < 8) : shp (.str (words8.getD i "")) := by
  have : i = 0 ∨ i = 1 ∨ i = 2 ∨ i = 3 ∨ i = 4 ∨ i = 5 ∨ i = 6 ∨ i = 7 := by omega
  rcases this with rfl | rfl | rfl | rfl | rfl | rfl | rfl | rfl <;> exact ⟨rfl, by decide +kernel⟩
def wordsD : List D := [.str "many", .str "many", .str "rows", .str "due", .str "rows", .str "vectors", .str "many", .str "due"]
theorem words_at {i : Nat} (h : i < 8) : atI wordsD (i : Int) = some (.str (words8.getD i "")) := by
  have : i = 0 ∨ i = 1 ∨ i = 2 ∨ i = 3 ∨ i = 4 ∨ i = 5 ∨ i = 6 ∨ i = 7 := by omega
  rcases this with rfl | rfl | rfl | rfl | rfl | rfl | rfl | rfl <;> rfl
theorem pf__law_refused : ∀ rs S Q E, sp__law_refused rs S Q E → p__law_refused (ends Q E) (rs.map Res.slot ++ List.replicate (3 - rs.length) .un) S := by
  rintro rs S Q E ⟨rfl, q⟩
  have hz64 : (64 : Nat) ≤ sizeLine := by decide
  rw [e__law_refused]
  simp
  refine ⟨by omega, ?_⟩
  unfold t__law_refused_1
  simp
  refine ⟨by unfold sm62; decide, ?_⟩
  refine for_ind (fun i sl S' => S' = S ∧ i ≤ 8 ∧ ∃ s1, sl = [.own wordsD, s1, .un]) ⟨rfl, by omega, _, rfl⟩ ?_ ?_
  · rintro i d sl S' N hi ⟨rfl, hi8, s1, rfl⟩ hN
    obtain ⟨hil, rfl⟩ := rng_get hi
    have w := words_at hil
    simp
    refine ⟨i, rfl, hil, ?_⟩
    simp [w]
    refine fNe_self (shp_word hil) ?_
    simp
    exact hN _ _ ⟨rfl, by omega, _, rfl⟩
  · rintro sl S' ⟨rfl, hi8, s1, rfl⟩
    unfold t__law_refused_2
    simp
    refine ⟨0, rfl, by decide, by omega, by omega, fNe_self (d := .lst [.tup [.int 1, .int 0]]) ⟨rfl, rfl⟩ ?_⟩
    simp
    refine ⟨1, rfl, by decide, by omega, fNe_self (d := .lst [.non]) ⟨rfl, rfl⟩ ?_⟩
    simp
    refine ⟨3, rfl, by decide, by omega, by omega, fNe_self (d := .lst [.tup [.int 1, .int (-2)]]) ⟨rfl, rfl⟩ ?_⟩
    simp
    unfold t__law_refused_3
    simp
    refine ⟨2, rfl, by decide, ?_⟩
    have b2 : bad4 2 = .bl true := rfl
    have a0 : ∀ x : D, atI [x] 0 = some x := fun _ => rfl
    simp [b2]
    unfold t__law_refused_4
    simp [a0]
    unfold t__law_refused_5
    simp
    refine ⟨by unfold sm62; decide, ?_⟩
    refine for_ind (fun i sl S2 => S2 = S' ∧ i ≤ 3 ∧ ∃ s1, sl = [.own wordsD, s1, .own [.bl true]]) ⟨rfl, by omega, _, rfl⟩ ?_ ?_
    · rintro i d sl S2 N hi ⟨rfl, hi3, s1, rfl⟩ hN
      obtain ⟨hil, rfl⟩ := rng_get hi
      have h3 : atI [D.int 1, .int 0, .int 0] (i : Int) = some (.int (if i = 0 then 1 else 0)) := by
        have : i = 0 ∨ i = 1 ∨ i = 2 := by omega
        rcases this with rfl | rfl | rfl <;> rfl
      simp
      refine ⟨i, hil, .inl ⟨rfl, ?_⟩⟩
      simp [h3]
      refine ⟨by omega, by omega, fNe_self ⟨rfl, rfl⟩ ?_⟩
      simp
      unfold t__law_refused_6
      simp
      refine ⟨i, hil, .inr ⟨rfl, ?_⟩⟩
      simp
      refine ⟨by omega, fNe_self (d := .lst [.tup [.str "table", .int 40], .non]) ⟨rfl, by decide +kernel⟩ ?_⟩
      simp
      exact hN _ _ ⟨rfl, by omega, _, rfl⟩
    · rintro sl S2 ⟨rfl, hi3, s1, rfl⟩
      unfold t__law_refused_7
      simp
      exact q
end K05
end
section
set_option Elab.async false
set_option linter.all false
set_option maxRecDepth 100000
namespace K05
open PySem L2 Py LA
theorem nolsts_nD : ∀ r : List Rat, nolsts (r.map nD) = true
  | [] => rfl
  | x :: r => by
    show ((nD x).nolst && nolsts (r.map nD)) = true
    rw [nolsts_nD r]; rfl
theorem n0_285 : 360 * N0 < 2 ^ 285 := by decide
theorem n0_dot : 5 * (60 * N0 * N0) * 36 < 2 ^ 283 := by decide
theorem dq_lq {q : Rat} (h : DQ q) : LQ q := by
  obtain ⟨h1, h2⟩ := h
  refine ⟨Nat.dvd_trans h1 ⟨6, rfl⟩, ?_⟩
  have := vb_num h2 h1 (by decide)
  have := n0_285
  omega
theorem rowq_lq {q : Rat} (h1 : q.den ∣ 6) (h2 : vb (60 * N0) q) : LQ q := by
  refine ⟨Nat.dvd_trans h1 ⟨6, rfl⟩, ?_⟩
  have := vb_num h2 h1 (by decide)
  have := n0_285
  omega
theorem dq_sq {N : Nat} {q : Rat} (hN : N ≤ 60 * N0) (h1 : q.den ∣ 6) (h2 : vb N q) : SQ 300 q := by
  have a := vb_num h2 h1 (by decide)
  have b := Nat.le_of_dvd (by decide) h1
  have c := n0_285
  have d : (2 : Nat) ^ 285 ≤ 2 ^ 300 := Nat.pow_le_pow_right (by decide) (by decide)
  refine ⟨?_, Nat.lt_of_le_of_lt b (by decide)⟩
  show q.num.natAbs < 2 ^ 300
  have : N * 6 ≤ 360 * N0 := by omega
  omega
/-- a due number -/
theorem due_lq {m ans : List Rat} {n : Nat} (hn : n ≤ 5) (hm : RowQ (60 * N0) n m) (ha : ans.length = n) (hq : ∀ q ∈ ans, DQ q) : (dotR m ans).den ∣ 36 ∧ (dotR m ans).num.natAbs < 2 ^ 283 := by
  have t : ∀ i, i < m.length → (rat m i * rat ans i).den ∣ 36 ∧ vb (60 * N0 * N0) (rat m i * rat ans i) := fun i hi => by
    have a := hm.2 _ (rat_mem hi)
    have b := hq _ (rat_mem (show i < ans.length by rw [ha, ← hm.1]; exact hi))
    exact ⟨den_mul (L := 6) (M := 6) a.1 b.1, vb_mul a.2 b.2⟩
  have d : (dotR m ans).den ∣ 36 := sum_den fun i hi => (t i hi).1
  refine ⟨d, ?_⟩
  have v : vb (m.length * (60 * N0 * N0)) (dotR m ans) := sum_vb fun i hi => (t i hi).2
  have v2 := vb_num (vb_mono v (Nat.mul_le_mul_right (60 * N0 * N0) (show m.length ≤ 5 by rw [hm.1]; exact hn))) d (by decide)
  exact Nat.lt_of_le_of_lt v2 n0_dot
theorem due_dot {m ans : List Rat} {n : Nat} {d : D} {S : List Int} {Q : Res → List Int → Prop} {E : PX → List Int → Prop} (hn : n ≤ 5) (hm : RowQ (60 * N0) n m) (hd : isRow d m) (ha : ans.length = n) (hq : ∀ q ∈ ans, DQ q) (q : Q (.dat (nD (dotR m ans))) S) : sp__law_dot [.dat d, .dat (qL ans)] S Q E := by
  have p1 : 60 * N0 * N0 < 2 ^ 50000 := Nat.lt_of_lt_of_le (by decide : 60 * N0 * N0 < 2 ^ 300) (Nat.pow_le_pow_right (by decide) (by decide))
  refine ⟨d, qL ans, m, ans, 300, 60 * N0 * N0, 36, rfl, hd, .inr rfl, by rw [ha, hm.1]; exact Nat.le_refl _, by rw [hm.1]; omega, by decide, by decide, Nat.lt_of_lt_of_le (by decide : 36 < 2 ^ 6) (Nat.pow_le_pow_right (by decide) (by decide)), p1, fun i hi => ?_, q⟩
  have a := hm.2 _ (rat_mem hi)
  have b := hq _ (rat_mem (show i < ans.length by rw [ha, ← hm.1]; exact hi))
  refine ⟨dq_sq (Nat.le_refl _) a.1 a.2, dq_sq (N := N0) (by omega) b.1 b.2, ?_, vb_mul a.2 b.2⟩
  exact (Nat.mul_dvd_mul a.1 b.1 : _ ∣ 6 * 6)
/-- the due that is spoilt -/
theorem spoil_lq {x : Rat} {a c : Nat} (h1 : x.den ∣ 36) (h2 : x.num.natAbs < 2 ^ 283) (ha : a ≤ 5) (hc : c = 1 ∨ c = 2) : LQ (x + Rat.divInt a c) := by
  have hd : (Rat.divInt (a : Int) (c : Int)).den ∣ 36 := by
    have cn : ((c : Nat) : Int) ≠ 0 := by omega
    have t := (divInt_ts (z := a) cn rfl).1
    have : (c : Int).natAbs ∣ 36 := by
      rcases hc with rfl | rfl
      · exact ⟨36, rfl⟩
      · exact ⟨18, rfl⟩
    exact Nat.dvd_trans t this
  have hv : vb 5 (Rat.divInt (a : Int) (c : Int)) := by
    have cn : ((c : Nat) : Int) ≠ 0 := by omega
    have t := (divInt_ts (z := a) cn rfl).2
    have d0 : 0 < (Rat.divInt (a : Int) (c : Int)).den := Nat.pos_of_ne_zero (Rat.divInt (a : Int) (c : Int)).den_nz
    unfold vb
    have : (a : Int).natAbs = a := rfl
    have : 5 ≤ 5 * (Rat.divInt (a : Int) (c : Int)).den := by omega
    omega
  have dd := den_add h1 hd
  refine ⟨dd, ?_⟩
  have e : x + Rat.divInt (a : Int) (c : Int) = Rat.divInt (x.num * c + a * x.den) (x.den * c) := add_divInt2 x a c (by omega)
  have cn : ((x.den : Int) * (c : Int)) ≠ 0 := by
    have := x.den_nz
    exact Int.mul_ne_zero (by omega) (by omega)
  have t := (divInt_ts cn e).2
  have xd : x.den ≤ 36 := Nat.le_of_dvd (by decide) h1
  have b1 : (x.num * (c : Int)).natAbs ≤ x.num.natAbs * 2 := by
    rw [Int.natAbs_mul]
    exact Nat.mul_le_mul_left _ (by omega)
  have b2 : ((a : Int) * (x.den : Int)).natAbs ≤ 5 * 36 := by
    rw [Int.natAbs_mul]
    exact Nat.mul_le_mul (by omega) (by omega)
  have b3 : (x.num * (c : Int) + (a : Int) * (x.den : Int)).natAbs ≤ (x.num * (c : Int)).natAbs + ((a : Int) * (x.den : Int)).natAbs := Int.natAbs_add_le _ _
  have p : (2 : Nat) ^ 283 * 2 + 180 < 2 ^ 285 := by decide
  omega
/-- the law's rows, with the last one a mix -/
structure Tab (M : List (List Rat)) (w : List Rat) (n : Nat) : Prop where
  n5 : n ≤ 5
  len : M.length ≤ 5
  rows : ∀ m ∈ M, RowQ (6 * N0) n m
  wl : w.length = M.length
  last : RowQ (60 * N0) n (mixR w M n)
theorem Tab.all {M : List (List Rat)} {w : List Rat} {n : Nat} (t : Tab M w n) : ∀ m ∈ M ++ [mixR w M n], RowQ (60 * N0) n m := fun m hm => by
  rcases List.mem_append.mp hm with z | z
  · have h := t.rows m z
    exact ⟨h.1, fun q hq => ⟨(h.2 q hq).1, vb_mono (h.2 q hq).2 (by omega)⟩⟩
  · have : m = mixR w M n := by simpa using z
    rw [this]; exact t.last
theorem Tab.lt {M : List (List Rat)} {w : List Rat} {n : Nat} (t : Tab M w n) : LT n (M ++ [mixR w M n]) := fun m hm => ⟨(t.all m hm).1, fun q hq => rowq_lq ((t.all m hm).2 q hq).1 ((t.all m hm).2 q hq).2⟩
theorem Tab.ent {M : List (List Rat)} {w : List Rat} {n : Nat} {i j : Nat} (hi : i < M.length) : ent (M ++ [mixR w M n]) i j = ent M i j := by
  unfold K05.ent
  rw [List.getD_eq_getElem?_getD, List.getElem?_append_left hi, List.getD_eq_getElem?_getD]
theorem Tab.entl {M : List (List Rat)} {w : List Rat} {n : Nat} {j : Nat} (hj : j < n) : K05.ent (M ++ [mixR w M n]) M.length j = sumN w.length fun i => rat w i * K05.ent M i j := by
  unfold K05.ent
  rw [List.getD_eq_getElem?_getD, List.getElem?_append_right (Nat.le_refl _), Nat.sub_self]
  show rat (mixR w M n) j = _
  unfold rat mixR
  simp [hj]
  rfl
/-- what is due -/
abbrev dueR (R : List (List Rat)) (ans : List Rat) : List Rat := R.map fun m => dotR m ans
theorem dueR_at {R : List (List Rat)} {ans : List Rat} {n i : Nat} (hR : ∀ m ∈ R, m.length = n) (hi : i < R.length) : rat (dueR R ans) i = sumN n fun j => ent R i j * rat ans j := by
  have l := hR _ (List.getElem_mem hi)
  have e : rat (dueR R ans) i = dotR R[i] ans := by simp [rat, dueR, hi]
  rw [e]
  unfold dotR
  rw [l]
  exact sumN_congr fun j _ => by simp [ent, hi]
/-- the last due spoilt: no answer -/
theorem spoilt_cert {M : List (List Rat)} {w ans : List Rat} {n : Nat} (t : Tab M w n) {δ : Rat} (hδ : δ ≠ 0) {sp : List Rat} (h1 : ∀ i, i < M.length → rat sp i = rat (dueR (M ++ [mixR w M n]) ans) i) (h2 : rat sp M.length = rat (dueR (M ++ [mixR w M n]) ans) M.length + δ) : Cert (M ++ [mixR w M n]).length n (AM (M ++ [mixR w M n])) (rat sp) := by
  have rl : (M ++ [mixR w M n]).length = M.length + 1 := by simp
  have al : ∀ m ∈ M ++ [mixR w M n], m.length = n := fun m hm => (t.all m hm).1
  rw [rl]
  let μ : Nat → Rat := fun i => if i < M.length then rat w i else -1
  have m1 : ∀ i, i < M.length → μ i = rat w i := fun i hi => if_pos hi
  have m2 : μ M.length = -1 := if_neg (by omega)
  have z : ∀ j, j < n → sumN (M.length + 1) (fun i => μ i * AM (M ++ [mixR w M n]) i j) = 0 := fun j hj => by
    show sumN M.length (fun i => μ i * K05.ent (M ++ [mixR w M n]) i j) + μ M.length * K05.ent (M ++ [mixR w M n]) M.length j = 0
    rw [m2, Tab.entl hj, t.wl, sumN_congr fun i hi => by rw [m1 i hi, Tab.ent hi]]
    grind
  -- the sum of the dues
  have d0 : sumN (M.length + 1) (fun i => μ i * rat (dueR (M ++ [mixR w M n]) ans) i) = 0 := by
    have e : sumN (M.length + 1) (fun i => μ i * rat (dueR (M ++ [mixR w M n]) ans) i) = sumN (M.length + 1) fun i => sumN n fun j => μ i * (AM (M ++ [mixR w M n]) i j * rat ans j) := sumN_congr fun i hi => by
      rw [dueR_at al (by rw [rl]; exact hi), sumN_mul]
    rw [e, sumN_swap (fun i j => μ i * (AM (M ++ [mixR w M n]) i j * rat ans j)) n (M.length + 1)]
    refine sumN_zero fun j hj => ?_
    have e2 : (fun i => μ i * (AM (M ++ [mixR w M n]) i j * rat ans j)) = fun i => rat ans j * (μ i * AM (M ++ [mixR w M n]) i j) := by
      funext i; grind
    rw [e2, sumN_mul, z j hj]; grind
  have d1 : sumN (M.length + 1) (fun i => μ i * rat sp i) = - δ := by
    show sumN M.length (fun i => μ i * rat sp i) + μ M.length * rat sp M.length = - δ
    have d0 : sumN M.length (fun i => μ i * rat (dueR (M ++ [mixR w M n]) ans) i) + μ M.length * rat (dueR (M ++ [mixR w M n]) ans) M.length = 0 := d0
    rw [sumN_congr (g := fun i => μ i * rat (dueR (M ++ [mixR w M n]) ans) i) fun i hi => by rw [h1 i hi], h2, m2]
    rw [m2] at d0
    grind
  refine ⟨fun i => - (1 / δ) * μ i, fun j hj => ?_, ?_⟩
  · have e : sumN (M.length + 1) (fun i => - (1 / δ) * μ i * AM (M ++ [mixR w M n]) i j) = - (1 / δ) * sumN (M.length + 1) fun i => μ i * AM (M ++ [mixR w M n]) i j := by
      rw [← sumN_mul]
      exact sumN_congr fun i _ => by grind
    rw [e, z j hj]; grind
  · have e : sumN (M.length + 1) (fun i => - (1 / δ) * μ i * rat sp i) = - (1 / δ) * sumN (M.length + 1) fun i => μ i * rat sp i := by
      rw [← sumN_mul]
      exact sumN_congr fun i _ => by grind
    rw [e, d1]; grind
end K05
end
section
set_option Elab.async false
set_option linter.all false
set_option maxRecDepth 100000
namespace K05
open PySem L2 Py LA
section
variable {P : PEnds} {R : List (List Rat)} {n : Nat} {s0 s4 s5 s6 s7 s8 s9 s10 s11 s12 : Slot} {S : List Int}
theorem law_13 (hP : ∀ S, P.rt (.dat (.bl true)) S) (hn : n ≤ 5) (hl : R.length ≤ 6) (hR : LT n R) :
    t_law_13 P [s0, .drw, .dat (.int n), .dat (.lst (R.map qL)), s4, s5, s6, s7, s8, s9, s10, s11, s12] S := by
  unfold t_law_13
  simp
  refine ⟨R, n, rfl, hl, hn, hR, fun S' => ?_⟩
  simp
  unfold t_law_14
  simp
  exact ⟨rfl, hP _⟩
theorem law_11 (hP : ∀ S, P.rt (.dat (.bl true)) S) (hn : n ≤ 5) (hl : R.length ≤ 6) (hR : LT n R) :
    t_law_11 P [s0, .drw, .dat (.int n), .dat (.lst (R.map qL)), s4, s5, s6, s7, s8, s9, s10, s11, s12] S := by
  have hz64 : (64 : Nat) ≤ sizeLine := by decide
  unfold t_law_11
  simp
  refine ⟨by omega, ?_⟩
  refine lc_draw (R := fun (d : D) (r : List Rat) => d = qL r) (ms := R) (T := fun y (_ : List Rat) => ∃ q, DQ q ∧ y = nD q) (Py.paired_map (f := qL) (fun _ => rfl) R) (fun d j hd _ S3 F hF => ?_) fun ys S3 hys => ?_
  · simp
    exact ⟨rfl, fun q S4 hq => hF _ _ ⟨q, hq, rfl⟩⟩
  · have key : ∀ (ys : List D) (ks : List (List Rat)), Paired (fun y (_ : List Rat) => ∃ q, DQ q ∧ y = nD q) ys ks → ∃ r : List Rat, ys = r.map nD ∧ r.length = ks.length ∧ ∀ q ∈ r, DQ q := by
      intro ys ks h
      induction h with
      | nil => exact ⟨[], rfl, rfl, fun q hq => (by cases hq)⟩
      | cons h1 _ ih =>
        obtain ⟨q, hq, rfl⟩ := h1
        obtain ⟨r, rfl, hl, hr⟩ := ih
        exact ⟨q :: r, rfl, by simp [hl], fun p hp => by
          rcases List.mem_cons.mp hp with z | z
          · rw [z]; exact hq
          · exact hr p z⟩
    obtain ⟨r, rfl, hrl, hrq⟩ := key ys R hys
    unfold t_law_12
    simp
    refine ⟨R, r, n, rfl, hrl, hl, hn, hR, fun q hq => dq_lq (hrq q hq), fun S' => ⟨fun _ => ?_, fun _ => ?_⟩⟩
    · simp
      exact law_13 hP hn hl hR
    · simp
      exact law_13 hP hn hl hR
end
section
variable {P : PEnds} {M : List (List Rat)} {w ans : List Rat} {n : Nat} {s0 s4 s5 s6 s7 s8 s9 s10 s11 s12 : Slot} {S : List Int}
theorem law_7 (hP : ∀ S, P.rt (.dat (.bl true)) S) (t : Tab M w n) (ha : ans.length = n) (hq : ∀ q ∈ ans, DQ q) :
    t_law_7 P [s0, .drw, .dat (.int n), .dat (.lst ((M ++ [mixR w M n]).map qL)), s4, s5, .dat (.lst ((dueR (M ++ [mixR w M n]) ans).map nD)), s7, s8, s9, s10, s11, s12] S := by
  have hz64 : (64 : Nat) ≤ sizeLine := by decide
  have n5 := t.n5
  have ml := t.len
  have rl : (M ++ [mixR w M n]).length = M.length + 1 := by simp
  have dl : (dueR (M ++ [mixR w M n]) ans).length = M.length + 1 := by simp
  have lt := t.lt
  have dq : ∀ x ∈ dueR (M ++ [mixR w M n]) ans, x.den ∣ 36 ∧ x.num.natAbs < 2 ^ 283 := fun x hx => by
    obtain ⟨m, hm, rfl⟩ := List.mem_map.mp hx
    exact due_lq n5 (t.all m hm) ha hq
  have cert := fun (δ : Rat) (hδ : δ ≠ 0) (sp : List Rat) => spoilt_cert (ans := ans) t hδ (sp := sp)
  unfold t_law_7
  simp only [pSeq, pFrz, List.getElem?_cons_zero, List.getElem?_cons_succ, List.set_cons_zero, List.set_cons_succ, Slot.frz]
  generalize dueR (M ++ [mixR w M n]) ans = due at *
  generalize M ++ [mixR w M n] = R at *
  simp
  refine ⟨by omega, ?_⟩
  refine lc_pair (R := fun d (q : Rat) => d = nD q) nD (Py.paired_map (f := nD) (fun _ => rfl) due) (fun d q hd _ N hN => ?_) ?_
  · subst hd
    simp
    exact hN
  · unfold t_law_8
    simp
    unfold t_law_9
    have e1 : ((due.length : Int) - 1) = ((M.length : Nat) : Int) := by omega
    have e2 := at_row (r := due) (i := M.length) (by omega)
    have e3 : ixN due.length ((due.length : Int) - 1) = some M.length := by
      rw [e1]
      exact ixN_nat (by omega)
    rw [e1] at e3
    simp [e1, e2]
    refine ⟨5, rfl, by decide, fun a S1 a0 a5 => ?_⟩
    refine ⟨2, rfl, by decide, fun c S2 c0 c2 => ⟨by omega, ?_⟩⟩
    obtain ⟨a, rfl⟩ : ∃ a' : Nat, a = a' := ⟨a.toNat, by omega⟩
    obtain ⟨c, rfl⟩ : ∃ c' : Nat, c = c' := ⟨c.toNat, by omega⟩
    have ec : (1 + (c : Int)) = ((1 + c : Nat) : Int) := by omega
    have ea : (1 + (a : Int)) = ((1 + a : Nat) : Int) := by omega
    rw [ec, ea]
    have dm := dq _ (rat_mem (show M.length < due.length by omega))
    have dd : (rat due M.length).den ≤ 36 := Nat.le_of_dvd (by decide) dm.1
    have p1 : (2 : Nat) ^ 283 ≤ 2 ^ 300 := Nat.pow_le_pow_right (by decide) (by decide)
    have p2 : (2 : Nat) ^ 10 ≤ 2 ^ 300 := Nat.pow_le_pow_right (by decide) (by decide)
    have p3 : (2 : Nat) ^ 10 ≤ 2 ^ 8999 := Nat.pow_le_pow_right (by decide) (by decide)
    have p4 : (2 : Nat) ^ 283 ≤ 2 ^ 285 := Nat.pow_le_pow_right (by decide) (by decide)
    refine .inr ⟨rat due M.length, ((1 + a : Nat) : Int), 1 + c, 300, rfl, by omega, ⟨Nat.lt_of_lt_of_le dm.2 p1, by omega⟩, ?_, by omega, by decide, ?_, ?_⟩
    · show ((1 + a : Nat) : Int).natAbs < 2 ^ 300
      rw [Int.natAbs_natCast]
      omega
    · have : (rat due M.length).den * (1 + c) ≤ 36 * 2 := Nat.mul_le_mul dd (by omega)
      omega
    · refine ⟨_, rfl, ?_⟩
      rw [e3]
      have δ0 : Rat.divInt ((1 + a : Nat) : Int) ((1 + c : Nat) : Int) ≠ 0 := fun z => by
        have m := divInt_mul (z := ((1 + a : Nat) : Int)) (d := ((1 + c : Nat) : Int)) (by omega)
        rw [z] at m
        have : (((1 + a : Nat) : Int) : Rat) = ((0 : Int) : Rat) := by
          rw [← m]; show (0 : Rat) * _ = 0; grind
        have := cast_inj this
        omega
      have xl : LQ (rat due M.length + Rat.divInt ((1 + a : Nat) : Int) ((1 + c : Nat) : Int)) := spoil_lq dm.1 dm.2 (by omega) (by omega)
      generalize Rat.divInt ((1 + a : Nat) : Int) ((1 + c : Nat) : Int) = δ at *
      have es : (due.map nD).set M.length (nD (rat due M.length + δ)) = (due.set M.length (rat due M.length + δ)).map nD := by rw [List.map_set]
      have C := cert δ δ0 (due.set M.length (rat due M.length + δ)) (fun i hi => by
        have : ¬ M.length = i := by omega
        simp [rat, List.getElem?_set_ne this]) (by
        have : M.length < due.length := by omega
        simp [rat, this])
      dsimp only
      rw [es]
      unfold t_law_10
      simp only [pSeq, pFrz, List.getElem?_cons_zero, List.getElem?_cons_succ, List.set_cons_zero, List.set_cons_succ, Slot.frz]
      simp
      refine ⟨R, due.set M.length (rat due M.length + δ), n, ?_, by simp; omega, by omega, n5, lt, fun x hx => ?_, fun S' => ⟨fun hy => ?_, fun _ => ?_⟩⟩
      · simp [qL, List.map_set]
      · rcases List.mem_or_eq_of_mem_set hx with z | z
        · have := dq x z
          exact ⟨this.1, by omega⟩
        · rw [z]; exact xl
      · obtain ⟨y, hy⟩ := hy
        exact (cert_not C (y := y) fun i hi => hy i hi).elim
      · simp
        refine fNe_self shp_none ?_
        simp
        exact law_11 hP n5 (by omega) lt
theorem law_5 (hP : ∀ S, P.rt (.dat (.bl true)) S) (t : Tab M w n) (ha : ans.length = n) (hq : ∀ q ∈ ans, DQ q) :
    t_law_5 P [s0, .drw, .dat (.int n), .own ((M ++ [mixR w M n]).map qL), .own (ans.map nD), s5, s6, s7, s8, s9, s10, s11, s12] S := by
  have hz64 : (64 : Nat) ≤ sizeLine := by decide
  have n5 := t.n5
  have ml := t.len
  have rl : (M ++ [mixR w M n]).length = M.length + 1 := by simp
  have lt := t.lt
  have al : ∀ m ∈ M ++ [mixR w M n], m.length = n := fun m hm => (t.all m hm).1
  have dl : (dueR (M ++ [mixR w M n]) ans).length = M.length + 1 := by simp
  have dq : ∀ x ∈ dueR (M ++ [mixR w M n]) ans, x.den ∣ 36 ∧ x.num.natAbs < 2 ^ 283 := fun x hx => by
    obtain ⟨m, hm, rfl⟩ := List.mem_map.mp hx
    exact due_lq n5 (t.all m hm) ha hq
  have p4 : (2 : Nat) ^ 283 ≤ 2 ^ 285 := Nat.pow_le_pow_right (by decide) (by decide)
  have ta := t.all
  have L7 := @law_7 P M w ans n
  unfold t_law_5
  simp only [pSeq, pFrz, List.getElem?_cons_zero, List.getElem?_cons_succ, List.set_cons_zero, List.set_cons_succ, Slot.frz]
  have hdef : dueR (M ++ [mixR w M n]) ans = (M ++ [mixR w M n]).map fun m => dotR m ans := rfl
  have sol : ∀ i, i < (M ++ [mixR w M n]).length → sumN n (fun j => ent (M ++ [mixR w M n]) i j * rat ans j) = rat (dueR (M ++ [mixR w M n]) ans) i := fun i hi => (dueR_at al hi).symm
  generalize hdu : dueR (M ++ [mixR w M n]) ans = due at *
  generalize M ++ [mixR w M n] = R at *
  simp
  refine ⟨by omega, ?_⟩
  refine lc_pair (R := fun d (m : List Rat) => d = qL m) (fun m => nD (dotR m ans)) (Py.paired_map (f := qL) (fun _ => rfl) R) (fun d m hd hm N hN => ?_) ?_
  · subst hd
    simp
    exact due_dot n5 (ta m hm) (.inr rfl) ha hq hN
  · have e : R.map (fun m => nD (dotR m ans)) = due.map nD := by rw [hdef, List.map_map]; rfl
    rw [e]
    unfold t_law_6
    simp only [pSeq, pFrz, List.getElem?_cons_zero, List.getElem?_cons_succ, List.set_cons_zero, List.set_cons_succ, Slot.frz]
    simp
    refine ⟨R, due, n, rfl, by omega, by omega, n5, lt, fun x hx => ⟨(dq x hx).1, by have := (dq x hx).2; omega⟩, fun S' => ⟨fun _ => ?_, fun hc => ?_⟩⟩
    · simp
      refine fNe_self shp_all ?_
      simp
      exact L7 hP t ha hq
    · exact (cert_not hc (y := rat ans) sol).elim
theorem law_1 (hP : ∀ S, P.rt (.dat (.bl true)) S) (n5 : n ≤ 5) : t_law_1 P [s0, .drw, .dat (.int n), .un, .un, .un, .un, .un, .un, .un, .un, .un, .un] S := by
  have hz64 : (64 : Nat) ≤ sizeLine := by decide
  unfold t_law_1
  simp
  refine ⟨n, rfl, n5, fun M S1 hMl hM => ?_⟩
  simp
  unfold t_law_2
  simp [rng_len]
  refine ⟨sm62_nat (by omega), by omega, ?_⟩
  refine lc_draw (T := fun y (_ : Nat) => ∃ q, DQ q ∧ y = nD q) (rng_pair n) (fun d j hd _ S3 F hF => ?_) fun ys S3 hys => ?_
  · simp
    exact ⟨rfl, fun q S4 hq => hF _ _ ⟨q, hq, rfl⟩⟩
  · obtain ⟨ans, rfl, ha, hq⟩ := drawn_row hys
    unfold t_law_3
    simp [rng_len]
    refine ⟨sm62_nat (by omega), by omega, ?_⟩
    refine lc_draw (T := fun y (_ : Nat) => ∃ q, WQ q ∧ y = nD q) (rng_pair M.length) (fun d j hd _ S4 G hG => ?_) fun ys S4 hys => ?_
    · simp
      refine ⟨5, rfl, by decide, fun z S5 z0 z5 => ⟨by omega, ?_⟩⟩
      refine hG _ _ ⟨((z - 2 : Int) : Rat), wq_int (by omega), ?_⟩
      rw [nD_int]
    · obtain ⟨w, rfl, hw, hwq⟩ := weight_row hys
      unfold t_law_4
      simp [pLend]
      refine mix_ok2 (w := w) (K := M) (many := n) (N := 6 * N0) (c := 5) hwq hw hMl (by decide) n5 hM (by omega) fun hr => ?_
      have e5 : 5 * (2 * (6 * N0)) = 60 * N0 := by omega
      rw [e5] at hr
      simp [Res.nolst, nolsts_nD]
      refine ⟨by omega, ?_⟩
      have L5 := law_5 (P := P) (s0 := s0) (s5 := .dat (.lst (w.map nD))) (s6 := .un) (s7 := .un) (s8 := .un) (s9 := .un) (s10 := .un) (s11 := .un) (s12 := .un) (S := S4) hP (⟨n5, hMl, hM, hw, hr⟩ : Tab M w n) ha hq
      have e : M.map qL ++ [D.lst ((mixR w M n).map nD)] = (M ++ [mixR w M n]).map qL := by rw [List.map_append]; rfl
      rw [e]
      exact L5
end
theorem pf_law : ∀ rs S Q E, sp_law rs S Q E → p_law (ends Q E) (rs.map Res.slot ++ List.replicate (13 - rs.length) .un) S := by
  rintro rs S Q E ⟨ns, rfl, hl, q⟩
  rw [e_law]
  refine ⟨?_, by simp, ?_⟩
  · intro s hs
    simp at hs
    rcases hs with rfl | rfl
    · exact .inr ⟨_, rfl⟩
    · exact .inl rfl
  · simp
    refine ⟨ns, rfl, hl, fun l => ⟨l, rfl, ?_⟩⟩
    refine ⟨6, rfl, by decide, fun m S1 m0 m6 => ?_⟩
    obtain ⟨m, rfl⟩ : ∃ m' : Nat, m = m' := ⟨m.toNat, by omega⟩
    simp
    exact law_1 (fun _ => q) (by omega)
end K05
end
section
set_option Elab.async false
set_option linter.all false
set_option maxRecDepth 100000
namespace K05
open PySem L2 Py LA
theorem len_nu_integer : ∀ rs S Q E, sp_nu_integer rs S Q E → rs.length = 1 := fun _ _ _ _ h => by
  first
  | (obtain ⟨rfl, _⟩ := h; rfl)
  | (obtain ⟨_, rfl, _⟩ := h; rfl)
  | (obtain ⟨_, _, rfl, _⟩ := h; rfl)
  | (obtain ⟨_, _, _, rfl, _⟩ := h; rfl)
  | (obtain ⟨_, _, _, _, rfl, _⟩ := h; rfl)
  | (obtain ⟨_, _, _, _, _, rfl, _⟩ := h; rfl)
  | (obtain ⟨_, _, _, _, _, _, rfl, _⟩ := h; rfl)
  | (obtain ⟨_, _, _, _, _, _, _, rfl, _⟩ := h; rfl)
  | (obtain ⟨_, _, _, _, _, _, _, _, rfl, _⟩ := h; rfl)
  | (obtain ⟨_, _, _, _, _, _, _, _, _, rfl, _⟩ := h; rfl)
  | (obtain ⟨_, _, _, _, _, _, _, _, _, _, rfl, _⟩ := h; rfl)
  | (obtain ⟨_, _, _, _, _, _, _, _, _, _, _, rfl, _⟩ := h; rfl)
  | (obtain ⟨_, _, _, _, _, _, _, _, _, _, _, _, rfl, _⟩ := h; rfl)
theorem len_nu_gcd : ∀ rs S Q E, sp_nu_gcd rs S Q E → rs.length = 2 := fun _ _ _ _ h => by
  first
  | (obtain ⟨rfl, _⟩ := h; rfl)
  | (obtain ⟨_, rfl, _⟩ := h; rfl)
  | (obtain ⟨_, _, rfl, _⟩ := h; rfl)
  | (obtain ⟨_, _, _, rfl, _⟩ := h; rfl)
  | (obtain ⟨_, _, _, _, rfl, _⟩ := h; rfl)
  | (obtain ⟨_, _, _, _, _, rfl, _⟩ := h; rfl)
  | (obtain ⟨_, _, _, _, _, _, rfl, _⟩ := h; rfl)
  | (obtain ⟨_, _, _, _, _, _, _, rfl, _⟩ := h; rfl)
  | (obtain ⟨_, _, _, _, _, _, _, _, rfl, _⟩ := h; rfl)
  | (obtain ⟨_, _, _, _, _, _, _, _, _, rfl, _⟩ := h; rfl)
  | (obtain ⟨_, _, _, _, _, _, _, _, _, _, rfl, _⟩ := h; rfl)
  | (obtain ⟨_, _, _, _, _, _, _, _, _, _, _, rfl, _⟩ := h; rfl)
  | (obtain ⟨_, _, _, _, _, _, _, _, _, _, _, _, rfl, _⟩ := h; rfl)
theorem len_nu_low : ∀ rs S Q E, sp_nu_low rs S Q E → rs.length = 2 := fun _ _ _ _ h => by
  first
  | (obtain ⟨rfl, _⟩ := h; rfl)
  | (obtain ⟨_, rfl, _⟩ := h; rfl)
  | (obtain ⟨_, _, rfl, _⟩ := h; rfl)
  | (obtain ⟨_, _, _, rfl, _⟩ := h; rfl)
  | (obtain ⟨_, _, _, _, rfl, _⟩ := h; rfl)
  | (obtain ⟨_, _, _, _, _, rfl, _⟩ := h; rfl)
  | (obtain ⟨_, _, _, _, _, _, rfl, _⟩ := h; rfl)
  | (obtain ⟨_, _, _, _, _, _, _, rfl, _⟩ := h; rfl)
  | (obtain ⟨_, _, _, _, _, _, _, _, rfl, _⟩ := h; rfl)
  | (obtain ⟨_, _, _, _, _, _, _, _, _, rfl, _⟩ := h; rfl)
  | (obtain ⟨_, _, _, _, _, _, _, _, _, _, rfl, _⟩ := h; rfl)
  | (obtain ⟨_, _, _, _, _, _, _, _, _, _, _, rfl, _⟩ := h; rfl)
  | (obtain ⟨_, _, _, _, _, _, _, _, _, _, _, _, rfl, _⟩ := h; rfl)
theorem len_number (C_BadNumber C_BadTable C_TooMuch : Addr) : ∀ rs S Q E, sp_number C_BadNumber C_BadTable C_TooMuch rs S Q E → rs.length = 1 := fun _ _ _ _ h => by
  first
  | (obtain ⟨rfl, _⟩ := h; rfl)
  | (obtain ⟨_, rfl, _⟩ := h; rfl)
  | (obtain ⟨_, _, rfl, _⟩ := h; rfl)
  | (obtain ⟨_, _, _, rfl, _⟩ := h; rfl)
  | (obtain ⟨_, _, _, _, rfl, _⟩ := h; rfl)
  | (obtain ⟨_, _, _, _, _, rfl, _⟩ := h; rfl)
  | (obtain ⟨_, _, _, _, _, _, rfl, _⟩ := h; rfl)
  | (obtain ⟨_, _, _, _, _, _, _, rfl, _⟩ := h; rfl)
  | (obtain ⟨_, _, _, _, _, _, _, _, rfl, _⟩ := h; rfl)
  | (obtain ⟨_, _, _, _, _, _, _, _, _, rfl, _⟩ := h; rfl)
  | (obtain ⟨_, _, _, _, _, _, _, _, _, _, rfl, _⟩ := h; rfl)
  | (obtain ⟨_, _, _, _, _, _, _, _, _, _, _, rfl, _⟩ := h; rfl)
  | (obtain ⟨_, _, _, _, _, _, _, _, _, _, _, _, rfl, _⟩ := h; rfl)
theorem len_tb_lists : ∀ rs S Q E, sp_tb_lists rs S Q E → rs.length = 2 := fun _ _ _ _ h => by
  first
  | (obtain ⟨rfl, _⟩ := h; rfl)
  | (obtain ⟨_, rfl, _⟩ := h; rfl)
  | (obtain ⟨_, _, rfl, _⟩ := h; rfl)
  | (obtain ⟨_, _, _, rfl, _⟩ := h; rfl)
  | (obtain ⟨_, _, _, _, rfl, _⟩ := h; rfl)
  | (obtain ⟨_, _, _, _, _, rfl, _⟩ := h; rfl)
  | (obtain ⟨_, _, _, _, _, _, rfl, _⟩ := h; rfl)
  | (obtain ⟨_, _, _, _, _, _, _, rfl, _⟩ := h; rfl)
  | (obtain ⟨_, _, _, _, _, _, _, _, rfl, _⟩ := h; rfl)
  | (obtain ⟨_, _, _, _, _, _, _, _, _, rfl, _⟩ := h; rfl)
  | (obtain ⟨_, _, _, _, _, _, _, _, _, _, rfl, _⟩ := h; rfl)
  | (obtain ⟨_, _, _, _, _, _, _, _, _, _, _, rfl, _⟩ := h; rfl)
  | (obtain ⟨_, _, _, _, _, _, _, _, _, _, _, _, rfl, _⟩ := h; rfl)
theorem len_tb_look (C_BadNumber C_BadTable C_TooMuch : Addr) : ∀ rs S Q E, sp_tb_look C_BadNumber C_BadTable C_TooMuch rs S Q E → rs.length = 3 := fun _ _ _ _ h => by
  first
  | (obtain ⟨rfl, _⟩ := h; rfl)
  | (obtain ⟨_, rfl, _⟩ := h; rfl)
  | (obtain ⟨_, _, rfl, _⟩ := h; rfl)
  | (obtain ⟨_, _, _, rfl, _⟩ := h; rfl)
  | (obtain ⟨_, _, _, _, rfl, _⟩ := h; rfl)
  | (obtain ⟨_, _, _, _, _, rfl, _⟩ := h; rfl)
  | (obtain ⟨_, _, _, _, _, _, rfl, _⟩ := h; rfl)
  | (obtain ⟨_, _, _, _, _, _, _, rfl, _⟩ := h; rfl)
  | (obtain ⟨_, _, _, _, _, _, _, _, rfl, _⟩ := h; rfl)
  | (obtain ⟨_, _, _, _, _, _, _, _, _, rfl, _⟩ := h; rfl)
  | (obtain ⟨_, _, _, _, _, _, _, _, _, _, rfl, _⟩ := h; rfl)
  | (obtain ⟨_, _, _, _, _, _, _, _, _, _, _, rfl, _⟩ := h; rfl)
  | (obtain ⟨_, _, _, _, _, _, _, _, _, _, _, _, rfl, _⟩ := h; rfl)
theorem len_tb_look_due (C_BadNumber C_BadTable C_TooMuch : Addr) : ∀ rs S Q E, sp_tb_look_due C_BadNumber C_BadTable C_TooMuch rs S Q E → rs.length = 2 := fun _ _ _ _ h => by
  first
  | (obtain ⟨rfl, _⟩ := h; rfl)
  | (obtain ⟨_, rfl, _⟩ := h; rfl)
  | (obtain ⟨_, _, rfl, _⟩ := h; rfl)
  | (obtain ⟨_, _, _, rfl, _⟩ := h; rfl)
  | (obtain ⟨_, _, _, _, rfl, _⟩ := h; rfl)
  | (obtain ⟨_, _, _, _, _, rfl, _⟩ := h; rfl)
  | (obtain ⟨_, _, _, _, _, _, rfl, _⟩ := h; rfl)
  | (obtain ⟨_, _, _, _, _, _, _, rfl, _⟩ := h; rfl)
  | (obtain ⟨_, _, _, _, _, _, _, _, rfl, _⟩ := h; rfl)
  | (obtain ⟨_, _, _, _, _, _, _, _, _, rfl, _⟩ := h; rfl)
  | (obtain ⟨_, _, _, _, _, _, _, _, _, _, rfl, _⟩ := h; rfl)
  | (obtain ⟨_, _, _, _, _, _, _, _, _, _, _, rfl, _⟩ := h; rfl)
  | (obtain ⟨_, _, _, _, _, _, _, _, _, _, _, _, rfl, _⟩ := h; rfl)
theorem len_tb_look_size (C_BadNumber C_BadTable C_TooMuch : Addr) : ∀ rs S Q E, sp_tb_look_size C_BadNumber C_BadTable C_TooMuch rs S Q E → rs.length = 3 := fun _ _ _ _ h => by
  first
  | (obtain ⟨rfl, _⟩ := h; rfl)
  | (obtain ⟨_, rfl, _⟩ := h; rfl)
  | (obtain ⟨_, _, rfl, _⟩ := h; rfl)
  | (obtain ⟨_, _, _, rfl, _⟩ := h; rfl)
  | (obtain ⟨_, _, _, _, rfl, _⟩ := h; rfl)
  | (obtain ⟨_, _, _, _, _, rfl, _⟩ := h; rfl)
  | (obtain ⟨_, _, _, _, _, _, rfl, _⟩ := h; rfl)
  | (obtain ⟨_, _, _, _, _, _, _, rfl, _⟩ := h; rfl)
  | (obtain ⟨_, _, _, _, _, _, _, _, rfl, _⟩ := h; rfl)
  | (obtain ⟨_, _, _, _, _, _, _, _, _, rfl, _⟩ := h; rfl)
  | (obtain ⟨_, _, _, _, _, _, _, _, _, _, rfl, _⟩ := h; rfl)
  | (obtain ⟨_, _, _, _, _, _, _, _, _, _, _, rfl, _⟩ := h; rfl)
  | (obtain ⟨_, _, _, _, _, _, _, _, _, _, _, _, rfl, _⟩ := h; rfl)
theorem len_tb_numbers (C_BadNumber C_BadTable C_TooMuch : Addr) : ∀ rs S Q E, sp_tb_numbers C_BadNumber C_BadTable C_TooMuch rs S Q E → rs.length = 1 := fun _ _ _ _ h => by
  first
  | (obtain ⟨rfl, _⟩ := h; rfl)
  | (obtain ⟨_, rfl, _⟩ := h; rfl)
  | (obtain ⟨_, _, rfl, _⟩ := h; rfl)
  | (obtain ⟨_, _, _, rfl, _⟩ := h; rfl)
  | (obtain ⟨_, _, _, _, rfl, _⟩ := h; rfl)
  | (obtain ⟨_, _, _, _, _, rfl, _⟩ := h; rfl)
  | (obtain ⟨_, _, _, _, _, _, rfl, _⟩ := h; rfl)
  | (obtain ⟨_, _, _, _, _, _, _, rfl, _⟩ := h; rfl)
  | (obtain ⟨_, _, _, _, _, _, _, _, rfl, _⟩ := h; rfl)
  | (obtain ⟨_, _, _, _, _, _, _, _, _, rfl, _⟩ := h; rfl)
  | (obtain ⟨_, _, _, _, _, _, _, _, _, _, rfl, _⟩ := h; rfl)
  | (obtain ⟨_, _, _, _, _, _, _, _, _, _, _, rfl, _⟩ := h; rfl)
  | (obtain ⟨_, _, _, _, _, _, _, _, _, _, _, _, rfl, _⟩ := h; rfl)
theorem len_tb_clear : ∀ rs S Q E, sp_tb_clear rs S Q E → rs.length = 1 := fun _ _ _ _ h => by
  first
  | (obtain ⟨rfl, _⟩ := h; rfl)
  | (obtain ⟨_, rfl, _⟩ := h; rfl)
  | (obtain ⟨_, _, rfl, _⟩ := h; rfl)
  | (obtain ⟨_, _, _, rfl, _⟩ := h; rfl)
  | (obtain ⟨_, _, _, _, rfl, _⟩ := h; rfl)
  | (obtain ⟨_, _, _, _, _, rfl, _⟩ := h; rfl)
  | (obtain ⟨_, _, _, _, _, _, rfl, _⟩ := h; rfl)
  | (obtain ⟨_, _, _, _, _, _, _, rfl, _⟩ := h; rfl)
  | (obtain ⟨_, _, _, _, _, _, _, _, rfl, _⟩ := h; rfl)
  | (obtain ⟨_, _, _, _, _, _, _, _, _, rfl, _⟩ := h; rfl)
  | (obtain ⟨_, _, _, _, _, _, _, _, _, _, rfl, _⟩ := h; rfl)
  | (obtain ⟨_, _, _, _, _, _, _, _, _, _, _, rfl, _⟩ := h; rfl)
  | (obtain ⟨_, _, _, _, _, _, _, _, _, _, _, _, rfl, _⟩ := h; rfl)
theorem len_tb_spot : ∀ rs S Q E, sp_tb_spot rs S Q E → rs.length = 3 := fun _ _ _ _ h => by
  first
  | (obtain ⟨rfl, _⟩ := h; rfl)
  | (obtain ⟨_, rfl, _⟩ := h; rfl)
  | (obtain ⟨_, _, rfl, _⟩ := h; rfl)
  | (obtain ⟨_, _, _, rfl, _⟩ := h; rfl)
  | (obtain ⟨_, _, _, _, rfl, _⟩ := h; rfl)
  | (obtain ⟨_, _, _, _, _, rfl, _⟩ := h; rfl)
  | (obtain ⟨_, _, _, _, _, _, rfl, _⟩ := h; rfl)
  | (obtain ⟨_, _, _, _, _, _, _, rfl, _⟩ := h; rfl)
  | (obtain ⟨_, _, _, _, _, _, _, _, rfl, _⟩ := h; rfl)
  | (obtain ⟨_, _, _, _, _, _, _, _, _, rfl, _⟩ := h; rfl)
  | (obtain ⟨_, _, _, _, _, _, _, _, _, _, rfl, _⟩ := h; rfl)
  | (obtain ⟨_, _, _, _, _, _, _, _, _, _, _, rfl, _⟩ := h; rfl)
  | (obtain ⟨_, _, _, _, _, _, _, _, _, _, _, _, rfl, _⟩ := h; rfl)
theorem len_tb_echelon : ∀ rs S Q E, sp_tb_echelon rs S Q E → rs.length = 2 := fun _ _ _ _ h => by
  first
  | (obtain ⟨rfl, _⟩ := h; rfl)
  | (obtain ⟨_, rfl, _⟩ := h; rfl)
  | (obtain ⟨_, _, rfl, _⟩ := h; rfl)
  | (obtain ⟨_, _, _, rfl, _⟩ := h; rfl)
  | (obtain ⟨_, _, _, _, rfl, _⟩ := h; rfl)
  | (obtain ⟨_, _, _, _, _, rfl, _⟩ := h; rfl)
  | (obtain ⟨_, _, _, _, _, _, rfl, _⟩ := h; rfl)
  | (obtain ⟨_, _, _, _, _, _, _, rfl, _⟩ := h; rfl)
  | (obtain ⟨_, _, _, _, _, _, _, _, rfl, _⟩ := h; rfl)
  | (obtain ⟨_, _, _, _, _, _, _, _, _, rfl, _⟩ := h; rfl)
  | (obtain ⟨_, _, _, _, _, _, _, _, _, _, rfl, _⟩ := h; rfl)
  | (obtain ⟨_, _, _, _, _, _, _, _, _, _, _, rfl, _⟩ := h; rfl)
  | (obtain ⟨_, _, _, _, _, _, _, _, _, _, _, _, rfl, _⟩ := h; rfl)
theorem len_tb_filled : ∀ rs S Q E, sp_tb_filled rs S Q E → rs.length = 4 := fun _ _ _ _ h => by
  first
  | (obtain ⟨rfl, _⟩ := h; rfl)
  | (obtain ⟨_, rfl, _⟩ := h; rfl)
  | (obtain ⟨_, _, rfl, _⟩ := h; rfl)
  | (obtain ⟨_, _, _, rfl, _⟩ := h; rfl)
  | (obtain ⟨_, _, _, _, rfl, _⟩ := h; rfl)
  | (obtain ⟨_, _, _, _, _, rfl, _⟩ := h; rfl)
  | (obtain ⟨_, _, _, _, _, _, rfl, _⟩ := h; rfl)
  | (obtain ⟨_, _, _, _, _, _, _, rfl, _⟩ := h; rfl)
  | (obtain ⟨_, _, _, _, _, _, _, _, rfl, _⟩ := h; rfl)
  | (obtain ⟨_, _, _, _, _, _, _, _, _, rfl, _⟩ := h; rfl)
  | (obtain ⟨_, _, _, _, _, _, _, _, _, _, rfl, _⟩ := h; rfl)
  | (obtain ⟨_, _, _, _, _, _, _, _, _, _, _, rfl, _⟩ := h; rfl)
  | (obtain ⟨_, _, _, _, _, _, _, _, _, _, _, _, rfl, _⟩ := h; rfl)
theorem len_tb_free : ∀ rs S Q E, sp_tb_free rs S Q E → rs.length = 3 := fun _ _ _ _ h => by
  first
  | (obtain ⟨rfl, _⟩ := h; rfl)
  | (obtain ⟨_, rfl, _⟩ := h; rfl)
  | (obtain ⟨_, _, rfl, _⟩ := h; rfl)
  | (obtain ⟨_, _, _, rfl, _⟩ := h; rfl)
  | (obtain ⟨_, _, _, _, rfl, _⟩ := h; rfl)
  | (obtain ⟨_, _, _, _, _, rfl, _⟩ := h; rfl)
  | (obtain ⟨_, _, _, _, _, _, rfl, _⟩ := h; rfl)
  | (obtain ⟨_, _, _, _, _, _, _, rfl, _⟩ := h; rfl)
  | (obtain ⟨_, _, _, _, _, _, _, _, rfl, _⟩ := h; rfl)
  | (obtain ⟨_, _, _, _, _, _, _, _, _, rfl, _⟩ := h; rfl)
  | (obtain ⟨_, _, _, _, _, _, _, _, _, _, rfl, _⟩ := h; rfl)
  | (obtain ⟨_, _, _, _, _, _, _, _, _, _, _, rfl, _⟩ := h; rfl)
  | (obtain ⟨_, _, _, _, _, _, _, _, _, _, _, _, rfl, _⟩ := h; rfl)
theorem len_tb_answers : ∀ rs S Q E, sp_tb_answers rs S Q E → rs.length = 3 := fun _ _ _ _ h => by
  first
  | (obtain ⟨rfl, _⟩ := h; rfl)
  | (obtain ⟨_, rfl, _⟩ := h; rfl)
  | (obtain ⟨_, _, rfl, _⟩ := h; rfl)
  | (obtain ⟨_, _, _, rfl, _⟩ := h; rfl)
  | (obtain ⟨_, _, _, _, rfl, _⟩ := h; rfl)
  | (obtain ⟨_, _, _, _, _, rfl, _⟩ := h; rfl)
  | (obtain ⟨_, _, _, _, _, _, rfl, _⟩ := h; rfl)
  | (obtain ⟨_, _, _, _, _, _, _, rfl, _⟩ := h; rfl)
  | (obtain ⟨_, _, _, _, _, _, _, _, rfl, _⟩ := h; rfl)
  | (obtain ⟨_, _, _, _, _, _, _, _, _, rfl, _⟩ := h; rfl)
  | (obtain ⟨_, _, _, _, _, _, _, _, _, _, rfl, _⟩ := h; rfl)
  | (obtain ⟨_, _, _, _, _, _, _, _, _, _, _, rfl, _⟩ := h; rfl)
  | (obtain ⟨_, _, _, _, _, _, _, _, _, _, _, _, rfl, _⟩ := h; rfl)
theorem len_tb_base : ∀ rs S Q E, sp_tb_base rs S Q E → rs.length = 2 := fun _ _ _ _ h => by
  first
  | (obtain ⟨rfl, _⟩ := h; rfl)
  | (obtain ⟨_, rfl, _⟩ := h; rfl)
  | (obtain ⟨_, _, rfl, _⟩ := h; rfl)
  | (obtain ⟨_, _, _, rfl, _⟩ := h; rfl)
  | (obtain ⟨_, _, _, _, rfl, _⟩ := h; rfl)
  | (obtain ⟨_, _, _, _, _, rfl, _⟩ := h; rfl)
  | (obtain ⟨_, _, _, _, _, _, rfl, _⟩ := h; rfl)
  | (obtain ⟨_, _, _, _, _, _, _, rfl, _⟩ := h; rfl)
  | (obtain ⟨_, _, _, _, _, _, _, _, rfl, _⟩ := h; rfl)
  | (obtain ⟨_, _, _, _, _, _, _, _, _, rfl, _⟩ := h; rfl)
  | (obtain ⟨_, _, _, _, _, _, _, _, _, _, rfl, _⟩ := h; rfl)
  | (obtain ⟨_, _, _, _, _, _, _, _, _, _, _, rfl, _⟩ := h; rfl)
  | (obtain ⟨_, _, _, _, _, _, _, _, _, _, _, _, rfl, _⟩ := h; rfl)
theorem len_tb_rank : ∀ rs S Q E, sp_tb_rank rs S Q E → rs.length = 2 := fun _ _ _ _ h => by
  first
  | (obtain ⟨rfl, _⟩ := h; rfl)
  | (obtain ⟨_, rfl, _⟩ := h; rfl)
  | (obtain ⟨_, _, rfl, _⟩ := h; rfl)
  | (obtain ⟨_, _, _, rfl, _⟩ := h; rfl)
  | (obtain ⟨_, _, _, _, rfl, _⟩ := h; rfl)
  | (obtain ⟨_, _, _, _, _, rfl, _⟩ := h; rfl)
  | (obtain ⟨_, _, _, _, _, _, rfl, _⟩ := h; rfl)
  | (obtain ⟨_, _, _, _, _, _, _, rfl, _⟩ := h; rfl)
  | (obtain ⟨_, _, _, _, _, _, _, _, rfl, _⟩ := h; rfl)
  | (obtain ⟨_, _, _, _, _, _, _, _, _, rfl, _⟩ := h; rfl)
  | (obtain ⟨_, _, _, _, _, _, _, _, _, _, rfl, _⟩ := h; rfl)
  | (obtain ⟨_, _, _, _, _, _, _, _, _, _, _, rfl, _⟩ := h; rfl)
  | (obtain ⟨_, _, _, _, _, _, _, _, _, _, _, _, rfl, _⟩ := h; rfl)
theorem len_tb_turned : ∀ rs S Q E, sp_tb_turned rs S Q E → rs.length = 2 := fun _ _ _ _ h => by
  first
  | (obtain ⟨rfl, _⟩ := h; rfl)
  | (obtain ⟨_, rfl, _⟩ := h; rfl)
  | (obtain ⟨_, _, rfl, _⟩ := h; rfl)
  | (obtain ⟨_, _, _, rfl, _⟩ := h; rfl)
  | (obtain ⟨_, _, _, _, rfl, _⟩ := h; rfl)
  | (obtain ⟨_, _, _, _, _, rfl, _⟩ := h; rfl)
  | (obtain ⟨_, _, _, _, _, _, rfl, _⟩ := h; rfl)
  | (obtain ⟨_, _, _, _, _, _, _, rfl, _⟩ := h; rfl)
  | (obtain ⟨_, _, _, _, _, _, _, _, rfl, _⟩ := h; rfl)
  | (obtain ⟨_, _, _, _, _, _, _, _, _, rfl, _⟩ := h; rfl)
  | (obtain ⟨_, _, _, _, _, _, _, _, _, _, rfl, _⟩ := h; rfl)
  | (obtain ⟨_, _, _, _, _, _, _, _, _, _, _, rfl, _⟩ := h; rfl)
  | (obtain ⟨_, _, _, _, _, _, _, _, _, _, _, _, rfl, _⟩ := h; rfl)
theorem len_tb_paper : ∀ rs S Q E, sp_tb_paper rs S Q E → rs.length = 3 := fun _ _ _ _ h => by
  first
  | (obtain ⟨rfl, _⟩ := h; rfl)
  | (obtain ⟨_, rfl, _⟩ := h; rfl)
  | (obtain ⟨_, _, rfl, _⟩ := h; rfl)
  | (obtain ⟨_, _, _, rfl, _⟩ := h; rfl)
  | (obtain ⟨_, _, _, _, rfl, _⟩ := h; rfl)
  | (obtain ⟨_, _, _, _, _, rfl, _⟩ := h; rfl)
  | (obtain ⟨_, _, _, _, _, _, rfl, _⟩ := h; rfl)
  | (obtain ⟨_, _, _, _, _, _, _, rfl, _⟩ := h; rfl)
  | (obtain ⟨_, _, _, _, _, _, _, _, rfl, _⟩ := h; rfl)
  | (obtain ⟨_, _, _, _, _, _, _, _, _, rfl, _⟩ := h; rfl)
  | (obtain ⟨_, _, _, _, _, _, _, _, _, _, rfl, _⟩ := h; rfl)
  | (obtain ⟨_, _, _, _, _, _, _, _, _, _, _, rfl, _⟩ := h; rfl)
  | (obtain ⟨_, _, _, _, _, _, _, _, _, _, _, _, rfl, _⟩ := h; rfl)
theorem len_solve (C_BadNumber C_BadTable C_TooMuch : Addr) : ∀ rs S Q E, sp_solve C_BadNumber C_BadTable C_TooMuch rs S Q E → rs.length = 3 := fun _ _ _ _ h => by
  first
  | (obtain ⟨rfl, _⟩ := h; rfl)
  | (obtain ⟨_, rfl, _⟩ := h; rfl)
  | (obtain ⟨_, _, rfl, _⟩ := h; rfl)
  | (obtain ⟨_, _, _, rfl, _⟩ := h; rfl)
  | (obtain ⟨_, _, _, _, rfl, _⟩ := h; rfl)
  | (obtain ⟨_, _, _, _, _, rfl, _⟩ := h; rfl)
  | (obtain ⟨_, _, _, _, _, _, rfl, _⟩ := h; rfl)
  | (obtain ⟨_, _, _, _, _, _, _, rfl, _⟩ := h; rfl)
  | (obtain ⟨_, _, _, _, _, _, _, _, rfl, _⟩ := h; rfl)
  | (obtain ⟨_, _, _, _, _, _, _, _, _, rfl, _⟩ := h; rfl)
  | (obtain ⟨_, _, _, _, _, _, _, _, _, _, rfl, _⟩ := h; rfl)
  | (obtain ⟨_, _, _, _, _, _, _, _, _, _, _, rfl, _⟩ := h; rfl)
  | (obtain ⟨_, _, _, _, _, _, _, _, _, _, _, _, rfl, _⟩ := h; rfl)
theorem len_rank (C_BadNumber C_BadTable C_TooMuch : Addr) : ∀ rs S Q E, sp_rank C_BadNumber C_BadTable C_TooMuch rs S Q E → rs.length = 2 := fun _ _ _ _ h => by
  first
  | (obtain ⟨rfl, _⟩ := h; rfl)
  | (obtain ⟨_, rfl, _⟩ := h; rfl)
  | (obtain ⟨_, _, rfl, _⟩ := h; rfl)
  | (obtain ⟨_, _, _, rfl, _⟩ := h; rfl)
  | (obtain ⟨_, _, _, _, rfl, _⟩ := h; rfl)
  | (obtain ⟨_, _, _, _, _, rfl, _⟩ := h; rfl)
  | (obtain ⟨_, _, _, _, _, _, rfl, _⟩ := h; rfl)
  | (obtain ⟨_, _, _, _, _, _, _, rfl, _⟩ := h; rfl)
  | (obtain ⟨_, _, _, _, _, _, _, _, rfl, _⟩ := h; rfl)
  | (obtain ⟨_, _, _, _, _, _, _, _, _, rfl, _⟩ := h; rfl)
  | (obtain ⟨_, _, _, _, _, _, _, _, _, _, rfl, _⟩ := h; rfl)
  | (obtain ⟨_, _, _, _, _, _, _, _, _, _, _, rfl, _⟩ := h; rfl)
  | (obtain ⟨_, _, _, _, _, _, _, _, _, _, _, _, rfl, _⟩ := h; rfl)
theorem len_number_ties (C_BadNumber C_BadTable C_TooMuch : Addr) : ∀ rs S Q E, sp_number_ties C_BadNumber C_BadTable C_TooMuch rs S Q E → rs.length = 2 := fun _ _ _ _ h => by
  first
  | (obtain ⟨rfl, _⟩ := h; rfl)
  | (obtain ⟨_, rfl, _⟩ := h; rfl)
  | (obtain ⟨_, _, rfl, _⟩ := h; rfl)
  | (obtain ⟨_, _, _, rfl, _⟩ := h; rfl)
  | (obtain ⟨_, _, _, _, rfl, _⟩ := h; rfl)
  | (obtain ⟨_, _, _, _, _, rfl, _⟩ := h; rfl)
  | (obtain ⟨_, _, _, _, _, _, rfl, _⟩ := h; rfl)
  | (obtain ⟨_, _, _, _, _, _, _, rfl, _⟩ := h; rfl)
  | (obtain ⟨_, _, _, _, _, _, _, _, rfl, _⟩ := h; rfl)
  | (obtain ⟨_, _, _, _, _, _, _, _, _, rfl, _⟩ := h; rfl)
  | (obtain ⟨_, _, _, _, _, _, _, _, _, _, rfl, _⟩ := h; rfl)
  | (obtain ⟨_, _, _, _, _, _, _, _, _, _, _, rfl, _⟩ := h; rfl)
  | (obtain ⟨_, _, _, _, _, _, _, _, _, _, _, _, rfl, _⟩ := h; rfl)
theorem len__law_stream : ∀ rs S Q E, sp__law_stream rs S Q E → rs.length = 1 := fun _ _ _ _ h => by
  first
  | (obtain ⟨rfl, _⟩ := h; rfl)
  | (obtain ⟨_, rfl, _⟩ := h; rfl)
  | (obtain ⟨_, _, rfl, _⟩ := h; rfl)
  | (obtain ⟨_, _, _, rfl, _⟩ := h; rfl)
  | (obtain ⟨_, _, _, _, rfl, _⟩ := h; rfl)
  | (obtain ⟨_, _, _, _, _, rfl, _⟩ := h; rfl)
  | (obtain ⟨_, _, _, _, _, _, rfl, _⟩ := h; rfl)
  | (obtain ⟨_, _, _, _, _, _, _, rfl, _⟩ := h; rfl)
  | (obtain ⟨_, _, _, _, _, _, _, _, rfl, _⟩ := h; rfl)
  | (obtain ⟨_, _, _, _, _, _, _, _, _, rfl, _⟩ := h; rfl)
  | (obtain ⟨_, _, _, _, _, _, _, _, _, _, rfl, _⟩ := h; rfl)
  | (obtain ⟨_, _, _, _, _, _, _, _, _, _, _, rfl, _⟩ := h; rfl)
  | (obtain ⟨_, _, _, _, _, _, _, _, _, _, _, _, rfl, _⟩ := h; rfl)
theorem len__law_next : ∀ rs S Q E, sp__law_next rs S Q E → rs.length = 2 := fun _ _ _ _ h => by
  first
  | (obtain ⟨rfl, _⟩ := h; rfl)
  | (obtain ⟨_, rfl, _⟩ := h; rfl)
  | (obtain ⟨_, _, rfl, _⟩ := h; rfl)
  | (obtain ⟨_, _, _, rfl, _⟩ := h; rfl)
  | (obtain ⟨_, _, _, _, rfl, _⟩ := h; rfl)
  | (obtain ⟨_, _, _, _, _, rfl, _⟩ := h; rfl)
  | (obtain ⟨_, _, _, _, _, _, rfl, _⟩ := h; rfl)
  | (obtain ⟨_, _, _, _, _, _, _, rfl, _⟩ := h; rfl)
  | (obtain ⟨_, _, _, _, _, _, _, _, rfl, _⟩ := h; rfl)
  | (obtain ⟨_, _, _, _, _, _, _, _, _, rfl, _⟩ := h; rfl)
  | (obtain ⟨_, _, _, _, _, _, _, _, _, _, rfl, _⟩ := h; rfl)
  | (obtain ⟨_, _, _, _, _, _, _, _, _, _, _, rfl, _⟩ := h; rfl)
  | (obtain ⟨_, _, _, _, _, _, _, _, _, _, _, _, rfl, _⟩ := h; rfl)
theorem len__law_int : ∀ rs S Q E, sp__law_int rs S Q E → rs.length = 1 := fun _ _ _ _ h => by
  first
  | (obtain ⟨rfl, _⟩ := h; rfl)
  | (obtain ⟨_, rfl, _⟩ := h; rfl)
  | (obtain ⟨_, _, rfl, _⟩ := h; rfl)
  | (obtain ⟨_, _, _, rfl, _⟩ := h; rfl)
  | (obtain ⟨_, _, _, _, rfl, _⟩ := h; rfl)
  | (obtain ⟨_, _, _, _, _, rfl, _⟩ := h; rfl)
  | (obtain ⟨_, _, _, _, _, _, rfl, _⟩ := h; rfl)
  | (obtain ⟨_, _, _, _, _, _, _, rfl, _⟩ := h; rfl)
  | (obtain ⟨_, _, _, _, _, _, _, _, rfl, _⟩ := h; rfl)
  | (obtain ⟨_, _, _, _, _, _, _, _, _, rfl, _⟩ := h; rfl)
  | (obtain ⟨_, _, _, _, _, _, _, _, _, _, rfl, _⟩ := h; rfl)
  | (obtain ⟨_, _, _, _, _, _, _, _, _, _, _, rfl, _⟩ := h; rfl)
  | (obtain ⟨_, _, _, _, _, _, _, _, _, _, _, _, rfl, _⟩ := h; rfl)
theorem len__law_gcd : ∀ rs S Q E, sp__law_gcd rs S Q E → rs.length = 2 := fun _ _ _ _ h => by
  first
  | (obtain ⟨rfl, _⟩ := h; rfl)
  | (obtain ⟨_, rfl, _⟩ := h; rfl)
  | (obtain ⟨_, _, rfl, _⟩ := h; rfl)
  | (obtain ⟨_, _, _, rfl, _⟩ := h; rfl)
  | (obtain ⟨_, _, _, _, rfl, _⟩ := h; rfl)
  | (obtain ⟨_, _, _, _, _, rfl, _⟩ := h; rfl)
  | (obtain ⟨_, _, _, _, _, _, rfl, _⟩ := h; rfl)
  | (obtain ⟨_, _, _, _, _, _, _, rfl, _⟩ := h; rfl)
  | (obtain ⟨_, _, _, _, _, _, _, _, rfl, _⟩ := h; rfl)
  | (obtain ⟨_, _, _, _, _, _, _, _, _, rfl, _⟩ := h; rfl)
  | (obtain ⟨_, _, _, _, _, _, _, _, _, _, rfl, _⟩ := h; rfl)
  | (obtain ⟨_, _, _, _, _, _, _, _, _, _, _, rfl, _⟩ := h; rfl)
  | (obtain ⟨_, _, _, _, _, _, _, _, _, _, _, _, rfl, _⟩ := h; rfl)
theorem len__law_num : ∀ rs S Q E, sp__law_num rs S Q E → rs.length = 2 := fun _ _ _ _ h => by
  first
  | (obtain ⟨rfl, _⟩ := h; rfl)
  | (obtain ⟨_, rfl, _⟩ := h; rfl)
  | (obtain ⟨_, _, rfl, _⟩ := h; rfl)
  | (obtain ⟨_, _, _, rfl, _⟩ := h; rfl)
  | (obtain ⟨_, _, _, _, rfl, _⟩ := h; rfl)
  | (obtain ⟨_, _, _, _, _, rfl, _⟩ := h; rfl)
  | (obtain ⟨_, _, _, _, _, _, rfl, _⟩ := h; rfl)
  | (obtain ⟨_, _, _, _, _, _, _, rfl, _⟩ := h; rfl)
  | (obtain ⟨_, _, _, _, _, _, _, _, rfl, _⟩ := h; rfl)
  | (obtain ⟨_, _, _, _, _, _, _, _, _, rfl, _⟩ := h; rfl)
  | (obtain ⟨_, _, _, _, _, _, _, _, _, _, rfl, _⟩ := h; rfl)
  | (obtain ⟨_, _, _, _, _, _, _, _, _, _, _, rfl, _⟩ := h; rfl)
  | (obtain ⟨_, _, _, _, _, _, _, _, _, _, _, _, rfl, _⟩ := h; rfl)
theorem len__law_nplus : ∀ rs S Q E, sp__law_nplus rs S Q E → rs.length = 2 := fun _ _ _ _ h => by
  rcases h with ⟨_, _, _, rfl, _⟩ | ⟨_, _, _, _, rfl, _⟩ <;> rfl
theorem len__law_ntimes : ∀ rs S Q E, sp__law_ntimes rs S Q E → rs.length = 2 := fun _ _ _ _ h => by
  first
  | (obtain ⟨rfl, _⟩ := h; rfl)
  | (obtain ⟨_, rfl, _⟩ := h; rfl)
  | (obtain ⟨_, _, rfl, _⟩ := h; rfl)
  | (obtain ⟨_, _, _, rfl, _⟩ := h; rfl)
  | (obtain ⟨_, _, _, _, rfl, _⟩ := h; rfl)
  | (obtain ⟨_, _, _, _, _, rfl, _⟩ := h; rfl)
  | (obtain ⟨_, _, _, _, _, _, rfl, _⟩ := h; rfl)
  | (obtain ⟨_, _, _, _, _, _, _, rfl, _⟩ := h; rfl)
  | (obtain ⟨_, _, _, _, _, _, _, _, rfl, _⟩ := h; rfl)
  | (obtain ⟨_, _, _, _, _, _, _, _, _, rfl, _⟩ := h; rfl)
  | (obtain ⟨_, _, _, _, _, _, _, _, _, _, rfl, _⟩ := h; rfl)
  | (obtain ⟨_, _, _, _, _, _, _, _, _, _, _, rfl, _⟩ := h; rfl)
  | (obtain ⟨_, _, _, _, _, _, _, _, _, _, _, _, rfl, _⟩ := h; rfl)
theorem len__law_is_num : ∀ rs S Q E, sp__law_is_num rs S Q E → rs.length = 1 := fun _ _ _ _ h => by
  first
  | (obtain ⟨rfl, _⟩ := h; rfl)
  | (obtain ⟨_, rfl, _⟩ := h; rfl)
  | (obtain ⟨_, _, rfl, _⟩ := h; rfl)
  | (obtain ⟨_, _, _, rfl, _⟩ := h; rfl)
  | (obtain ⟨_, _, _, _, rfl, _⟩ := h; rfl)
  | (obtain ⟨_, _, _, _, _, rfl, _⟩ := h; rfl)
  | (obtain ⟨_, _, _, _, _, _, rfl, _⟩ := h; rfl)
  | (obtain ⟨_, _, _, _, _, _, _, rfl, _⟩ := h; rfl)
  | (obtain ⟨_, _, _, _, _, _, _, _, rfl, _⟩ := h; rfl)
  | (obtain ⟨_, _, _, _, _, _, _, _, _, rfl, _⟩ := h; rfl)
  | (obtain ⟨_, _, _, _, _, _, _, _, _, _, rfl, _⟩ := h; rfl)
  | (obtain ⟨_, _, _, _, _, _, _, _, _, _, _, rfl, _⟩ := h; rfl)
  | (obtain ⟨_, _, _, _, _, _, _, _, _, _, _, _, rfl, _⟩ := h; rfl)
theorem len__law_drawn : ∀ rs S Q E, sp__law_drawn rs S Q E → rs.length = 1 := fun _ _ _ _ h => by rw [h.1]; rfl
theorem len__law_dot : ∀ rs S Q E, sp__law_dot rs S Q E → rs.length = 2 := fun _ _ _ _ h => by
  first
  | (obtain ⟨rfl, _⟩ := h; rfl)
  | (obtain ⟨_, rfl, _⟩ := h; rfl)
  | (obtain ⟨_, _, rfl, _⟩ := h; rfl)
  | (obtain ⟨_, _, _, rfl, _⟩ := h; rfl)
  | (obtain ⟨_, _, _, _, rfl, _⟩ := h; rfl)
  | (obtain ⟨_, _, _, _, _, rfl, _⟩ := h; rfl)
  | (obtain ⟨_, _, _, _, _, _, rfl, _⟩ := h; rfl)
  | (obtain ⟨_, _, _, _, _, _, _, rfl, _⟩ := h; rfl)
  | (obtain ⟨_, _, _, _, _, _, _, _, rfl, _⟩ := h; rfl)
  | (obtain ⟨_, _, _, _, _, _, _, _, _, rfl, _⟩ := h; rfl)
  | (obtain ⟨_, _, _, _, _, _, _, _, _, _, rfl, _⟩ := h; rfl)
  | (obtain ⟨_, _, _, _, _, _, _, _, _, _, _, rfl, _⟩ := h; rfl)
  | (obtain ⟨_, _, _, _, _, _, _, _, _, _, _, _, rfl, _⟩ := h; rfl)
theorem len__law_mix : ∀ rs S Q E, sp__law_mix rs S Q E → rs.length = 3 := fun _ _ _ _ h => by
  first
  | (obtain ⟨rfl, _⟩ := h; rfl)
  | (obtain ⟨_, rfl, _⟩ := h; rfl)
  | (obtain ⟨_, _, rfl, _⟩ := h; rfl)
  | (obtain ⟨_, _, _, rfl, _⟩ := h; rfl)
  | (obtain ⟨_, _, _, _, rfl, _⟩ := h; rfl)
  | (obtain ⟨_, _, _, _, _, rfl, _⟩ := h; rfl)
  | (obtain ⟨_, _, _, _, _, _, rfl, _⟩ := h; rfl)
  | (obtain ⟨_, _, _, _, _, _, _, rfl, _⟩ := h; rfl)
  | (obtain ⟨_, _, _, _, _, _, _, _, rfl, _⟩ := h; rfl)
  | (obtain ⟨_, _, _, _, _, _, _, _, _, rfl, _⟩ := h; rfl)
  | (obtain ⟨_, _, _, _, _, _, _, _, _, _, rfl, _⟩ := h; rfl)
  | (obtain ⟨_, _, _, _, _, _, _, _, _, _, _, rfl, _⟩ := h; rfl)
  | (obtain ⟨_, _, _, _, _, _, _, _, _, _, _, _, rfl, _⟩ := h; rfl)
theorem len__law_rows : ∀ rs S Q E, sp__law_rows rs S Q E → rs.length = 2 := fun _ _ _ _ h => by
  first
  | (obtain ⟨rfl, _⟩ := h; rfl)
  | (obtain ⟨_, rfl, _⟩ := h; rfl)
  | (obtain ⟨_, _, rfl, _⟩ := h; rfl)
  | (obtain ⟨_, _, _, rfl, _⟩ := h; rfl)
  | (obtain ⟨_, _, _, _, rfl, _⟩ := h; rfl)
  | (obtain ⟨_, _, _, _, _, rfl, _⟩ := h; rfl)
  | (obtain ⟨_, _, _, _, _, _, rfl, _⟩ := h; rfl)
  | (obtain ⟨_, _, _, _, _, _, _, rfl, _⟩ := h; rfl)
  | (obtain ⟨_, _, _, _, _, _, _, _, rfl, _⟩ := h; rfl)
  | (obtain ⟨_, _, _, _, _, _, _, _, _, rfl, _⟩ := h; rfl)
  | (obtain ⟨_, _, _, _, _, _, _, _, _, _, rfl, _⟩ := h; rfl)
  | (obtain ⟨_, _, _, _, _, _, _, _, _, _, _, rfl, _⟩ := h; rfl)
  | (obtain ⟨_, _, _, _, _, _, _, _, _, _, _, _, rfl, _⟩ := h; rfl)
theorem len__law_rank : ∀ rs S Q E, sp__law_rank rs S Q E → rs.length = 2 := fun _ _ _ _ h => by
  first
  | (obtain ⟨rfl, _⟩ := h; rfl)
  | (obtain ⟨_, rfl, _⟩ := h; rfl)
  | (obtain ⟨_, _, rfl, _⟩ := h; rfl)
  | (obtain ⟨_, _, _, rfl, _⟩ := h; rfl)
  | (obtain ⟨_, _, _, _, rfl, _⟩ := h; rfl)
  | (obtain ⟨_, _, _, _, _, rfl, _⟩ := h; rfl)
  | (obtain ⟨_, _, _, _, _, _, rfl, _⟩ := h; rfl)
  | (obtain ⟨_, _, _, _, _, _, _, rfl, _⟩ := h; rfl)
  | (obtain ⟨_, _, _, _, _, _, _, _, rfl, _⟩ := h; rfl)
  | (obtain ⟨_, _, _, _, _, _, _, _, _, rfl, _⟩ := h; rfl)
  | (obtain ⟨_, _, _, _, _, _, _, _, _, _, rfl, _⟩ := h; rfl)
  | (obtain ⟨_, _, _, _, _, _, _, _, _, _, _, rfl, _⟩ := h; rfl)
  | (obtain ⟨_, _, _, _, _, _, _, _, _, _, _, _, rfl, _⟩ := h; rfl)
theorem len__law_is_row : ∀ rs S Q E, sp__law_is_row rs S Q E → rs.length = 2 := fun _ _ _ _ h => by
  first
  | (obtain ⟨rfl, _⟩ := h; rfl)
  | (obtain ⟨_, rfl, _⟩ := h; rfl)
  | (obtain ⟨_, _, rfl, _⟩ := h; rfl)
  | (obtain ⟨_, _, _, rfl, _⟩ := h; rfl)
  | (obtain ⟨_, _, _, _, rfl, _⟩ := h; rfl)
  | (obtain ⟨_, _, _, _, _, rfl, _⟩ := h; rfl)
  | (obtain ⟨_, _, _, _, _, _, rfl, _⟩ := h; rfl)
  | (obtain ⟨_, _, _, _, _, _, _, rfl, _⟩ := h; rfl)
  | (obtain ⟨_, _, _, _, _, _, _, _, rfl, _⟩ := h; rfl)
  | (obtain ⟨_, _, _, _, _, _, _, _, _, rfl, _⟩ := h; rfl)
  | (obtain ⟨_, _, _, _, _, _, _, _, _, _, rfl, _⟩ := h; rfl)
  | (obtain ⟨_, _, _, _, _, _, _, _, _, _, _, rfl, _⟩ := h; rfl)
  | (obtain ⟨_, _, _, _, _, _, _, _, _, _, _, _, rfl, _⟩ := h; rfl)
theorem len__law_is_base : ∀ rs S Q E, sp__law_is_base rs S Q E → rs.length = 4 := fun _ _ _ _ h => by
  first
  | (obtain ⟨rfl, _⟩ := h; rfl)
  | (obtain ⟨_, rfl, _⟩ := h; rfl)
  | (obtain ⟨_, _, rfl, _⟩ := h; rfl)
  | (obtain ⟨_, _, _, rfl, _⟩ := h; rfl)
  | (obtain ⟨_, _, _, _, rfl, _⟩ := h; rfl)
  | (obtain ⟨_, _, _, _, _, rfl, _⟩ := h; rfl)
  | (obtain ⟨_, _, _, _, _, _, rfl, _⟩ := h; rfl)
  | (obtain ⟨_, _, _, _, _, _, _, rfl, _⟩ := h; rfl)
  | (obtain ⟨_, _, _, _, _, _, _, _, rfl, _⟩ := h; rfl)
  | (obtain ⟨_, _, _, _, _, _, _, _, _, rfl, _⟩ := h; rfl)
  | (obtain ⟨_, _, _, _, _, _, _, _, _, _, rfl, _⟩ := h; rfl)
  | (obtain ⟨_, _, _, _, _, _, _, _, _, _, _, rfl, _⟩ := h; rfl)
  | (obtain ⟨_, _, _, _, _, _, _, _, _, _, _, _, rfl, _⟩ := h; rfl)
theorem len__law_asked : ∀ rs S Q E, sp__law_asked rs S Q E → rs.length = 2 := fun _ _ _ _ h => by
  first
  | (obtain ⟨rfl, _⟩ := h; rfl)
  | (obtain ⟨_, rfl, _⟩ := h; rfl)
  | (obtain ⟨_, _, rfl, _⟩ := h; rfl)
  | (obtain ⟨_, _, _, rfl, _⟩ := h; rfl)
  | (obtain ⟨_, _, _, _, rfl, _⟩ := h; rfl)
  | (obtain ⟨_, _, _, _, _, rfl, _⟩ := h; rfl)
  | (obtain ⟨_, _, _, _, _, _, rfl, _⟩ := h; rfl)
  | (obtain ⟨_, _, _, _, _, _, _, rfl, _⟩ := h; rfl)
  | (obtain ⟨_, _, _, _, _, _, _, _, rfl, _⟩ := h; rfl)
  | (obtain ⟨_, _, _, _, _, _, _, _, _, rfl, _⟩ := h; rfl)
  | (obtain ⟨_, _, _, _, _, _, _, _, _, _, rfl, _⟩ := h; rfl)
  | (obtain ⟨_, _, _, _, _, _, _, _, _, _, _, rfl, _⟩ := h; rfl)
  | (obtain ⟨_, _, _, _, _, _, _, _, _, _, _, _, rfl, _⟩ := h; rfl)
theorem len__law_handed : ∀ rs S Q E, sp__law_handed rs S Q E → rs.length = 2 := fun _ _ _ _ h => by
  first
  | (obtain ⟨rfl, _⟩ := h; rfl)
  | (obtain ⟨_, rfl, _⟩ := h; rfl)
  | (obtain ⟨_, _, rfl, _⟩ := h; rfl)
  | (obtain ⟨_, _, _, rfl, _⟩ := h; rfl)
  | (obtain ⟨_, _, _, _, rfl, _⟩ := h; rfl)
  | (obtain ⟨_, _, _, _, _, rfl, _⟩ := h; rfl)
  | (obtain ⟨_, _, _, _, _, _, rfl, _⟩ := h; rfl)
  | (obtain ⟨_, _, _, _, _, _, _, rfl, _⟩ := h; rfl)
  | (obtain ⟨_, _, _, _, _, _, _, _, rfl, _⟩ := h; rfl)
  | (obtain ⟨_, _, _, _, _, _, _, _, _, rfl, _⟩ := h; rfl)
  | (obtain ⟨_, _, _, _, _, _, _, _, _, _, rfl, _⟩ := h; rfl)
  | (obtain ⟨_, _, _, _, _, _, _, _, _, _, _, rfl, _⟩ := h; rfl)
  | (obtain ⟨_, _, _, _, _, _, _, _, _, _, _, _, rfl, _⟩ := h; rfl)
theorem len__law_judged : ∀ rs S Q E, sp__law_judged rs S Q E → rs.length = 4 := fun _ _ _ _ h => by
  first
  | (obtain ⟨rfl, _⟩ := h; rfl)
  | (obtain ⟨_, rfl, _⟩ := h; rfl)
  | (obtain ⟨_, _, rfl, _⟩ := h; rfl)
  | (obtain ⟨_, _, _, rfl, _⟩ := h; rfl)
  | (obtain ⟨_, _, _, _, rfl, _⟩ := h; rfl)
  | (obtain ⟨_, _, _, _, _, rfl, _⟩ := h; rfl)
  | (obtain ⟨_, _, _, _, _, _, rfl, _⟩ := h; rfl)
  | (obtain ⟨_, _, _, _, _, _, _, rfl, _⟩ := h; rfl)
  | (obtain ⟨_, _, _, _, _, _, _, _, rfl, _⟩ := h; rfl)
  | (obtain ⟨_, _, _, _, _, _, _, _, _, rfl, _⟩ := h; rfl)
  | (obtain ⟨_, _, _, _, _, _, _, _, _, _, rfl, _⟩ := h; rfl)
  | (obtain ⟨_, _, _, _, _, _, _, _, _, _, _, rfl, _⟩ := h; rfl)
  | (obtain ⟨_, _, _, _, _, _, _, _, _, _, _, _, rfl, _⟩ := h; rfl)
theorem len__law_turned : ∀ rs S Q E, sp__law_turned rs S Q E → rs.length = 2 := fun _ _ _ _ h => by
  first
  | (obtain ⟨rfl, _⟩ := h; rfl)
  | (obtain ⟨_, rfl, _⟩ := h; rfl)
  | (obtain ⟨_, _, rfl, _⟩ := h; rfl)
  | (obtain ⟨_, _, _, rfl, _⟩ := h; rfl)
  | (obtain ⟨_, _, _, _, rfl, _⟩ := h; rfl)
  | (obtain ⟨_, _, _, _, _, rfl, _⟩ := h; rfl)
  | (obtain ⟨_, _, _, _, _, _, rfl, _⟩ := h; rfl)
  | (obtain ⟨_, _, _, _, _, _, _, rfl, _⟩ := h; rfl)
  | (obtain ⟨_, _, _, _, _, _, _, _, rfl, _⟩ := h; rfl)
  | (obtain ⟨_, _, _, _, _, _, _, _, _, rfl, _⟩ := h; rfl)
  | (obtain ⟨_, _, _, _, _, _, _, _, _, _, rfl, _⟩ := h; rfl)
  | (obtain ⟨_, _, _, _, _, _, _, _, _, _, _, rfl, _⟩ := h; rfl)
  | (obtain ⟨_, _, _, _, _, _, _, _, _, _, _, _, rfl, _⟩ := h; rfl)
theorem len__law_counted : ∀ rs S Q E, sp__law_counted rs S Q E → rs.length = 3 := fun _ _ _ _ h => by
  first
  | (obtain ⟨rfl, _⟩ := h; rfl)
  | (obtain ⟨_, rfl, _⟩ := h; rfl)
  | (obtain ⟨_, _, rfl, _⟩ := h; rfl)
  | (obtain ⟨_, _, _, rfl, _⟩ := h; rfl)
  | (obtain ⟨_, _, _, _, rfl, _⟩ := h; rfl)
  | (obtain ⟨_, _, _, _, _, rfl, _⟩ := h; rfl)
  | (obtain ⟨_, _, _, _, _, _, rfl, _⟩ := h; rfl)
  | (obtain ⟨_, _, _, _, _, _, _, rfl, _⟩ := h; rfl)
  | (obtain ⟨_, _, _, _, _, _, _, _, rfl, _⟩ := h; rfl)
  | (obtain ⟨_, _, _, _, _, _, _, _, _, rfl, _⟩ := h; rfl)
  | (obtain ⟨_, _, _, _, _, _, _, _, _, _, rfl, _⟩ := h; rfl)
  | (obtain ⟨_, _, _, _, _, _, _, _, _, _, _, rfl, _⟩ := h; rfl)
  | (obtain ⟨_, _, _, _, _, _, _, _, _, _, _, _, rfl, _⟩ := h; rfl)
theorem len__law_word : ∀ rs S Q E, sp__law_word rs S Q E → rs.length = 1 := fun _ _ _ _ h => by
  first
  | (obtain ⟨rfl, _⟩ := h; rfl)
  | (obtain ⟨_, rfl, _⟩ := h; rfl)
  | (obtain ⟨_, _, rfl, _⟩ := h; rfl)
  | (obtain ⟨_, _, _, rfl, _⟩ := h; rfl)
  | (obtain ⟨_, _, _, _, rfl, _⟩ := h; rfl)
  | (obtain ⟨_, _, _, _, _, rfl, _⟩ := h; rfl)
  | (obtain ⟨_, _, _, _, _, _, rfl, _⟩ := h; rfl)
  | (obtain ⟨_, _, _, _, _, _, _, rfl, _⟩ := h; rfl)
  | (obtain ⟨_, _, _, _, _, _, _, _, rfl, _⟩ := h; rfl)
  | (obtain ⟨_, _, _, _, _, _, _, _, _, rfl, _⟩ := h; rfl)
  | (obtain ⟨_, _, _, _, _, _, _, _, _, _, rfl, _⟩ := h; rfl)
  | (obtain ⟨_, _, _, _, _, _, _, _, _, _, _, rfl, _⟩ := h; rfl)
  | (obtain ⟨_, _, _, _, _, _, _, _, _, _, _, _, rfl, _⟩ := h; rfl)
theorem len__law_bad_value : ∀ rs S Q E, sp__law_bad_value rs S Q E → rs.length = 1 := fun _ _ _ _ h => by
  first
  | (obtain ⟨rfl, _⟩ := h; rfl)
  | (obtain ⟨_, rfl, _⟩ := h; rfl)
  | (obtain ⟨_, _, rfl, _⟩ := h; rfl)
  | (obtain ⟨_, _, _, rfl, _⟩ := h; rfl)
  | (obtain ⟨_, _, _, _, rfl, _⟩ := h; rfl)
  | (obtain ⟨_, _, _, _, _, rfl, _⟩ := h; rfl)
  | (obtain ⟨_, _, _, _, _, _, rfl, _⟩ := h; rfl)
  | (obtain ⟨_, _, _, _, _, _, _, rfl, _⟩ := h; rfl)
  | (obtain ⟨_, _, _, _, _, _, _, _, rfl, _⟩ := h; rfl)
  | (obtain ⟨_, _, _, _, _, _, _, _, _, rfl, _⟩ := h; rfl)
  | (obtain ⟨_, _, _, _, _, _, _, _, _, _, rfl, _⟩ := h; rfl)
  | (obtain ⟨_, _, _, _, _, _, _, _, _, _, _, rfl, _⟩ := h; rfl)
  | (obtain ⟨_, _, _, _, _, _, _, _, _, _, _, _, rfl, _⟩ := h; rfl)
theorem len__law_much : ∀ rs S Q E, sp__law_much rs S Q E → rs.length = 2 := fun _ _ _ _ h => by
  obtain ⟨_, _, ⟨rfl, _⟩ | ⟨rfl, _⟩⟩ := h <;> rfl
theorem len__law_refused : ∀ rs S Q E, sp__law_refused rs S Q E → rs.length = 0 := fun _ _ _ _ h => by
  first
  | (obtain ⟨rfl, _⟩ := h; rfl)
  | (obtain ⟨_, rfl, _⟩ := h; rfl)
  | (obtain ⟨_, _, rfl, _⟩ := h; rfl)
  | (obtain ⟨_, _, _, rfl, _⟩ := h; rfl)
  | (obtain ⟨_, _, _, _, rfl, _⟩ := h; rfl)
  | (obtain ⟨_, _, _, _, _, rfl, _⟩ := h; rfl)
  | (obtain ⟨_, _, _, _, _, _, rfl, _⟩ := h; rfl)
  | (obtain ⟨_, _, _, _, _, _, _, rfl, _⟩ := h; rfl)
  | (obtain ⟨_, _, _, _, _, _, _, _, rfl, _⟩ := h; rfl)
  | (obtain ⟨_, _, _, _, _, _, _, _, _, rfl, _⟩ := h; rfl)
  | (obtain ⟨_, _, _, _, _, _, _, _, _, _, rfl, _⟩ := h; rfl)
  | (obtain ⟨_, _, _, _, _, _, _, _, _, _, _, rfl, _⟩ := h; rfl)
  | (obtain ⟨_, _, _, _, _, _, _, _, _, _, _, _, rfl, _⟩ := h; rfl)
theorem len_law : ∀ rs S Q E, sp_law rs S Q E → rs.length = 1 := fun _ _ _ _ h => by
  first
  | (obtain ⟨rfl, _⟩ := h; rfl)
  | (obtain ⟨_, rfl, _⟩ := h; rfl)
  | (obtain ⟨_, _, rfl, _⟩ := h; rfl)
  | (obtain ⟨_, _, _, rfl, _⟩ := h; rfl)
  | (obtain ⟨_, _, _, _, rfl, _⟩ := h; rfl)
  | (obtain ⟨_, _, _, _, _, rfl, _⟩ := h; rfl)
  | (obtain ⟨_, _, _, _, _, _, rfl, _⟩ := h; rfl)
  | (obtain ⟨_, _, _, _, _, _, _, rfl, _⟩ := h; rfl)
  | (obtain ⟨_, _, _, _, _, _, _, _, rfl, _⟩ := h; rfl)
  | (obtain ⟨_, _, _, _, _, _, _, _, _, rfl, _⟩ := h; rfl)
  | (obtain ⟨_, _, _, _, _, _, _, _, _, _, rfl, _⟩ := h; rfl)
  | (obtain ⟨_, _, _, _, _, _, _, _, _, _, _, rfl, _⟩ := h; rfl)
  | (obtain ⟨_, _, _, _, _, _, _, _, _, _, _, _, rfl, _⟩ := h; rfl)
end K05
end
section
set_option Elab.async false
set_option linter.all false
set_option maxRecDepth 100000
set_option maxHeartbeats 1000000
/-! The walk of the defs (printed by gen.py). -/
namespace K05
open PySem PySem.Spec PyProof.Rows L2 Py
def topS (i : Nat) : Stmt := PySem.Challenge.pw_sumsproved_k05_all_answers_or_weights.main.body.getD i (.Pass ⟨0, 0, 0, 0⟩)
abbrev st_nu_integer : Stmt := topS 7
abbrev N_nu_integer : List Str := ["value"]
theorem sc_nu_integer : FnScope N_nu_integer ["value"] (defScope st_nu_integer) := ⟨rfl, rfl, rfl, by decide +kernel, rfl, by decide +kernel, by decide +kernel⟩
abbrev st_nu_gcd : Stmt := topS 8
abbrev N_nu_gcd : List Str := ["a", "b"]
theorem sc_nu_gcd : FnScope N_nu_gcd ["a", "b"] (defScope st_nu_gcd) := ⟨rfl, rfl, rfl, by decide +kernel, rfl, by decide +kernel, by decide +kernel⟩
abbrev st_nu_low : Stmt := topS 9
abbrev N_nu_low : List Str := ["a", "b", "c"]
theorem sc_nu_low : FnScope N_nu_low ["a", "b"] (defScope st_nu_low) := ⟨rfl, rfl, rfl, by decide +kernel, rfl, by decide +kernel, by decide +kernel⟩
abbrev st_number : Stmt := topS 10
abbrev N_number : List Str := ["value", "a", "b"]
theorem sc_number : FnScope N_number ["value"] (defScope st_number) := ⟨rfl, rfl, rfl, by decide +kernel, rfl, by decide +kernel, by decide +kernel⟩
abbrev st_tb_lists : Stmt := topS 13
abbrev N_tb_lists : List Str := ["rows", "many", "row"]
theorem sc_tb_lists : FnScope N_tb_lists ["rows", "many"] (defScope st_tb_lists) := ⟨rfl, rfl, rfl, by decide +kernel, rfl, by decide +kernel, by decide +kernel⟩
abbrev st_tb_look : Stmt := topS 14
abbrev N_tb_look : List Str := ["rows", "many", "word"]
theorem sc_tb_look : FnScope N_tb_look ["rows", "many", "word"] (defScope st_tb_look) := ⟨rfl, rfl, rfl, by decide +kernel, rfl, by decide +kernel, by decide +kernel⟩
abbrev st_tb_look_due : Stmt := topS 15
abbrev N_tb_look_due : List Str := ["rows", "due"]
theorem sc_tb_look_due : FnScope N_tb_look_due ["rows", "due"] (defScope st_tb_look_due) := ⟨rfl, rfl, rfl, by decide +kernel, rfl, by decide +kernel, by decide +kernel⟩
abbrev st_tb_look_size : Stmt := topS 16
abbrev N_tb_look_size : List Str := ["rows", "many", "most"]
theorem sc_tb_look_size : FnScope N_tb_look_size ["rows", "many", "most"] (defScope st_tb_look_size) := ⟨rfl, rfl, rfl, by decide +kernel, rfl, by decide +kernel, by decide +kernel⟩
abbrev st_tb_numbers : Stmt := topS 17
abbrev N_tb_numbers : List Str := ["row", "w"]
theorem sc_tb_numbers : FnScope N_tb_numbers ["row"] (defScope st_tb_numbers) := ⟨rfl, rfl, rfl, by decide +kernel, rfl, by decide +kernel, by decide +kernel⟩
abbrev st_tb_clear : Stmt := topS 18
abbrev N_tb_clear : List Str := ["row", "low", "w", "told", "d"]
theorem sc_tb_clear : FnScope N_tb_clear ["row"] (defScope st_tb_clear) := ⟨rfl, rfl, rfl, by decide +kernel, rfl, by decide +kernel, by decide +kernel⟩
abbrev st_tb_spot : Stmt := topS 19
abbrev N_tb_spot : List Str := ["left", "low", "c", "k"]
theorem sc_tb_spot : FnScope N_tb_spot ["left", "low", "c"] (defScope st_tb_spot) := ⟨rfl, rfl, rfl, by decide +kernel, rfl, by decide +kernel, by decide +kernel⟩
abbrev st_tb_echelon : Stmt := topS 20
abbrev N_tb_echelon : List Str := ["rows", "many", "left", "pivots", "last", "c", "at", "spot", "lead", "k", "row", "j"]
theorem sc_tb_echelon : FnScope N_tb_echelon ["rows", "many"] (defScope st_tb_echelon) := ⟨rfl, rfl, rfl, by decide +kernel, rfl, by decide +kernel, by decide +kernel⟩
abbrev st_tb_filled : Stmt := topS 21
abbrev N_tb_filled : List Str := ["pivots", "left", "many", "free", "scale", "full", "k", "c", "row", "w", "j"]
theorem sc_tb_filled : FnScope N_tb_filled ["pivots", "left", "many", "free"] (defScope st_tb_filled) := ⟨rfl, rfl, rfl, by decide +kernel, rfl, by decide +kernel, by decide +kernel⟩
abbrev st_tb_free : Stmt := topS 22
abbrev N_tb_free : List Str := ["pivots", "left", "many", "c"]
theorem sc_tb_free : FnScope N_tb_free ["pivots", "left", "many"] (defScope st_tb_free) := ⟨rfl, rfl, rfl, by decide +kernel, rfl, by decide +kernel, by decide +kernel⟩
abbrev st_tb_answers : Stmt := topS 23
abbrev N_tb_answers : List Str := ["rows", "due", "many", "wide", "pivots", "left", "k"]
theorem sc_tb_answers : FnScope N_tb_answers ["rows", "due", "many"] (defScope st_tb_answers) := ⟨rfl, rfl, rfl, by decide +kernel, rfl, by decide +kernel, by decide +kernel⟩
abbrev st_tb_base : Stmt := topS 24
abbrev N_tb_base : List Str := ["rows", "many", "pivots", "left", "row"]
theorem sc_tb_base : FnScope N_tb_base ["rows", "many"] (defScope st_tb_base) := ⟨rfl, rfl, rfl, by decide +kernel, rfl, by decide +kernel, by decide +kernel⟩
abbrev st_tb_rank : Stmt := topS 25
abbrev N_tb_rank : List Str := ["rows", "many", "row"]
theorem sc_tb_rank : FnScope N_tb_rank ["rows", "many"] (defScope st_tb_rank) := ⟨rfl, rfl, rfl, by decide +kernel, rfl, by decide +kernel, by decide +kernel⟩
abbrev st_tb_turned : Stmt := topS 26
abbrev N_tb_turned : List Str := ["rows", "many", "c", "row"]
theorem sc_tb_turned : FnScope N_tb_turned ["rows", "many"] (defScope st_tb_turned) := ⟨rfl, rfl, rfl, by decide +kernel, rfl, by decide +kernel, by decide +kernel⟩
abbrev st_tb_paper : Stmt := topS 27
abbrev N_tb_paper : List Str := ["rows", "due", "many", "table", "goal"]
theorem sc_tb_paper : FnScope N_tb_paper ["rows", "due", "many"] (defScope st_tb_paper) := ⟨rfl, rfl, rfl, by decide +kernel, rfl, by decide +kernel, by decide +kernel⟩
abbrev st_solve : Stmt := topS 28
abbrev N_solve : List Str := ["rows", "due", "many", "table", "goal", "found", "row"]
theorem sc_solve : FnScope N_solve ["rows", "due", "many"] (defScope st_solve) := ⟨rfl, rfl, rfl, by decide +kernel, rfl, by decide +kernel, by decide +kernel⟩
abbrev st_rank : Stmt := topS 29
abbrev N_rank : List Str := ["rows", "many", "row"]
theorem sc_rank : FnScope N_rank ["rows", "many"] (defScope st_rank) := ⟨rfl, rfl, rfl, by decide +kernel, rfl, by decide +kernel, by decide +kernel⟩
abbrev st_number_ties : Stmt := topS 30
abbrev N_number_ties : List Str := ["vectors", "many", "table", "row"]
theorem sc_number_ties : FnScope N_number_ties ["vectors", "many"] (defScope st_number_ties) := ⟨rfl, rfl, rfl, by decide +kernel, rfl, by decide +kernel, by decide +kernel⟩
abbrev st__law_stream : Stmt := topS 32
abbrev N__law_stream : List Str := ["script", "row", "at", "cell", "turn", "seed"]
theorem sc__law_stream : FnScope N__law_stream ["script"] (defScope st__law_stream) := ⟨rfl, rfl, rfl, by decide +kernel, rfl, by decide +kernel, by decide +kernel⟩
abbrev st__law_next : Stmt := topS 33
abbrev N__law_next : List Str := ["row", "many"]
theorem sc__law_next : FnScope N__law_next ["row", "many"] (defScope st__law_next) := ⟨rfl, rfl, rfl, by decide +kernel, rfl, by decide +kernel, by decide +kernel⟩
abbrev st__law_int : Stmt := topS 34
abbrev N__law_int : List Str := ["value"]
theorem sc__law_int : FnScope N__law_int ["value"] (defScope st__law_int) := ⟨rfl, rfl, rfl, by decide +kernel, rfl, by decide +kernel, by decide +kernel⟩
abbrev st__law_gcd : Stmt := topS 35
abbrev N__law_gcd : List Str := ["one", "other", "turn", "rest"]
theorem sc__law_gcd : FnScope N__law_gcd ["one", "other"] (defScope st__law_gcd) := ⟨rfl, rfl, rfl, by decide +kernel, rfl, by decide +kernel, by decide +kernel⟩
abbrev st__law_num : Stmt := topS 36
abbrev N__law_num : List Str := ["top", "bottom", "shared"]
theorem sc__law_num : FnScope N__law_num ["top", "bottom"] (defScope st__law_num) := ⟨rfl, rfl, rfl, by decide +kernel, rfl, by decide +kernel, by decide +kernel⟩
abbrev st__law_nplus : Stmt := topS 37
abbrev N__law_nplus : List Str := ["one", "other"]
theorem sc__law_nplus : FnScope N__law_nplus ["one", "other"] (defScope st__law_nplus) := ⟨rfl, rfl, rfl, by decide +kernel, rfl, by decide +kernel, by decide +kernel⟩
abbrev st__law_ntimes : Stmt := topS 38
abbrev N__law_ntimes : List Str := ["one", "other"]
theorem sc__law_ntimes : FnScope N__law_ntimes ["one", "other"] (defScope st__law_ntimes) := ⟨rfl, rfl, rfl, by decide +kernel, rfl, by decide +kernel, by decide +kernel⟩
abbrev st__law_is_num : Stmt := topS 39
abbrev N__law_is_num : List Str := ["value"]
theorem sc__law_is_num : FnScope N__law_is_num ["value"] (defScope st__law_is_num) := ⟨rfl, rfl, rfl, by decide +kernel, rfl, by decide +kernel, by decide +kernel⟩
abbrev st__law_drawn : Stmt := topS 40
abbrev N__law_drawn : List Str := ["draws", "top"]
theorem sc__law_drawn : FnScope N__law_drawn ["draws"] (defScope st__law_drawn) := ⟨rfl, rfl, rfl, by decide +kernel, rfl, by decide +kernel, by decide +kernel⟩
abbrev st__law_dot : Stmt := topS 41
abbrev N__law_dot : List Str := ["one", "other", "made", "at"]
theorem sc__law_dot : FnScope N__law_dot ["one", "other"] (defScope st__law_dot) := ⟨rfl, rfl, rfl, by decide +kernel, rfl, by decide +kernel, by decide +kernel⟩
abbrev st__law_mix : Stmt := topS 42
abbrev N__law_mix : List Str := ["weights", "rows", "many", "at", "row"]
theorem sc__law_mix : FnScope N__law_mix ["weights", "rows", "many"] (defScope st__law_mix) := ⟨rfl, rfl, rfl, by decide +kernel, rfl, by decide +kernel, by decide +kernel⟩
abbrev st__law_rows : Stmt := topS 43
abbrev N__law_rows : List Str := ["draws", "many", "kept", "turn", "rows", "weights", "at"]
theorem sc__law_rows : FnScope N__law_rows ["draws", "many"] (defScope st__law_rows) := ⟨rfl, rfl, rfl, by decide +kernel, rfl, by decide +kernel, by decide +kernel⟩
abbrev st__law_rank : Stmt := topS 44
abbrev N__law_rank : List Str := ["table", "many", "rows", "line", "low", "num", "found", "column", "spot", "at", "lead", "to"]
theorem sc__law_rank : FnScope N__law_rank ["table", "many"] (defScope st__law_rank) := ⟨rfl, rfl, rfl, by decide +kernel, rfl, by decide +kernel, by decide +kernel⟩
abbrev st__law_is_row : Stmt := topS 45
abbrev N__law_is_row : List Str := ["told", "many", "num"]
theorem sc__law_is_row : FnScope N__law_is_row ["told", "many"] (defScope st__law_is_row) := ⟨rfl, rfl, rfl, by decide +kernel, rfl, by decide +kernel, by decide +kernel⟩
abbrev st__law_is_base : Stmt := topS 46
abbrev N__law_is_base : List Str := ["told", "rows", "many", "due", "line", "row"]
theorem sc__law_is_base : FnScope N__law_is_base ["told", "rows", "many", "due"] (defScope st__law_is_base) := ⟨rfl, rfl, rfl, by decide +kernel, rfl, by decide +kernel, by decide +kernel⟩
abbrev st__law_asked : Stmt := topS 47
abbrev N__law_asked : List Str := ["draws", "num", "kind"]
theorem sc__law_asked : FnScope N__law_asked ["draws", "num"] (defScope st__law_asked) := ⟨rfl, rfl, rfl, by decide +kernel, rfl, by decide +kernel, by decide +kernel⟩
abbrev st__law_handed : Stmt := topS 48
abbrev N__law_handed : List Str := ["draws", "rows", "made", "row", "line", "num"]
theorem sc__law_handed : FnScope N__law_handed ["draws", "rows"] (defScope st__law_handed) := ⟨rfl, rfl, rfl, by decide +kernel, rfl, by decide +kernel, by decide +kernel⟩
abbrev st__law_judged : Stmt := topS 49
abbrev N__law_judged : List Str := ["draws", "rows", "due", "many", "handed", "goal", "told", "size", "wide", "at"]
theorem sc__law_judged : FnScope N__law_judged ["draws", "rows", "due", "many"] (defScope st__law_judged) := ⟨rfl, rfl, rfl, by decide +kernel, rfl, by decide +kernel, by decide +kernel⟩
abbrev st__law_turned : Stmt := topS 50
abbrev N__law_turned : List Str := ["rows", "many", "at", "row"]
theorem sc__law_turned : FnScope N__law_turned ["rows", "many"] (defScope st__law_turned) := ⟨rfl, rfl, rfl, by decide +kernel, rfl, by decide +kernel, by decide +kernel⟩
abbrev st__law_counted : Stmt := topS 51
abbrev N__law_counted : List Str := ["draws", "rows", "many", "size", "handed", "told", "ties"]
theorem sc__law_counted : FnScope N__law_counted ["draws", "rows", "many"] (defScope st__law_counted) := ⟨rfl, rfl, rfl, by decide +kernel, rfl, by decide +kernel, by decide +kernel⟩
abbrev st__law_word : Stmt := topS 52
abbrev N__law_word : List Str := ["which", "seen", "raised", "at"]
theorem sc__law_word : FnScope N__law_word ["which"] (defScope st__law_word) := ⟨rfl, rfl, rfl, by decide +kernel, rfl, by decide +kernel, by decide +kernel⟩
abbrev st__law_bad_value : Stmt := topS 53
abbrev N__law_bad_value : List Str := ["which", "seen", "raised"]
theorem sc__law_bad_value : FnScope N__law_bad_value ["which"] (defScope st__law_bad_value) := ⟨rfl, rfl, rfl, by decide +kernel, rfl, by decide +kernel, by decide +kernel⟩
abbrev st__law_much : Stmt := topS 54
abbrev N__law_much : List Str := ["which", "size", "seen", "told", "raised", "at"]
theorem sc__law_much : FnScope N__law_much ["which", "size"] (defScope st__law_much) := ⟨rfl, rfl, rfl, by decide +kernel, rfl, by decide +kernel, by decide +kernel⟩
abbrev st__law_refused : Stmt := topS 55
abbrev N__law_refused : List Str := ["words", "which", "handed"]
theorem sc__law_refused : FnScope N__law_refused [] (defScope st__law_refused) := ⟨rfl, rfl, rfl, by decide +kernel, rfl, by decide +kernel, by decide +kernel⟩
abbrev st_law : Stmt := topS 56
abbrev N_law : List Str := ["script", "draws", "many", "rows", "answer", "weights", "due", "spoilt", "last", "free", "at", "row", "num"]
theorem sc_law : FnScope N_law ["script"] (defScope st_law) := ⟨rfl, rfl, rfl, by decide +kernel, rfl, by decide +kernel, by decide +kernel⟩
structure Tp (P : Program) (K : PySem.W.Frag) (mg : Str → Option Value) (C_BadNumber C_BadTable C_TooMuch : Addr) : Prop where
  b_abs : mg "abs" = none
  b_bool : mg "bool" = none
  b_int : mg "int" = none
  b_isinstance : mg "isinstance" = none
  b_len : mg "len" = none
  b_list : mg "list" = none
  b_min : mg "min" = none
  b_range : mg "range" = none
  b_str : mg "str" = none
  b_tuple : mg "tuple" = none
  g_TABLE_BOUND : GlobI mg "TABLE_BOUND" 40
  f_gcd : mg "gcd" = some (.builtin "math.gcd")
  f_lcm : mg "lcm" = some (.builtin "math.lcm")
  e_BadNumber : ErrN1 P K mg "BadNumber" C_BadNumber "handed"
  t_BadNumber : PySem.W.exmOne K (.ref C_BadNumber) (.ref C_BadNumber) = some true
  xx_BadNumber : ∃ D fI q st, ErrCls P K C_BadNumber D fI q st
  n_BadNumber_handed : PySem.W.findIn K (.ref C_BadNumber) "handed" = some none
  e_BadTable : ErrN1 P K mg "BadTable" C_BadTable "handed"
  t_BadTable : PySem.W.exmOne K (.ref C_BadTable) (.ref C_BadTable) = some true
  xx_BadTable : ∃ D fI q st, ErrCls P K C_BadTable D fI q st
  n_BadTable_handed : PySem.W.findIn K (.ref C_BadTable) "handed" = some none
  e_TooMuch : ErrN2 P K mg "TooMuch" C_TooMuch "word" "most"
  t_TooMuch : PySem.W.exmOne K (.ref C_TooMuch) (.ref C_TooMuch) = some true
  xx_TooMuch : ∃ D fI q st, ErrCls P K C_TooMuch D fI q st
  n_TooMuch_word : PySem.W.findIn K (.ref C_TooMuch) "word" = some none
  n_TooMuch_most : PySem.W.findIn K (.ref C_TooMuch) "most" = some none
  d_nu_integer : DefAt K mg "nu_integer" st_nu_integer ["value"]
  d_nu_gcd : DefAt K mg "nu_gcd" st_nu_gcd ["a", "b"]
  d_nu_low : DefAt K mg "nu_low" st_nu_low ["a", "b"]
  d_number : DefAt K mg "number" st_number ["value"]
  d_tb_lists : DefAt K mg "tb_lists" st_tb_lists ["rows", "many"]
  d_tb_look : DefAt K mg "tb_look" st_tb_look ["rows", "many", "word"]
  d_tb_look_due : DefAt K mg "tb_look_due" st_tb_look_due ["rows", "due"]
  d_tb_look_size : DefAt K mg "tb_look_size" st_tb_look_size ["rows", "many", "most"]
  d_tb_numbers : DefAt K mg "tb_numbers" st_tb_numbers ["row"]
  d_tb_clear : DefAt K mg "tb_clear" st_tb_clear ["row"]
  d_tb_spot : DefAt K mg "tb_spot" st_tb_spot ["left", "low", "c"]
  d_tb_echelon : DefAt K mg "tb_echelon" st_tb_echelon ["rows", "many"]
  d_tb_filled : DefAt K mg "tb_filled" st_tb_filled ["pivots", "left", "many", "free"]
  d_tb_free : DefAt K mg "tb_free" st_tb_free ["pivots", "left", "many"]
  d_tb_answers : DefAt K mg "tb_answers" st_tb_answers ["rows", "due", "many"]
  d_tb_base : DefAt K mg "tb_base" st_tb_base ["rows", "many"]
  d_tb_rank : DefAt K mg "tb_rank" st_tb_rank ["rows", "many"]
  d_tb_turned : DefAt K mg "tb_turned" st_tb_turned ["rows", "many"]
  d_tb_paper : DefAt K mg "tb_paper" st_tb_paper ["rows", "due", "many"]
  d_solve : DefAt K mg "solve" st_solve ["rows", "due", "many"]
  d_rank : DefAt K mg "rank" st_rank ["rows", "many"]
  d_number_ties : DefAt K mg "number_ties" st_number_ties ["vectors", "many"]
  d__law_stream : DefAt K mg "_law_stream" st__law_stream ["script"]
  d__law_next : DefAt K mg "_law_next" st__law_next ["row", "many"]
  d__law_int : DefAt K mg "_law_int" st__law_int ["value"]
  d__law_gcd : DefAt K mg "_law_gcd" st__law_gcd ["one", "other"]
  d__law_num : DefAt K mg "_law_num" st__law_num ["top", "bottom"]
  d__law_nplus : DefAt K mg "_law_nplus" st__law_nplus ["one", "other"]
  d__law_ntimes : DefAt K mg "_law_ntimes" st__law_ntimes ["one", "other"]
  d__law_is_num : DefAt K mg "_law_is_num" st__law_is_num ["value"]
  d__law_drawn : DefAt K mg "_law_drawn" st__law_drawn ["draws"]
  d__law_dot : DefAt K mg "_law_dot" st__law_dot ["one", "other"]
  d__law_mix : DefAt K mg "_law_mix" st__law_mix ["weights", "rows", "many"]
  d__law_rows : DefAt K mg "_law_rows" st__law_rows ["draws", "many"]
  d__law_rank : DefAt K mg "_law_rank" st__law_rank ["table", "many"]
  d__law_is_row : DefAt K mg "_law_is_row" st__law_is_row ["told", "many"]
  d__law_is_base : DefAt K mg "_law_is_base" st__law_is_base ["told", "rows", "many", "due"]
  d__law_asked : DefAt K mg "_law_asked" st__law_asked ["draws", "num"]
  d__law_handed : DefAt K mg "_law_handed" st__law_handed ["draws", "rows"]
  d__law_judged : DefAt K mg "_law_judged" st__law_judged ["draws", "rows", "due", "many"]
  d__law_turned : DefAt K mg "_law_turned" st__law_turned ["rows", "many"]
  d__law_counted : DefAt K mg "_law_counted" st__law_counted ["draws", "rows", "many"]
  d__law_word : DefAt K mg "_law_word" st__law_word ["which"]
  d__law_bad_value : DefAt K mg "_law_bad_value" st__law_bad_value ["which"]
  d__law_much : DefAt K mg "_law_much" st__law_much ["which", "size"]
  d__law_refused : DefAt K mg "_law_refused" st__law_refused []
  d_law : DefAt K mg "law" st_law ["script"]
section
variable {P : Program} {w : World} {K : PySem.W.Frag} {mg : Str → Option Value} {base : Heap} {C_BadNumber C_BadTable C_TooMuch : Addr}
theorem cal_nu_integer (T : Tp P K mg C_BadNumber C_BadTable C_TooMuch) : Cal P w K mg base 1 "nu_integer" sp_nu_integer := by
  exact cal_mk (p := p_nu_integer) T.d_nu_integer sc_nu_integer len_nu_integer (fun f cdv A outer s H E hr => sb_cons (ss_ret (se_and (se_isi (se_var 0) T.b_isinstance T.b_int (by decide +kernel) (by decide +kernel)) (se_one (se_not (se_isi (se_var 0) T.b_isinstance T.b_bool (by decide +kernel) (by decide +kernel)))))) (sb_nil)) (pf_nu_integer)
theorem cal_nu_gcd (T : Tp P K mg C_BadNumber C_BadTable C_TooMuch) : Cal P w K mg base 1 "nu_gcd" sp_nu_gcd := by
  exact cal_mk (p := p_nu_gcd) T.d_nu_gcd sc_nu_gcd len_nu_gcd (fun f cdv A outer s H E hr => sb_cons (ss_asg (se_abs T.b_abs (sa_cons (se_var 0) (sa_nil))) (sg_name 0 sc_nu_gcd.nd)) (sb_cons (ss_asg (se_abs T.b_abs (sa_cons (se_var 1) (sa_nil))) (sg_name 1 sc_nu_gcd.nd)) (sb_cons (ss_while (passes_of rfl) (st_ne hr.units (se_var 1) (se_int)) (sb_cons (ss_par 0 1 rfl sc_nu_gcd.nd (sa_cons (se_var 1) (sa_cons (se_mod (se_var 0) (se_var 1)) (sa_nil)))) (sb_nil))) (sb_cons (ss_retN 0) (sb_nil))))) (pf_nu_gcd)
theorem cal_nu_low (T : Tp P K mg C_BadNumber C_BadTable C_TooMuch) : Cal P w K mg base 2 "nu_low" sp_nu_low := by
  exact cal_mk (p := p_nu_low) T.d_nu_low sc_nu_low len_nu_low (fun f cdv A outer s H E hr => sb_cons (ss_asg (se_call ((cal_nu_gcd T).mono (by decide)) hr (takes_of rfl rfl rfl rfl) (sa_cons (se_var 0) (sa_cons (se_var 1) (sa_nil)))) (sg_name 2 sc_nu_low.nd)) (sb_cons (ss_if (st_lt (se_var 1) (se_int)) (sb_cons (ss_asg (se_neg (se_var 2)) (sg_name 2 sc_nu_low.nd)) (sb_nil)) (sb_nil)) (sb_cons (ss_ret (se_tup (sa_cons (se_div (se_var 0) (se_var 2)) (sa_cons (se_div (se_var 1) (se_var 2)) (sa_nil))))) (sb_nil)))) (pf_nu_low)
theorem cal_number (T : Tp P K mg C_BadNumber C_BadTable C_TooMuch) : Cal P w K mg base 3 "number" (sp_number C_BadNumber C_BadTable C_TooMuch) := by
  exact cal_mk (p := p_number C_BadNumber) T.d_number sc_number (len_number C_BadNumber C_BadTable C_TooMuch) (fun f cdv A outer s H E hr => sb_cons (ss_if (st_val (se_call ((cal_nu_integer T).mono (by decide)) hr (takes_of rfl rfl rfl rfl) (sa_cons (se_var 0) (sa_nil)))) (sb_cons (ss_ret (se_tup (sa_cons (se_toint T.b_int (sa_cons (se_var 0) (sa_nil))) (sa_cons (se_int) (sa_nil))))) (sb_nil)) (sb_nil)) (sb_cons (ss_if (st_w (sw_and (st_val (se_isi2 (se_var 0) T.b_isinstance T.b_tuple T.b_list (by decide +kernel) (by decide +kernel) (by decide +kernel) (by decide +kernel))) (sw_and1 (st_eq hr.units (se_len T.b_len (sq_var 0)) (se_int))))) (sb_cons (ss_asg (se_var 0) (sg_tup rfl (sgs_cons (sg_name 1 sc_number.nd) (sgs_cons (sg_name 2 sc_number.nd) (sgs_nil))))) (sb_cons (ss_if (st_w (sw_and (st_val (se_call ((cal_nu_integer T).mono (by decide)) hr (takes_of rfl rfl rfl rfl) (sa_cons (se_var 1) (sa_nil)))) (sw_and (st_val (se_call ((cal_nu_integer T).mono (by decide)) hr (takes_of rfl rfl rfl rfl) (sa_cons (se_var 2) (sa_nil)))) (sw_and1 (st_ge (se_var 2) (se_int)))))) (sb_cons (ss_ret (se_call ((cal_nu_low T).mono (by decide)) hr (takes_of rfl rfl rfl rfl) (sa_cons (se_var 1) (sa_cons (se_var 2) (sa_nil))))) (sb_nil)) (sb_nil)) (sb_nil))) (sb_nil)) (sb_cons (ss_raise1 T.e_BadNumber rfl hr (takes_of rfl rfl rfl rfl) (sa_cons (se_var 0) (sa_nil))) (sb_nil)))) (pf_number C_BadNumber)
theorem cal_tb_lists (T : Tp P K mg C_BadNumber C_BadTable C_TooMuch) : Cal P w K mg base 1 "tb_lists" sp_tb_lists := by
  exact cal_mk (p := p_tb_lists) T.d_tb_lists sc_tb_lists len_tb_lists (fun f cdv A outer s H E hr => sb_cons (ss_if (st_not (st_val (se_isi2 (se_var 0) T.b_isinstance T.b_tuple T.b_list (by decide +kernel) (by decide +kernel) (by decide +kernel) (by decide +kernel)))) (sb_cons (ss_ret (se_bl)) (sb_nil)) (sb_nil)) (sb_cons (ss_for (passes_of rfl) rfl (si_seq (se_var 0)) (sg_name 2 sc_tb_lists.nd) (sb_cons (ss_if (st_w (sw_or (st_not (st_val (se_isi2 (se_var 2) T.b_isinstance T.b_tuple T.b_list (by decide +kernel) (by decide +kernel) (by decide +kernel) (by decide +kernel)))) (sw_or1 (st_ne hr.units (se_len T.b_len (sq_var 2)) (se_var 1))))) (sb_cons (ss_ret (se_bl)) (sb_nil)) (sb_nil)) (sb_nil))) (sb_cons (ss_ret (se_bl)) (sb_nil)))) (pf_tb_lists)
theorem cal_tb_look (T : Tp P K mg C_BadNumber C_BadTable C_TooMuch) : Cal P w K mg base 2 "tb_look" (sp_tb_look C_BadNumber C_BadTable C_TooMuch) := by
  exact cal_mk (p := p_tb_look C_BadTable) T.d_tb_look sc_tb_look (len_tb_look C_BadNumber C_BadTable C_TooMuch) (fun f cdv A outer s H E hr => sb_cons (ss_if (st_w (sw_or (st_not (st_val (se_call ((cal_nu_integer T).mono (by decide)) hr (takes_of rfl rfl rfl rfl) (sa_cons (se_var 1) (sa_nil))))) (sw_or1 (st_lt (se_var 1) (se_int))))) (sb_cons (ss_raise1 T.e_BadTable rfl hr (takes_of rfl rfl rfl rfl) (sa_cons (se_str) (sa_nil))) (sb_nil)) (sb_nil)) (sb_cons (ss_if (st_not (st_val (se_call ((cal_tb_lists T).mono (by decide)) hr (takes_of rfl rfl rfl rfl) (sa_cons (se_var 0) (sa_cons (se_var 1) (sa_nil)))))) (sb_cons (ss_raise1 T.e_BadTable rfl hr (takes_of rfl rfl rfl rfl) (sa_cons (se_var 2) (sa_nil))) (sb_nil)) (sb_nil)) (sb_nil))) (pf_tb_look C_BadTable)
theorem cal_tb_look_due (T : Tp P K mg C_BadNumber C_BadTable C_TooMuch) : Cal P w K mg base 1 "tb_look_due" (sp_tb_look_due C_BadNumber C_BadTable C_TooMuch) := by
  exact cal_mk (p := p_tb_look_due C_BadTable) T.d_tb_look_due sc_tb_look_due (len_tb_look_due C_BadNumber C_BadTable C_TooMuch) (fun f cdv A outer s H E hr => sb_cons (ss_if (st_w (sw_or (st_not (st_val (se_isi2 (se_var 1) T.b_isinstance T.b_tuple T.b_list (by decide +kernel) (by decide +kernel) (by decide +kernel) (by decide +kernel)))) (sw_or1 (st_ne hr.units (se_len T.b_len (sq_var 1)) (se_len T.b_len (sq_var 0)))))) (sb_cons (ss_raise1 T.e_BadTable rfl hr (takes_of rfl rfl rfl rfl) (sa_cons (se_str) (sa_nil))) (sb_nil)) (sb_nil)) (sb_nil)) (pf_tb_look_due C_BadTable)
theorem cal_tb_look_size (T : Tp P K mg C_BadNumber C_BadTable C_TooMuch) : Cal P w K mg base 1 "tb_look_size" (sp_tb_look_size C_BadNumber C_BadTable C_TooMuch) := by
  exact cal_mk (p := p_tb_look_size C_TooMuch) T.d_tb_look_size sc_tb_look_size (len_tb_look_size C_BadNumber C_BadTable C_TooMuch) (fun f cdv A outer s H E hr => sb_cons (ss_if (st_w (sw_or (st_gt (se_len T.b_len (sq_var 0)) (se_var 2)) (sw_or1 (st_gt (se_var 1) (se_var 2))))) (sb_cons (ss_raise2 T.e_TooMuch rfl hr (takes_of rfl rfl rfl rfl) (sa_cons (se_str) (sa_cons (se_var 2) (sa_nil)))) (sb_nil)) (sb_nil)) (sb_nil)) (pf_tb_look_size C_TooMuch)
theorem cal_tb_numbers (T : Tp P K mg C_BadNumber C_BadTable C_TooMuch) : Cal P w K mg base 4 "tb_numbers" (sp_tb_numbers C_BadNumber C_BadTable C_TooMuch) := by
  exact cal_mk (p := p_tb_numbers C_BadNumber C_BadTable C_TooMuch) T.d_tb_numbers sc_tb_numbers (len_tb_numbers C_BadNumber C_BadTable C_TooMuch) (fun f cdv A outer s H E hr => sb_cons (ss_ret (se_totup T.b_tuple (sq_of (se_lcR 1 rfl rfl (takes_of rfl rfl rfl rfl) rfl sc_tb_numbers.nd (si_seq (se_var 0)) (blkOk_by (N := N_tb_numbers) (sc := defScope st_tb_numbers) (by decide +kernel)) (fun _ _ _ _ _ => pg_name (i := 1) sc_tb_numbers.nd rfl (by first | exact Or.inl rfl | exact Or.inr rfl)) (fun _ _ _ _ _ xe W hx => se_callB ((cal_number T).mono (by decide)) hr hx (sa_cons (se_var 1) (sa_nil))))))) (sb_nil)) (pf_tb_numbers C_BadNumber C_BadTable C_TooMuch)
theorem cal_tb_clear (T : Tp P K mg C_BadNumber C_BadTable C_TooMuch) : Cal P w K mg base 1 "tb_clear" sp_tb_clear := by
  exact cal_mk (p := p_tb_clear) T.d_tb_clear sc_tb_clear len_tb_clear (fun f cdv A outer s H E hr => sb_cons (ss_asg (se_int) (sg_name 1 sc_tb_clear.nd)) (sb_cons (ss_for (passes_of rfl) rfl (si_seq (se_var 0)) (sg_name 2 sc_tb_clear.nd) (sb_cons (ss_asg (se_lcm T.f_lcm (sa_cons (se_var 1) (sa_cons (se_ix (sq_var 2) (se_int)) (sa_nil)))) (sg_name 1 sc_tb_clear.nd)) (sb_nil))) (sb_cons (ss_lc 2 (j := 3) rfl sc_tb_clear.nd rfl rfl (sw_true rfl rfl rfl (by decide +kernel)) (si_seq (se_var 0)) (blkOk_by (N := N_tb_clear) (sc := defScope st_tb_clear) (by decide +kernel)) (fun _ _ _ _ _ => pg_name (i := 2) sc_tb_clear.nd rfl (by first | exact Or.inl rfl | exact Or.inr rfl)) (fun _ _ _ _ _ => sts_nil) (fun _ _ _ _ _ => se_mul (se_ix (sq_var 2) (se_int)) (se_div (se_var 1) (se_ix (sq_var 2) (se_int))))) (sb_cons (ss_asg (se_int) (sg_name 4 sc_tb_clear.nd)) (sb_cons (ss_frz 3 (ss_for (passes_of rfl) rfl (si_seq (se_var 3)) (sg_name 2 sc_tb_clear.nd) (sb_cons (ss_asg (se_gcd T.f_gcd (sa_cons (se_var 4) (sa_cons (se_var 2) (sa_nil)))) (sg_name 4 sc_tb_clear.nd)) (sb_nil)))) (sb_cons (ss_if (st_gt (se_var 4) (se_int)) (sb_cons (ss_frz 3 (ss_lc 2 (j := 3) rfl sc_tb_clear.nd rfl rfl (sw_true rfl rfl rfl (by decide +kernel)) (si_seq (se_var 3)) (blkOk_by (N := N_tb_clear) (sc := defScope st_tb_clear) (by decide +kernel)) (fun _ _ _ _ _ => pg_name (i := 2) sc_tb_clear.nd rfl (by first | exact Or.inl rfl | exact Or.inr rfl)) (fun _ _ _ _ _ => sts_nil) (fun _ _ _ _ _ => se_div (se_var 2) (se_var 4)))) (sb_nil)) (sb_nil)) (sb_cons (ss_retN 3) (sb_nil)))))))) (pf_tb_clear)
theorem cal_tb_spot (T : Tp P K mg C_BadNumber C_BadTable C_TooMuch) : Cal P w K mg base 1 "tb_spot" sp_tb_spot := by
  exact cal_mk (p := p_tb_spot) T.d_tb_spot sc_tb_spot len_tb_spot (fun f cdv A outer s H E hr => sb_cons (ss_for (passes_of rfl) rfl (si_rng2 T.b_range (sa_cons (se_var 1) (sa_cons (se_len T.b_len (sq_var 0)) (sa_nil)))) (sg_name 3 sc_tb_spot.nd) (sb_cons (ss_if (st_ne hr.units (se_ix (sq_of (se_ix (sq_var 0) (se_var 3))) (se_var 2)) (se_int)) (sb_cons (ss_retN 3) (sb_nil)) (sb_nil)) (sb_nil))) (sb_cons (ss_ret (se_non)) (sb_nil))) (pf_tb_spot)
theorem cal_tb_echelon (T : Tp P K mg C_BadNumber C_BadTable C_TooMuch) : Cal P w K mg base 2 "tb_echelon" sp_tb_echelon := by
  exact cal_mk (p := p_tb_echelon) T.d_tb_echelon sc_tb_echelon len_tb_echelon (fun f cdv A outer s H E hr => sb_cons (ss_lc 10 (j := 2) rfl sc_tb_echelon.nd rfl rfl (sw_true rfl rfl rfl (by decide +kernel)) (si_seq (se_var 0)) (blkOk_by (N := N_tb_echelon) (sc := defScope st_tb_echelon) (by decide +kernel)) (fun _ _ _ _ _ => pg_name (i := 10) sc_tb_echelon.nd rfl (by first | exact Or.inl rfl | exact Or.inr rfl)) (fun _ _ _ _ _ => sts_nil) (fun _ _ _ _ _ => se_tolist T.b_list (sq_var 10))) (sb_cons (ss_asg (se_lst (sa_nil)) (sg_name 3 sc_tb_echelon.nd)) (sb_cons (ss_asg (se_int) (sg_name 4 sc_tb_echelon.nd)) (sb_cons (ss_for (passes_of rfl) rfl (si_rng1 T.b_range (sa_cons (se_var 1) (sa_nil))) (sg_name 5 sc_tb_echelon.nd) (sb_cons (ss_asg (se_len T.b_len (sq_var 3)) (sg_name 6 sc_tb_echelon.nd)) (sb_cons (ss_asg (se_lend 2 (se_call ((cal_tb_spot T).mono (by decide)) hr (takes_of rfl rfl rfl rfl) (sa_cons (se_var 2) (sa_cons (se_var 6) (sa_cons (se_var 5) (sa_nil)))))) (sg_name 7 sc_tb_echelon.nd)) (sb_cons (ss_if (st_notN (se_var 7) (se_non)) (sb_cons (ss_asg (se_tup (sa_cons (se_ix (sq_var 2) (se_var 7)) (sa_cons (se_ix (sq_var 2) (se_var 6)) (sa_nil)))) (sg_tup rfl (sgs_cons (sg_sub 2 (W := W0) (se_var 6)) (sgs_cons (sg_sub 2 (W := W0) (se_var 7)) (sgs_nil))))) (sb_cons (ss_asg (se_ix (sq_var 2) (se_var 6)) (sg_name 8 sc_tb_echelon.nd)) (sb_cons (ss_for (passes_of rfl) rfl (si_rng2 T.b_range (sa_cons (se_add (se_var 6) (se_int)) (sa_cons (se_len T.b_len (sq_var 2)) (sa_nil)))) (sg_name 9 sc_tb_echelon.nd) (sb_cons (ss_asg (se_ix (sq_var 2) (se_var 9)) (sg_name 10 sc_tb_echelon.nd)) (sb_cons (ss_asg (se_lc 11 rfl sc_tb_echelon.nd (si_rng1 T.b_range (sa_cons (se_len T.b_len (sq_var 10)) (sa_nil))) (blkOk_by (N := N_tb_echelon) (sc := defScope st_tb_echelon) (by decide +kernel)) (fun _ _ _ _ _ => pg_name (i := 11) sc_tb_echelon.nd rfl (by first | exact Or.inl rfl | exact Or.inr rfl)) (fun _ _ _ _ _ => sts_nil) (fun _ _ _ _ _ => se_div (se_sub (se_mul (se_ix (sq_var 10) (se_var 11)) (se_ix (sq_var 8) (se_var 5))) (se_mul (se_ix (sq_var 10) (se_var 5)) (se_ix (sq_var 8) (se_var 11)))) (se_var 4))) (sg_sub 2 (W := W0) (se_var 9))) (sb_nil)))) (sb_cons (ss_asg (se_ix (sq_var 8) (se_var 5)) (sg_name 4 sc_tb_echelon.nd)) (sb_cons (ss_append 3 (se_var 5)) (sb_nil)))))) (sb_nil)) (sb_nil))))) (sb_cons (ss_frz 3 (ss_frz 2 (ss_ret (se_tup (sa_cons (se_var 3) (sa_cons (se_var 2) (sa_nil))))))) (sb_nil)))))) (pf_tb_echelon)
theorem cal_tb_filled (T : Tp P K mg C_BadNumber C_BadTable C_TooMuch) : Cal P w K mg base 3 "tb_filled" sp_tb_filled := by
  exact cal_mk (p := p_tb_filled) T.d_tb_filled sc_tb_filled len_tb_filled (fun f cdv A outer s H E hr => sb_cons (ss_asg (se_int) (sg_name 4 sc_tb_filled.nd)) (sb_cons (ss_if (st_gt (se_len T.b_len (sq_var 0)) (se_int)) (sb_cons (ss_asg (se_ix (sq_of (se_ix (sq_var 1) (se_sub (se_len T.b_len (sq_var 0)) (se_int)))) (se_ix (sq_var 0) (se_neg (se_int)))) (sg_name 4 sc_tb_filled.nd)) (sb_nil)) (sb_nil)) (sb_cons (ss_asg (se_mul (se_lst (sa_cons (se_int) (sa_nil))) (se_var 2)) (sg_name 5 sc_tb_filled.nd)) (sb_cons (ss_if (st_notN (se_var 3) (se_non)) (sb_cons (ss_asg (se_var 4) (sg_sub 5 (W := W0) (se_var 3))) (sb_nil)) (sb_nil)) (sb_cons (ss_for (passes_of rfl) rfl (si_rngD T.b_range (sa_cons (se_sub (se_len T.b_len (sq_var 0)) (se_int)) (sa_cons (se_neg (se_int)) (sa_cons (se_neg (se_int)) (sa_nil))))) (sg_name 6 sc_tb_filled.nd) (sb_cons (ss_asg (se_ix (sq_var 0) (se_var 6)) (sg_name 7 sc_tb_filled.nd)) (sb_cons (ss_asg (se_ix (sq_var 1) (se_var 6)) (sg_name 8 sc_tb_filled.nd)) (sb_cons (ss_asg (se_int) (sg_name 9 sc_tb_filled.nd)) (sb_cons (ss_if (st_isN (se_var 3) (se_non)) (sb_cons (ss_asg (se_mul (se_ix (sq_var 8) (se_var 2)) (se_var 4)) (sg_name 9 sc_tb_filled.nd)) (sb_nil)) (sb_nil)) (sb_cons (ss_for (passes_of rfl) rfl (si_rng2 T.b_range (sa_cons (se_add (se_var 7) (se_int)) (sa_cons (se_var 2) (sa_nil)))) (sg_name 10 sc_tb_filled.nd) (sb_cons (ss_asg (se_sub (se_var 9) (se_mul (se_ix (sq_var 8) (se_var 10)) (se_ix (sq_var 5) (se_var 10)))) (sg_name 9 sc_tb_filled.nd)) (sb_nil))) (sb_cons (ss_asg (se_div (se_var 9) (se_ix (sq_var 8) (se_var 7))) (sg_sub 5 (W := W0) (se_var 7))) (sb_nil)))))))) (sb_cons (ss_frz 5 (ss_ret (se_totup T.b_tuple (sq_of (se_lc 9 rfl sc_tb_filled.nd (si_seq (se_var 5)) (blkOk_by (N := N_tb_filled) (sc := defScope st_tb_filled) (by decide +kernel)) (fun _ _ _ _ _ => pg_name (i := 9) sc_tb_filled.nd rfl (by first | exact Or.inl rfl | exact Or.inr rfl)) (fun _ _ _ _ _ => sts_nil) (fun _ _ _ _ _ => se_call ((cal_nu_low T).mono (by decide)) hr Py.takes0 (sa_cons (se_var 9) (sa_cons (se_var 4) (sa_nil))))))))) (sb_nil))))))) (pf_tb_filled)
theorem cal_tb_free (T : Tp P K mg C_BadNumber C_BadTable C_TooMuch) : Cal P w K mg base 4 "tb_free" sp_tb_free := by
  exact cal_mk (p := p_tb_free) T.d_tb_free sc_tb_free len_tb_free (fun f cdv A outer s H E hr => sb_cons (ss_ret (se_totup T.b_tuple (sq_of (se_lc 3 rfl sc_tb_free.nd (si_rng1 T.b_range (sa_cons (se_var 2) (sa_nil))) (blkOk_by (N := N_tb_free) (sc := defScope st_tb_free) (by decide +kernel)) (fun _ _ _ _ _ => pg_name (i := 3) sc_tb_free.nd rfl (by first | exact Or.inl rfl | exact Or.inr rfl)) (fun _ _ _ _ _ => sts_one (st_notin (se_var 3) (se_var 0))) (fun _ _ _ _ _ => se_call ((cal_tb_filled T).mono (by decide)) hr Py.takes0 (sa_cons (se_var 0) (sa_cons (se_var 1) (sa_cons (se_var 2) (sa_cons (se_var 3) (sa_nil)))))))))) (sb_nil)) (pf_tb_free)
theorem cal_tb_answers (T : Tp P K mg C_BadNumber C_BadTable C_TooMuch) : Cal P w K mg base 5 "tb_answers" sp_tb_answers := by
  exact cal_mk (p := p_tb_answers) T.d_tb_answers sc_tb_answers len_tb_answers (fun f cdv A outer s H E hr => sb_cons (ss_lc 6 (j := 3) rfl sc_tb_answers.nd rfl rfl (sw_true rfl rfl rfl (by decide +kernel)) (si_rng1 T.b_range (sa_cons (se_len T.b_len (sq_var 0)) (sa_nil))) (blkOk_by (N := N_tb_answers) (sc := defScope st_tb_answers) (by decide +kernel)) (fun _ _ _ _ _ => pg_name (i := 6) sc_tb_answers.nd rfl (by first | exact Or.inl rfl | exact Or.inr rfl)) (fun _ _ _ _ _ => sts_nil) (fun _ _ _ _ _ => se_call ((cal_tb_clear T).mono (by decide)) hr Py.takes0 (sa_cons (se_add (se_tolist T.b_list (sq_of (se_ix (sq_var 0) (se_var 6)))) (se_lst (sa_cons (se_ix (sq_var 1) (se_var 6)) (sa_nil)))) (sa_nil)))) (sb_cons (ss_frz 3 (ss_asg (se_call ((cal_tb_echelon T).mono (by decide)) hr (takes_of rfl rfl rfl rfl) (sa_cons (se_var 3) (sa_cons (se_var 2) (sa_nil)))) (sg_tup rfl (sgs_cons (sg_name 4 sc_tb_answers.nd) (sgs_cons (sg_name 5 sc_tb_answers.nd) (sgs_nil)))))) (sb_cons (ss_for (passes_of rfl) rfl (si_rng2 T.b_range (sa_cons (se_len T.b_len (sq_var 4)) (sa_cons (se_len T.b_len (sq_var 5)) (sa_nil)))) (sg_name 6 sc_tb_answers.nd) (sb_cons (ss_if (st_ne hr.units (se_ix (sq_of (se_ix (sq_var 5) (se_var 6))) (se_var 2)) (se_int)) (sb_cons (ss_ret (se_non)) (sb_nil)) (sb_nil)) (sb_nil))) (sb_cons (ss_ret (se_tup (sa_cons (se_call ((cal_tb_filled T).mono (by decide)) hr (takes_of rfl rfl rfl rfl) (sa_cons (se_var 4) (sa_cons (se_var 5) (sa_cons (se_var 2) (sa_cons (se_non) (sa_nil)))))) (sa_cons (se_call ((cal_tb_free T).mono (by decide)) hr (takes_of rfl rfl rfl rfl) (sa_cons (se_var 4) (sa_cons (se_var 5) (sa_cons (se_var 2) (sa_nil))))) (sa_nil))))) (sb_nil))))) (pf_tb_answers)
theorem cal_tb_base (T : Tp P K mg C_BadNumber C_BadTable C_TooMuch) : Cal P w K mg base 5 "tb_base" sp_tb_base := by
  exact cal_mk (p := p_tb_base) T.d_tb_base sc_tb_base len_tb_base (fun f cdv A outer s H E hr => sb_cons (ss_asg (se_call ((cal_tb_echelon T).mono (by decide)) hr (takes_of rfl rfl rfl rfl) (sa_cons (se_lc 4 rfl sc_tb_base.nd (si_seq (se_var 0)) (blkOk_by (N := N_tb_base) (sc := defScope st_tb_base) (by decide +kernel)) (fun _ _ _ _ _ => pg_name (i := 4) sc_tb_base.nd rfl (by first | exact Or.inl rfl | exact Or.inr rfl)) (fun _ _ _ _ _ => sts_nil) (fun _ _ _ _ _ => se_call ((cal_tb_clear T).mono (by decide)) hr Py.takes0 (sa_cons (se_var 4) (sa_nil)))) (sa_cons (se_var 1) (sa_nil)))) (sg_tup rfl (sgs_cons (sg_name 2 sc_tb_base.nd) (sgs_cons (sg_name 3 sc_tb_base.nd) (sgs_nil))))) (sb_cons (ss_ret (se_call ((cal_tb_free T).mono (by decide)) hr (takes_of rfl rfl rfl rfl) (sa_cons (se_var 2) (sa_cons (se_var 3) (sa_cons (se_var 1) (sa_nil)))))) (sb_nil))) (pf_tb_base)
theorem cal_tb_rank (T : Tp P K mg C_BadNumber C_BadTable C_TooMuch) : Cal P w K mg base 3 "tb_rank" sp_tb_rank := by
  exact cal_mk (p := p_tb_rank) T.d_tb_rank sc_tb_rank len_tb_rank (fun f cdv A outer s H E hr => sb_cons (ss_ret (se_len T.b_len (sq_of (se_ix (sq_of (se_call ((cal_tb_echelon T).mono (by decide)) hr (takes_of rfl rfl rfl rfl) (sa_cons (se_lc 2 rfl sc_tb_rank.nd (si_seq (se_var 0)) (blkOk_by (N := N_tb_rank) (sc := defScope st_tb_rank) (by decide +kernel)) (fun _ _ _ _ _ => pg_name (i := 2) sc_tb_rank.nd rfl (by first | exact Or.inl rfl | exact Or.inr rfl)) (fun _ _ _ _ _ => sts_nil) (fun _ _ _ _ _ => se_call ((cal_tb_clear T).mono (by decide)) hr Py.takes0 (sa_cons (se_var 2) (sa_nil)))) (sa_cons (se_var 1) (sa_nil))))) (se_int))))) (sb_nil)) (pf_tb_rank)
theorem cal_tb_turned (T : Tp P K mg C_BadNumber C_BadTable C_TooMuch) : Cal P w K mg base 1 "tb_turned" sp_tb_turned := by
  exact cal_mk (p := p_tb_turned) T.d_tb_turned sc_tb_turned len_tb_turned (fun f cdv A outer s H E hr => sb_cons (ss_ret (se_lc 2 rfl sc_tb_turned.nd (si_rng1 T.b_range (sa_cons (se_var 1) (sa_nil))) (blkOk_by (N := N_tb_turned) (sc := defScope st_tb_turned) (by decide +kernel)) (fun _ _ _ _ _ => pg_name (i := 2) sc_tb_turned.nd rfl (by first | exact Or.inl rfl | exact Or.inr rfl)) (fun _ _ _ _ _ => sts_nil) (fun _ _ _ _ _ => se_totup T.b_tuple (sq_of (se_lc 3 rfl sc_tb_turned.nd (si_seq (se_var 0)) (blkOk_by (by rfl)) (fun _ _ _ _ _ => pg_name (i := 3) sc_tb_turned.nd rfl (by first | exact Or.inl rfl | exact Or.inr rfl)) (fun _ _ _ _ _ => sts_nil) (fun _ _ _ _ _ => se_ix (sq_var 3) (se_var 2))))))) (sb_nil)) (pf_tb_turned)
theorem cal_tb_paper (T : Tp P K mg C_BadNumber C_BadTable C_TooMuch) : Cal P w K mg base 6 "tb_paper" sp_tb_paper := by
  exact cal_mk (p := p_tb_paper) T.d_tb_paper sc_tb_paper len_tb_paper (fun f cdv A outer s H E hr => sb_cons (ss_asg (se_add (se_call ((cal_tb_turned T).mono (by decide)) hr (takes_of rfl rfl rfl rfl) (sa_cons (se_var 0) (sa_cons (se_var 2) (sa_nil)))) (se_lst (sa_cons (se_totup T.b_tuple (sq_var 1)) (sa_nil)))) (sg_name 3 sc_tb_paper.nd)) (sb_cons (ss_asg (se_add (se_mul (se_lst (sa_cons (se_tup (sa_cons (se_int) (sa_cons (se_int) (sa_nil)))) (sa_nil))) (se_var 2)) (se_lst (sa_cons (se_tup (sa_cons (se_int) (sa_cons (se_int) (sa_nil)))) (sa_nil)))) (sg_name 4 sc_tb_paper.nd)) (sb_cons (ss_frz 3 (ss_frz 4 (ss_ret (se_ix (sq_of (se_call ((cal_tb_answers T).mono (by decide)) hr (takes_of rfl rfl rfl rfl) (sa_cons (se_var 3) (sa_cons (se_var 4) (sa_cons (se_len T.b_len (sq_var 0)) (sa_nil)))))) (se_int))))) (sb_nil)))) (pf_tb_paper)
theorem cal_solve (T : Tp P K mg C_BadNumber C_BadTable C_TooMuch) : Cal P w K mg base 7 "solve" (sp_solve C_BadNumber C_BadTable C_TooMuch) := by
  exact cal_mk (p := p_solve C_BadNumber C_BadTable C_TooMuch) T.d_solve sc_solve (len_solve C_BadNumber C_BadTable C_TooMuch) (fun f cdv A outer s H E hr => sb_cons (ss_expr (se_call ((cal_tb_look T).mono (by decide)) hr (takes_of rfl rfl rfl rfl) (sa_cons (se_var 0) (sa_cons (se_var 2) (sa_cons (se_str) (sa_nil)))))) (sb_cons (ss_expr (se_call ((cal_tb_look_due T).mono (by decide)) hr (takes_of rfl rfl rfl rfl) (sa_cons (se_var 0) (sa_cons (se_var 1) (sa_nil))))) (sb_cons (ss_expr (se_call ((cal_tb_look_size T).mono (by decide)) hr (takes_of rfl rfl rfl rfl) (sa_cons (se_var 0) (sa_cons (se_var 2) (sa_cons (se_globI T.g_TABLE_BOUND) (sa_nil)))))) (sb_cons (ss_lcR 6 (j := 3) rfl rfl (takes_of rfl rfl rfl rfl) rfl sc_solve.nd rfl rfl (sw_true rfl rfl rfl (by decide +kernel)) (si_seq (se_var 0)) (blkOk_by (N := N_solve) (sc := defScope st_solve) (by decide +kernel)) (fun _ _ _ _ _ => pg_name (i := 6) sc_solve.nd rfl (by first | exact Or.inl rfl | exact Or.inr rfl)) (fun _ _ _ _ _ xe W hx => se_callB ((cal_tb_numbers T).mono (by decide)) hr hx (sa_cons (se_var 6) (sa_nil)))) (sb_cons (ss_asg (se_call ((cal_tb_numbers T).mono (by decide)) hr (takes_of rfl rfl rfl rfl) (sa_cons (se_var 1) (sa_nil))) (sg_name 4 sc_solve.nd)) (sb_cons (ss_frz 3 (ss_asg (se_call ((cal_tb_answers T).mono (by decide)) hr (takes_of rfl rfl rfl rfl) (sa_cons (se_var 3) (sa_cons (se_var 4) (sa_cons (se_var 2) (sa_nil))))) (sg_name 5 sc_solve.nd))) (sb_cons (ss_if (st_isN (se_var 5) (se_non)) (sb_cons (ss_frz 3 (ss_ret (se_tup (sa_cons (se_str) (sa_cons (se_call ((cal_tb_paper T).mono (by decide)) hr (takes_of rfl rfl rfl rfl) (sa_cons (se_var 3) (sa_cons (se_var 4) (sa_cons (se_var 2) (sa_nil))))) (sa_nil)))))) (sb_nil)) (sb_nil)) (sb_cons (ss_ret (se_tup (sa_cons (se_str) (sa_cons (se_ix (sq_var 5) (se_int)) (sa_cons (se_ix (sq_var 5) (se_int)) (sa_nil)))))) (sb_nil))))))))) (pf_solve C_BadNumber C_BadTable C_TooMuch)
theorem cal_rank (T : Tp P K mg C_BadNumber C_BadTable C_TooMuch) : Cal P w K mg base 5 "rank" (sp_rank C_BadNumber C_BadTable C_TooMuch) := by
  exact cal_mk (p := p_rank C_BadNumber C_BadTable C_TooMuch) T.d_rank sc_rank (len_rank C_BadNumber C_BadTable C_TooMuch) (fun f cdv A outer s H E hr => sb_cons (ss_expr (se_call ((cal_tb_look T).mono (by decide)) hr (takes_of rfl rfl rfl rfl) (sa_cons (se_var 0) (sa_cons (se_var 1) (sa_cons (se_str) (sa_nil)))))) (sb_cons (ss_expr (se_call ((cal_tb_look_size T).mono (by decide)) hr (takes_of rfl rfl rfl rfl) (sa_cons (se_var 0) (sa_cons (se_var 1) (sa_cons (se_globI T.g_TABLE_BOUND) (sa_nil)))))) (sb_cons (ss_ret (se_call ((cal_tb_rank T).mono (by decide)) hr (takes_of rfl rfl rfl rfl) (sa_cons (se_lcR 2 rfl rfl (takes_of rfl rfl rfl rfl) rfl sc_rank.nd (si_seq (se_var 0)) (blkOk_by (N := N_rank) (sc := defScope st_rank) (by decide +kernel)) (fun _ _ _ _ _ => pg_name (i := 2) sc_rank.nd rfl (by first | exact Or.inl rfl | exact Or.inr rfl)) (fun _ _ _ _ _ xe W hx => se_callB ((cal_tb_numbers T).mono (by decide)) hr hx (sa_cons (se_var 2) (sa_nil)))) (sa_cons (se_var 1) (sa_nil))))) (sb_nil)))) (pf_rank C_BadNumber C_BadTable C_TooMuch)
theorem cal_number_ties (T : Tp P K mg C_BadNumber C_BadTable C_TooMuch) : Cal P w K mg base 6 "number_ties" (sp_number_ties C_BadNumber C_BadTable C_TooMuch) := by
  exact cal_mk (p := p_number_ties C_BadNumber C_BadTable C_TooMuch) T.d_number_ties sc_number_ties (len_number_ties C_BadNumber C_BadTable C_TooMuch) (fun f cdv A outer s H E hr => sb_cons (ss_expr (se_call ((cal_tb_look T).mono (by decide)) hr (takes_of rfl rfl rfl rfl) (sa_cons (se_var 0) (sa_cons (se_var 1) (sa_cons (se_str) (sa_nil)))))) (sb_cons (ss_expr (se_call ((cal_tb_look_size T).mono (by decide)) hr (takes_of rfl rfl rfl rfl) (sa_cons (se_var 0) (sa_cons (se_var 1) (sa_cons (se_globI T.g_TABLE_BOUND) (sa_nil)))))) (sb_cons (ss_lcR 3 (j := 2) rfl rfl (takes_of rfl rfl rfl rfl) rfl sc_number_ties.nd rfl rfl (sw_true rfl rfl rfl (by decide +kernel)) (si_seq (se_var 0)) (blkOk_by (N := N_number_ties) (sc := defScope st_number_ties) (by decide +kernel)) (fun _ _ _ _ _ => pg_name (i := 3) sc_number_ties.nd rfl (by first | exact Or.inl rfl | exact Or.inr rfl)) (fun _ _ _ _ _ xe W hx => se_callB ((cal_tb_numbers T).mono (by decide)) hr hx (sa_cons (se_var 3) (sa_nil)))) (sb_cons (ss_frz 2 (ss_ret (se_call ((cal_tb_base T).mono (by decide)) hr (takes_of rfl rfl rfl rfl) (sa_cons (se_call ((cal_tb_turned T).mono (by decide)) hr (takes_of rfl rfl rfl rfl) (sa_cons (se_var 2) (sa_cons (se_var 1) (sa_nil)))) (sa_cons (se_len T.b_len (sq_var 2)) (sa_nil)))))) (sb_nil))))) (pf_number_ties C_BadNumber C_BadTable C_TooMuch)
theorem cal__law_stream (T : Tp P K mg C_BadNumber C_BadTable C_TooMuch) : Cal P w K mg base 1 "_law_stream" sp__law_stream := by
  exact cal_mk (p := p__law_stream) T.d__law_stream sc__law_stream len__law_stream (fun f cdv A outer s H E hr => sb_cons (ss_asg (se_lst (sa_nil)) (sg_name 1 sc__law_stream.nd)) (sb_cons (ss_for (passes_of rfl) rfl (si_rng1 T.b_range (sa_cons (se_min rfl T.b_min (sa_cons (se_len T.b_len (sq_var 0)) (sa_cons (se_int) (sa_nil)))) (sa_nil))) (sg_name 2 sc__law_stream.nd) (sb_cons (ss_asg (se_toint T.b_int (sa_cons (se_ix (sq_var 0) (se_var 2)) (sa_nil))) (sg_name 3 sc__law_stream.nd)) (sb_cons (ss_if (st_lt (se_var 3) (se_int)) (sb_cons (ss_asg (se_sub (se_int) (se_var 3)) (sg_name 3 sc__law_stream.nd)) (sb_nil)) (sb_nil)) (sb_cons (ss_if (st_ge (se_var 3) (se_pow (se_int) (se_int))) (sb_cons (ss_for (passes_of rfl) rfl (si_rng1 T.b_range (sa_cons (se_int) (sa_nil))) (sg_name 4 sc__law_stream.nd) (sb_cons (ss_append 1 (se_mod (se_toint T.b_int (sa_cons (se_var 3) (sa_nil))) (se_int))) (sb_cons (ss_asg (se_div (se_var 3) (se_int)) (sg_name 3 sc__law_stream.nd)) (sb_nil)))) (sb_nil)) (sb_cons (ss_asg (se_mod (se_toint T.b_int (sa_cons (se_add (se_add (se_mul (se_var 3) (se_int)) (se_mul (se_var 2) (se_int))) (se_int)) (sa_nil))) (se_int)) (sg_name 5 sc__law_stream.nd)) (sb_cons (ss_for (passes_of rfl) rfl (si_rng1 T.b_range (sa_cons (se_int) (sa_nil))) (sg_name 4 sc__law_stream.nd) (sb_cons (ss_asg (se_mod (se_toint T.b_int (sa_cons (se_add (se_add (se_add (se_mul (se_var 5) (se_var 5)) (se_mul (se_var 4) (se_int))) (se_mul (se_var 2) (se_int))) (se_int)) (sa_nil))) (se_int)) (sg_name 5 sc__law_stream.nd)) (sb_cons (ss_append 1 (se_var 5)) (sb_nil)))) (sb_nil)))) (sb_nil))))) (sb_cons (ss_reverse 1) (sb_cons (ss_retN 1) (sb_nil))))) (pf__law_stream)
theorem cal__law_next (T : Tp P K mg C_BadNumber C_BadTable C_TooMuch) : Cal P w K mg base 1 "_law_next" sp__law_next := by
  exact cal_mk (p := p__law_next) T.d__law_next sc__law_next len__law_next (fun f cdv A outer s H E hr => sb_cons (ss_if (st_eq hr.units (se_lenD 0 T.b_len) (se_int)) (sb_cons (ss_ret (se_int)) (sb_nil)) (sb_nil)) (sb_cons (ss_ret (se_mod (se_toint T.b_int (sa_cons (se_popD 0) (sa_nil))) (se_var 1))) (sb_nil))) (pf__law_next)
theorem cal__law_int (T : Tp P K mg C_BadNumber C_BadTable C_TooMuch) : Cal P w K mg base 1 "_law_int" sp__law_int := by
  exact cal_mk (p := p__law_int) T.d__law_int sc__law_int len__law_int (fun f cdv A outer s H E hr => sb_cons (ss_ret (se_and (se_isi (se_var 0) T.b_isinstance T.b_int (by decide +kernel) (by decide +kernel)) (se_one (se_not (se_isi (se_var 0) T.b_isinstance T.b_bool (by decide +kernel) (by decide +kernel)))))) (sb_nil)) (pf__law_int)
theorem cal__law_gcd (T : Tp P K mg C_BadNumber C_BadTable C_TooMuch) : Cal P w K mg base 1 "_law_gcd" sp__law_gcd := by
  exact cal_mk (p := p__law_gcd) T.d__law_gcd sc__law_gcd len__law_gcd (fun f cdv A outer s H E hr => sb_cons (ss_asg (se_abs T.b_abs (sa_cons (se_var 0) (sa_nil))) (sg_name 0 sc__law_gcd.nd)) (sb_cons (ss_asg (se_abs T.b_abs (sa_cons (se_var 1) (sa_nil))) (sg_name 1 sc__law_gcd.nd)) (sb_cons (ss_for (passes_of rfl) rfl (si_rng1 T.b_range (sa_cons (se_add (se_mul (se_int) (se_bits (se_var 1))) (se_int)) (sa_nil))) (sg_name 2 sc__law_gcd.nd) (sb_cons (ss_if (st_ne hr.units (se_var 1) (se_int)) (sb_cons (ss_asg (se_mod (se_var 0) (se_var 1)) (sg_name 3 sc__law_gcd.nd)) (sb_cons (ss_asg (se_var 1) (sg_name 0 sc__law_gcd.nd)) (sb_cons (ss_asg (se_var 3) (sg_name 1 sc__law_gcd.nd)) (sb_nil)))) (sb_nil)) (sb_nil))) (sb_cons (ss_retN 0) (sb_nil))))) (pf__law_gcd)
theorem cal__law_num (T : Tp P K mg C_BadNumber C_BadTable C_TooMuch) : Cal P w K mg base 2 "_law_num" sp__law_num := by
  exact cal_mk (p := p__law_num) T.d__law_num sc__law_num len__law_num (fun f cdv A outer s H E hr => sb_cons (ss_asg (se_call ((cal__law_gcd T).mono (by decide)) hr (takes_of rfl rfl rfl rfl) (sa_cons (se_var 0) (sa_cons (se_var 1) (sa_nil)))) (sg_name 2 sc__law_num.nd)) (sb_cons (ss_if (st_lt (se_var 1) (se_int)) (sb_cons (ss_asg (se_sub (se_int) (se_var 2)) (sg_name 2 sc__law_num.nd)) (sb_nil)) (sb_nil)) (sb_cons (ss_ret (se_tup (sa_cons (se_div (se_var 0) (se_var 2)) (sa_cons (se_div (se_var 1) (se_var 2)) (sa_nil))))) (sb_nil)))) (pf__law_num)
theorem cal__law_nplus (T : Tp P K mg C_BadNumber C_BadTable C_TooMuch) : Cal P w K mg base 3 "_law_nplus" sp__law_nplus := by
  exact cal_mk (p := p__law_nplus) T.d__law_nplus sc__law_nplus len__law_nplus (fun f cdv A outer s H E hr => sb_cons (ss_ret (se_call ((cal__law_num T).mono (by decide)) hr (takes_of rfl rfl rfl rfl) (sa_cons (se_add (se_mul (se_ix (sq_var 0) (se_int)) (se_ix (sq_var 1) (se_int))) (se_mul (se_ix (sq_var 1) (se_int)) (se_ix (sq_var 0) (se_int)))) (sa_cons (se_mul (se_ix (sq_var 0) (se_int)) (se_ix (sq_var 1) (se_int))) (sa_nil))))) (sb_nil)) (pf__law_nplus)
theorem cal__law_ntimes (T : Tp P K mg C_BadNumber C_BadTable C_TooMuch) : Cal P w K mg base 3 "_law_ntimes" sp__law_ntimes := by
  exact cal_mk (p := p__law_ntimes) T.d__law_ntimes sc__law_ntimes len__law_ntimes (fun f cdv A outer s H E hr => sb_cons (ss_ret (se_call ((cal__law_num T).mono (by decide)) hr (takes_of rfl rfl rfl rfl) (sa_cons (se_mul (se_ix (sq_var 0) (se_int)) (se_ix (sq_var 1) (se_int))) (sa_cons (se_mul (se_ix (sq_var 0) (se_int)) (se_ix (sq_var 1) (se_int))) (sa_nil))))) (sb_nil)) (pf__law_ntimes)
theorem cal__law_is_num (T : Tp P K mg C_BadNumber C_BadTable C_TooMuch) : Cal P w K mg base 2 "_law_is_num" sp__law_is_num := by
  exact cal_mk (p := p__law_is_num) T.d__law_is_num sc__law_is_num len__law_is_num (fun f cdv A outer s H E hr => sb_cons (ss_if (st_w (sw_or (st_not (st_val (se_isi (se_var 0) T.b_isinstance T.b_tuple (by decide +kernel) (by decide +kernel)))) (sw_or1 (st_ne hr.units (se_len T.b_len (sq_var 0)) (se_int))))) (sb_cons (ss_ret (se_bl)) (sb_nil)) (sb_nil)) (sb_cons (ss_if (st_w (sw_or (st_not (st_val (se_call ((cal__law_int T).mono (by decide)) hr (takes_of rfl rfl rfl rfl) (sa_cons (se_ix (sq_var 0) (se_int)) (sa_nil))))) (sw_or1 (st_not (st_val (se_call ((cal__law_int T).mono (by decide)) hr (takes_of rfl rfl rfl rfl) (sa_cons (se_ix (sq_var 0) (se_int)) (sa_nil)))))))) (sb_cons (ss_ret (se_bl)) (sb_nil)) (sb_nil)) (sb_cons (ss_ret (se_and (se_ge (se_ix (sq_var 0) (se_int)) (se_int)) (se_one (se_eq hr.units (se_call ((cal__law_gcd T).mono (by decide)) hr (takes_of rfl rfl rfl rfl) (sa_cons (se_ix (sq_var 0) (se_int)) (sa_cons (se_ix (sq_var 0) (se_int)) (sa_nil)))) (se_int))))) (sb_nil)))) (pf__law_is_num)
theorem cal__law_drawn (T : Tp P K mg C_BadNumber C_BadTable C_TooMuch) : Cal P w K mg base 3 "_law_drawn" sp__law_drawn := by
  exact cal_mk (p := p__law_drawn) T.d__law_drawn sc__law_drawn len__law_drawn (fun f cdv A outer s H E hr => sb_cons (ss_asg (se_sub (se_call ((cal__law_next T).mono (by decide)) hr (takes_of rfl rfl rfl rfl) (sa_cons (se_var 0) (sa_cons (se_int) (sa_nil)))) (se_int)) (sg_name 1 sc__law_drawn.nd)) (sb_cons (ss_if (st_eq hr.units (se_call ((cal__law_next T).mono (by decide)) hr (takes_of rfl rfl rfl rfl) (sa_cons (se_var 0) (sa_cons (se_int) (sa_nil)))) (se_int)) (sb_cons (ss_asg (se_add (se_mul (se_var 1) (se_pow (se_int) (se_int))) (se_int)) (sg_name 1 sc__law_drawn.nd)) (sb_nil)) (sb_nil)) (sb_cons (ss_ret (se_call ((cal__law_num T).mono (by decide)) hr (takes_of rfl rfl rfl rfl) (sa_cons (se_var 1) (sa_cons (se_add (se_int) (se_call ((cal__law_next T).mono (by decide)) hr (takes_of rfl rfl rfl rfl) (sa_cons (se_var 0) (sa_cons (se_int) (sa_nil))))) (sa_nil))))) (sb_nil)))) (pf__law_drawn)
theorem cal__law_dot (T : Tp P K mg C_BadNumber C_BadTable C_TooMuch) : Cal P w K mg base 4 "_law_dot" sp__law_dot := by
  exact cal_mk (p := p__law_dot) T.d__law_dot sc__law_dot len__law_dot (fun f cdv A outer s H E hr => sb_cons (ss_asg (se_tup (sa_cons (se_int) (sa_cons (se_int) (sa_nil)))) (sg_name 2 sc__law_dot.nd)) (sb_cons (ss_for (passes_of rfl) rfl (si_rng1 T.b_range (sa_cons (se_len T.b_len (sq_var 0)) (sa_nil))) (sg_name 3 sc__law_dot.nd) (sb_cons (ss_asg (se_call ((cal__law_nplus T).mono (by decide)) hr (takes_of rfl rfl rfl rfl) (sa_cons (se_var 2) (sa_cons (se_call ((cal__law_ntimes T).mono (by decide)) hr (takes_of rfl rfl rfl rfl) (sa_cons (se_ix (sq_var 0) (se_var 3)) (sa_cons (se_ix (sq_var 1) (se_var 3)) (sa_nil)))) (sa_nil)))) (sg_name 2 sc__law_dot.nd)) (sb_nil))) (sb_cons (ss_retN 2) (sb_nil)))) (pf__law_dot)
theorem cal__law_mix (T : Tp P K mg C_BadNumber C_BadTable C_TooMuch) : Cal P w K mg base 5 "_law_mix" sp__law_mix := by
  exact cal_mk (p := p__law_mix) T.d__law_mix sc__law_mix len__law_mix (fun f cdv A outer s H E hr => sb_cons (ss_ret (se_lc 3 rfl sc__law_mix.nd (si_rng1 T.b_range (sa_cons (se_var 2) (sa_nil))) (blkOk_by (N := N__law_mix) (sc := defScope st__law_mix) (by decide +kernel)) (fun _ _ _ _ _ => pg_name (i := 3) sc__law_mix.nd rfl (by first | exact Or.inl rfl | exact Or.inr rfl)) (fun _ _ _ _ _ => sts_nil) (fun _ _ _ _ _ => se_call ((cal__law_dot T).mono (by decide)) hr Py.takes0 (sa_cons (se_var 0) (sa_cons (se_lc 4 rfl sc__law_mix.nd (si_seq (se_var 1)) (blkOk_by (by rfl)) (fun _ _ _ _ _ => pg_name (i := 4) sc__law_mix.nd rfl (by first | exact Or.inl rfl | exact Or.inr rfl)) (fun _ _ _ _ _ => sts_nil) (fun _ _ _ _ _ => se_ix (sq_var 4) (se_var 3))) (sa_nil)))))) (sb_nil)) (pf__law_mix)
theorem cal__law_rows (T : Tp P K mg C_BadNumber C_BadTable C_TooMuch) : Cal P w K mg base 6 "_law_rows" sp__law_rows := by
  exact cal_mk (p := p__law_rows) T.d__law_rows sc__law_rows len__law_rows (fun f cdv A outer s H E hr => sb_cons (ss_asg (se_lst (sa_nil)) (sg_name 2 sc__law_rows.nd)) (sb_cons (ss_for (passes_of rfl) rfl (si_rng1 T.b_range (sa_cons (se_add (se_int) (se_call ((cal__law_next T).mono (by decide)) hr (takes_of rfl rfl rfl rfl) (sa_cons (se_var 0) (sa_cons (se_int) (sa_nil))))) (sa_nil))) (sg_name 3 sc__law_rows.nd) (sb_cons (ss_append 2 (se_lc 6 rfl sc__law_rows.nd (si_rng1 T.b_range (sa_cons (se_var 1) (sa_nil))) (blkOk_by (N := N__law_rows) (sc := defScope st__law_rows) (by decide +kernel)) (fun _ _ _ _ _ => pg_name (i := 6) sc__law_rows.nd rfl (by first | exact Or.inl rfl | exact Or.inr rfl)) (fun _ _ _ _ _ => sts_nil) (fun _ _ _ _ _ => se_call ((cal__law_drawn T).mono (by decide)) hr Py.takes0 (sa_cons (se_var 0) (sa_nil))))) (sb_nil))) (sb_cons (ss_asg (se_lst (sa_nil)) (sg_name 4 sc__law_rows.nd)) (sb_cons (ss_frz 2 (ss_for (passes_of rfl) rfl (si_rng1 T.b_range (sa_cons (se_call ((cal__law_next T).mono (by decide)) hr (takes_of rfl rfl rfl rfl) (sa_cons (se_var 0) (sa_cons (se_int) (sa_nil)))) (sa_nil))) (sg_name 3 sc__law_rows.nd) (sb_cons (ss_lc 6 (j := 5) rfl sc__law_rows.nd rfl rfl (sw_true rfl rfl rfl (by decide +kernel)) (si_rng1 T.b_range (sa_cons (se_len T.b_len (sq_var 2)) (sa_nil))) (blkOk_by (N := N__law_rows) (sc := defScope st__law_rows) (by decide +kernel)) (fun _ _ _ _ _ => pg_name (i := 6) sc__law_rows.nd rfl (by first | exact Or.inl rfl | exact Or.inr rfl)) (fun _ _ _ _ _ => sts_nil) (fun _ _ _ _ _ => se_tup (sa_cons (se_sub (se_call ((cal__law_next T).mono (by decide)) hr Py.takes0 (sa_cons (se_var 0) (sa_cons (se_int) (sa_nil)))) (se_int)) (sa_cons (se_int) (sa_nil))))) (sb_cons (ss_frz 5 (ss_frz 2 (ss_append 4 (se_call ((cal__law_mix T).mono (by decide)) hr (takes_of rfl rfl rfl rfl) (sa_cons (se_var 5) (sa_cons (se_var 2) (sa_cons (se_var 1) (sa_nil)))))))) (sb_nil))))) (sb_cons (ss_retN 4) (sb_nil)))))) (pf__law_rows)
theorem cal__law_rank (T : Tp P K mg C_BadNumber C_BadTable C_TooMuch) : Cal P w K mg base 2 "_law_rank" sp__law_rank := by
  exact cal_mk (p := p__law_rank) T.d__law_rank sc__law_rank len__law_rank (fun f cdv A outer s H E hr => sb_cons (ss_asg (se_lst (sa_nil)) (sg_name 2 sc__law_rank.nd)) (sb_cons (ss_for (passes_of rfl) rfl (si_seq (se_var 0)) (sg_name 3 sc__law_rank.nd) (sb_cons (ss_asg (se_int) (sg_name 4 sc__law_rank.nd)) (sb_cons (ss_for (passes_of rfl) rfl (si_seq (se_var 3)) (sg_name 5 sc__law_rank.nd) (sb_cons (ss_asg (se_div (se_mul (se_var 4) (se_ix (sq_var 5) (se_int))) (se_call ((cal__law_gcd T).mono (by decide)) hr (takes_of rfl rfl rfl rfl) (sa_cons (se_var 4) (sa_cons (se_ix (sq_var 5) (se_int)) (sa_nil))))) (sg_name 4 sc__law_rank.nd)) (sb_nil))) (sb_cons (ss_append 2 (se_lc 5 rfl sc__law_rank.nd (si_seq (se_var 3)) (blkOk_by (N := N__law_rank) (sc := defScope st__law_rank) (by decide +kernel)) (fun _ _ _ _ _ => pg_name (i := 5) sc__law_rank.nd rfl (by first | exact Or.inl rfl | exact Or.inr rfl)) (fun _ _ _ _ _ => sts_nil) (fun _ _ _ _ _ => se_mul (se_ix (sq_var 5) (se_int)) (se_div (se_var 4) (se_ix (sq_var 5) (se_int)))))) (sb_nil))))) (sb_cons (ss_asg (se_int) (sg_name 6 sc__law_rank.nd)) (sb_cons (ss_for (passes_of rfl) rfl (si_rng1 T.b_range (sa_cons (se_var 1) (sa_nil))) (sg_name 7 sc__law_rank.nd) (sb_cons (ss_asg (se_neg (se_int)) (sg_name 8 sc__law_rank.nd)) (sb_cons (ss_for (passes_of rfl) rfl (si_rng2 T.b_range (sa_cons (se_var 6) (sa_cons (se_len T.b_len (sq_var 2)) (sa_nil)))) (sg_name 9 sc__law_rank.nd) (sb_cons (ss_if (st_w (sw_and (st_lt (se_var 8) (se_int)) (sw_and1 (st_ne hr.units (se_ix (sq_of (se_ix (sq_var 2) (se_var 9))) (se_var 7)) (se_int))))) (sb_cons (ss_asg (se_var 9) (sg_name 8 sc__law_rank.nd)) (sb_nil)) (sb_nil)) (sb_nil))) (sb_cons (ss_if (st_ge (se_var 8) (se_int)) (sb_cons (ss_asg (se_ix (sq_var 2) (se_var 8)) (sg_name 10 sc__law_rank.nd)) (sb_cons (ss_asg (se_ix (sq_var 2) (se_var 6)) (sg_sub 2 (W := W0) (se_var 8))) (sb_cons (ss_asg (se_var 10) (sg_sub 2 (W := W0) (se_var 6))) (sb_cons (ss_for (passes_of rfl) rfl (si_rng2 T.b_range (sa_cons (se_add (se_var 6) (se_int)) (sa_cons (se_len T.b_len (sq_var 2)) (sa_nil)))) (sg_name 9 sc__law_rank.nd) (sb_cons (ss_asg (se_ix (sq_var 2) (se_var 9)) (sg_name 3 sc__law_rank.nd)) (sb_cons (ss_asg (se_lc 11 rfl sc__law_rank.nd (si_rng1 T.b_range (sa_cons (se_var 1) (sa_nil))) (blkOk_by (N := N__law_rank) (sc := defScope st__law_rank) (by decide +kernel)) (fun _ _ _ _ _ => pg_name (i := 11) sc__law_rank.nd rfl (by first | exact Or.inl rfl | exact Or.inr rfl)) (fun _ _ _ _ _ => sts_nil) (fun _ _ _ _ _ => se_sub (se_mul (se_ix (sq_var 3) (se_var 11)) (se_ix (sq_var 10) (se_var 7))) (se_mul (se_ix (sq_var 10) (se_var 11)) (se_ix (sq_var 3) (se_var 7))))) (sg_sub 2 (W := W0) (se_var 9))) (sb_nil)))) (sb_cons (ss_asg (se_add (se_var 6) (se_int)) (sg_name 6 sc__law_rank.nd)) (sb_nil)))))) (sb_nil)) (sb_nil))))) (sb_cons (ss_retN 6) (sb_nil)))))) (pf__law_rank)
theorem cal__law_is_row (T : Tp P K mg C_BadNumber C_BadTable C_TooMuch) : Cal P w K mg base 3 "_law_is_row" sp__law_is_row := by
  exact cal_mk (p := p__law_is_row) T.d__law_is_row sc__law_is_row len__law_is_row (fun f cdv A outer s H E hr => sb_cons (ss_if (st_w (sw_or (st_not (st_val (se_isi (se_var 0) T.b_isinstance T.b_tuple (by decide +kernel) (by decide +kernel)))) (sw_or1 (st_ne hr.units (se_len T.b_len (sq_var 0)) (se_var 1))))) (sb_cons (ss_ret (se_bl)) (sb_nil)) (sb_nil)) (sb_cons (ss_for (passes_of rfl) rfl (si_seq (se_var 0)) (sg_name 2 sc__law_is_row.nd) (sb_cons (ss_if (st_not (st_val (se_call ((cal__law_is_num T).mono (by decide)) hr (takes_of rfl rfl rfl rfl) (sa_cons (se_var 2) (sa_nil))))) (sb_cons (ss_ret (se_bl)) (sb_nil)) (sb_nil)) (sb_nil))) (sb_cons (ss_ret (se_bl)) (sb_nil)))) (pf__law_is_row)
theorem cal__law_is_base (T : Tp P K mg C_BadNumber C_BadTable C_TooMuch) : Cal P w K mg base 5 "_law_is_base" sp__law_is_base := by
  exact cal_mk (p := p__law_is_base) T.d__law_is_base sc__law_is_base len__law_is_base (fun f cdv A outer s H E hr => sb_cons (ss_if (st_w (sw_or (st_not (st_val (se_isi (se_var 0) T.b_isinstance T.b_tuple (by decide +kernel) (by decide +kernel)))) (sw_or1 (st_ne hr.units (se_len T.b_len (sq_var 0)) (se_var 3))))) (sb_cons (ss_ret (se_bl)) (sb_nil)) (sb_nil)) (sb_cons (ss_for (passes_of rfl) rfl (si_seq (se_var 0)) (sg_name 4 sc__law_is_base.nd) (sb_cons (ss_if (st_not (st_val (se_call ((cal__law_is_row T).mono (by decide)) hr (takes_of rfl rfl rfl rfl) (sa_cons (se_var 4) (sa_cons (se_var 2) (sa_nil)))))) (sb_cons (ss_ret (se_bl)) (sb_nil)) (sb_nil)) (sb_cons (ss_for (passes_of rfl) rfl (si_seq (se_var 1)) (sg_name 5 sc__law_is_base.nd) (sb_cons (ss_if (st_ne hr.units (se_call ((cal__law_dot T).mono (by decide)) hr (takes_of rfl rfl rfl rfl) (sa_cons (se_var 5) (sa_cons (se_var 4) (sa_nil)))) (se_tup (sa_cons (se_int) (sa_cons (se_int) (sa_nil))))) (sb_cons (ss_ret (se_bl)) (sb_nil)) (sb_nil)) (sb_nil))) (sb_nil)))) (sb_cons (ss_ret (se_eq hr.units (se_call ((cal__law_rank T).mono (by decide)) hr (takes_of rfl rfl rfl rfl) (sa_cons (se_var 0) (sa_cons (se_var 2) (sa_nil)))) (se_var 3))) (sb_nil)))) (pf__law_is_base)
theorem cal__law_asked (T : Tp P K mg C_BadNumber C_BadTable C_TooMuch) : Cal P w K mg base 2 "_law_asked" sp__law_asked := by
  exact cal_mk (p := p__law_asked) T.d__law_asked sc__law_asked len__law_asked (fun f cdv A outer s H E hr => sb_cons (ss_asg (se_call ((cal__law_next T).mono (by decide)) hr (takes_of rfl rfl rfl rfl) (sa_cons (se_var 0) (sa_cons (se_int) (sa_nil)))) (sg_name 2 sc__law_asked.nd)) (sb_cons (ss_if (st_w (sw_and (st_eq hr.units (se_var 2) (se_int)) (sw_and1 (st_eq hr.units (se_ix (sq_var 1) (se_int)) (se_int))))) (sb_cons (ss_ret (se_ix (sq_var 1) (se_int))) (sb_nil)) (sb_nil)) (sb_cons (ss_if (st_eq hr.units (se_var 2) (se_int)) (sb_cons (ss_ret (se_lst (sa_cons (se_mul (se_ix (sq_var 1) (se_int)) (se_int)) (sa_cons (se_mul (se_ix (sq_var 1) (se_int)) (se_int)) (sa_nil))))) (sb_nil)) (sb_nil)) (sb_cons (ss_retN 1) (sb_nil))))) (pf__law_asked)
theorem cal__law_handed (T : Tp P K mg C_BadNumber C_BadTable C_TooMuch) : Cal P w K mg base 3 "_law_handed" sp__law_handed := by
  exact cal_mk (p := p__law_handed) T.d__law_handed sc__law_handed len__law_handed (fun f cdv A outer s H E hr => sb_cons (ss_asg (se_lst (sa_nil)) (sg_name 2 sc__law_handed.nd)) (sb_cons (ss_for (passes_of rfl) rfl (si_seq (se_var 1)) (sg_name 3 sc__law_handed.nd) (sb_cons (ss_lc 5 (j := 4) rfl sc__law_handed.nd rfl rfl (sw_true rfl rfl rfl (by decide +kernel)) (si_seq (se_var 3)) (blkOk_by (N := N__law_handed) (sc := defScope st__law_handed) (by decide +kernel)) (fun _ _ _ _ _ => pg_name (i := 5) sc__law_handed.nd rfl (by first | exact Or.inl rfl | exact Or.inr rfl)) (fun _ _ _ _ _ => sts_nil) (fun _ _ _ _ _ => se_call ((cal__law_asked T).mono (by decide)) hr Py.takes0 (sa_cons (se_var 0) (sa_cons (se_var 5) (sa_nil))))) (sb_cons (ss_if (st_eq hr.units (se_call ((cal__law_next T).mono (by decide)) hr (takes_of rfl rfl rfl rfl) (sa_cons (se_var 0) (sa_cons (se_int) (sa_nil)))) (se_int)) (sb_cons (ss_append 2 (se_totup T.b_tuple (sq_var 4))) (sb_nil)) (sb_cons (ss_frz 4 (ss_append 2 (se_var 4))) (sb_nil))) (sb_nil)))) (sb_cons (ss_if (st_eq hr.units (se_call ((cal__law_next T).mono (by decide)) hr (takes_of rfl rfl rfl rfl) (sa_cons (se_var 0) (sa_cons (se_int) (sa_nil)))) (se_int)) (sb_cons (ss_ret (se_totup T.b_tuple (sq_var 2))) (sb_nil)) (sb_nil)) (sb_cons (ss_retN 2) (sb_nil))))) (pf__law_handed)
theorem cal__law_judged (T : Tp P K mg C_BadNumber C_BadTable C_TooMuch) : Cal P w K mg base 8 "_law_judged" sp__law_judged := by
  exact cal_mk (p := p__law_judged C_BadNumber C_BadTable C_TooMuch) T.d__law_judged sc__law_judged len__law_judged (fun f cdv A outer s H E hr => sb_cons (ss_asg (se_call ((cal__law_handed T).mono (by decide)) hr (takes_of rfl rfl rfl rfl) (sa_cons (se_var 0) (sa_cons (se_var 1) (sa_nil)))) (sg_name 4 sc__law_judged.nd)) (sb_cons (ss_asg (se_ix (sq_of (se_call ((cal__law_handed T).mono (by decide)) hr (takes_of rfl rfl rfl rfl) (sa_cons (se_var 0) (sa_cons (se_lst (sa_cons (se_var 2) (sa_nil))) (sa_nil))))) (se_int)) (sg_name 5 sc__law_judged.nd)) (sb_cons (ss_frz 4 (ss_asg (se_call ((cal_solve T).mono (by decide)) hr (takes_of rfl rfl rfl rfl) (sa_cons (se_var 4) (sa_cons (se_var 5) (sa_cons (se_var 3) (sa_nil))))) (sg_name 6 sc__law_judged.nd))) (sb_cons (ss_asg (se_call ((cal__law_rank T).mono (by decide)) hr (takes_of rfl rfl rfl rfl) (sa_cons (se_var 1) (sa_cons (se_var 3) (sa_nil)))) (sg_name 7 sc__law_judged.nd)) (sb_cons (ss_lc 9 (j := 8) rfl sc__law_judged.nd rfl rfl (sw_true rfl rfl rfl (by decide +kernel)) (si_rng1 T.b_range (sa_cons (se_len T.b_len (sq_var 1)) (sa_nil))) (blkOk_by (N := N__law_judged) (sc := defScope st__law_judged) (by decide +kernel)) (fun _ _ _ _ _ => pg_name (i := 9) sc__law_judged.nd rfl (by first | exact Or.inl rfl | exact Or.inr rfl)) (fun _ _ _ _ _ => sts_nil) (fun _ _ _ _ _ => se_add (se_ix (sq_var 1) (se_var 9)) (se_lst (sa_cons (se_ix (sq_var 2) (se_var 9)) (sa_nil))))) (sb_cons (ss_if (st_w (sw_or (st_not (st_val (se_isi (se_var 6) T.b_isinstance T.b_tuple (by decide +kernel) (by decide +kernel)))) (sw_or (st_lt (se_len T.b_len (sq_var 6)) (se_int)) (sw_or1 (st_not (st_val (se_isi (se_ix (sq_var 6) (se_int)) T.b_isinstance T.b_str (by decide +kernel) (by decide +kernel)))))))) (sb_cons (ss_ret (se_non)) (sb_nil)) (sb_nil)) (sb_cons (ss_frz 8 (ss_if (st_gt (se_call ((cal__law_rank T).mono (by decide)) hr (takes_of rfl rfl rfl rfl) (sa_cons (se_var 8) (sa_cons (se_add (se_var 3) (se_int)) (sa_nil)))) (se_var 7)) (sb_cons (ss_if (st_w (sw_or (st_ne hr.units (se_ix (sq_var 6) (se_int)) (se_str)) (sw_or (st_ne hr.units (se_len T.b_len (sq_var 6)) (se_int)) (sw_or1 (st_not (st_val (se_call ((cal__law_is_row T).mono (by decide)) hr (takes_of rfl rfl rfl rfl) (sa_cons (se_ix (sq_var 6) (se_int)) (sa_cons (se_len T.b_len (sq_var 1)) (sa_nil)))))))))) (sb_cons (ss_ret (se_non)) (sb_nil)) (sb_nil)) (sb_cons (ss_if (st_w (sw_or (st_ne hr.units (se_call ((cal__law_mix T).mono (by decide)) hr (takes_of rfl rfl rfl rfl) (sa_cons (se_ix (sq_var 6) (se_int)) (sa_cons (se_var 1) (sa_cons (se_var 3) (sa_nil))))) (se_mul (se_lst (sa_cons (se_tup (sa_cons (se_int) (sa_cons (se_int) (sa_nil)))) (sa_nil))) (se_var 3))) (sw_or1 (st_ne hr.units (se_call ((cal__law_dot T).mono (by decide)) hr (takes_of rfl rfl rfl rfl) (sa_cons (se_ix (sq_var 6) (se_int)) (sa_cons (se_var 2) (sa_nil)))) (se_tup (sa_cons (se_int) (sa_cons (se_int) (sa_nil)))))))) (sb_cons (ss_ret (se_non)) (sb_nil)) (sb_nil)) (sb_cons (ss_ret (se_str)) (sb_nil)))) (sb_nil))) (sb_cons (ss_if (st_w (sw_or (st_ne hr.units (se_ix (sq_var 6) (se_int)) (se_str)) (sw_or (st_ne hr.units (se_len T.b_len (sq_var 6)) (se_int)) (sw_or1 (st_not (st_val (se_call ((cal__law_is_row T).mono (by decide)) hr (takes_of rfl rfl rfl rfl) (sa_cons (se_ix (sq_var 6) (se_int)) (sa_cons (se_var 3) (sa_nil)))))))))) (sb_cons (ss_ret (se_non)) (sb_nil)) (sb_nil)) (sb_cons (ss_for (passes_of rfl) rfl (si_rng1 T.b_range (sa_cons (se_len T.b_len (sq_var 1)) (sa_nil))) (sg_name 9 sc__law_judged.nd) (sb_cons (ss_if (st_ne hr.units (se_call ((cal__law_dot T).mono (by decide)) hr (takes_of rfl rfl rfl rfl) (sa_cons (se_ix (sq_var 1) (se_var 9)) (sa_cons (se_ix (sq_var 6) (se_int)) (sa_nil)))) (se_ix (sq_var 2) (se_var 9))) (sb_cons (ss_ret (se_non)) (sb_nil)) (sb_nil)) (sb_nil))) (sb_cons (ss_if (st_not (st_val (se_call ((cal__law_is_base T).mono (by decide)) hr (takes_of rfl rfl rfl rfl) (sa_cons (se_ix (sq_var 6) (se_int)) (sa_cons (se_var 1) (sa_cons (se_var 3) (sa_cons (se_sub (se_var 3) (se_var 7)) (sa_nil)))))))) (sb_cons (ss_ret (se_non)) (sb_nil)) (sb_nil)) (sb_cons (ss_ret (se_str)) (sb_nil)))))))))))) (pf__law_judged C_BadNumber C_BadTable C_TooMuch)
theorem cal__law_turned (T : Tp P K mg C_BadNumber C_BadTable C_TooMuch) : Cal P w K mg base 1 "_law_turned" sp__law_turned := by
  exact cal_mk (p := p__law_turned) T.d__law_turned sc__law_turned len__law_turned (fun f cdv A outer s H E hr => sb_cons (ss_ret (se_lc 2 rfl sc__law_turned.nd (si_rng1 T.b_range (sa_cons (se_var 1) (sa_nil))) (blkOk_by (N := N__law_turned) (sc := defScope st__law_turned) (by decide +kernel)) (fun _ _ _ _ _ => pg_name (i := 2) sc__law_turned.nd rfl (by first | exact Or.inl rfl | exact Or.inr rfl)) (fun _ _ _ _ _ => sts_nil) (fun _ _ _ _ _ => se_lc 3 rfl sc__law_turned.nd (si_seq (se_var 0)) (blkOk_by (by rfl)) (fun _ _ _ _ _ => pg_name (i := 3) sc__law_turned.nd rfl (by first | exact Or.inl rfl | exact Or.inr rfl)) (fun _ _ _ _ _ => sts_nil) (fun _ _ _ _ _ => se_ix (sq_var 3) (se_var 2))))) (sb_nil)) (pf__law_turned)
theorem cal__law_counted (T : Tp P K mg C_BadNumber C_BadTable C_TooMuch) : Cal P w K mg base 7 "_law_counted" sp__law_counted := by
  exact cal_mk (p := p__law_counted C_BadNumber C_BadTable C_TooMuch) T.d__law_counted sc__law_counted len__law_counted (fun f cdv A outer s H E hr => sb_cons (ss_asg (se_call ((cal__law_rank T).mono (by decide)) hr (takes_of rfl rfl rfl rfl) (sa_cons (se_var 1) (sa_cons (se_var 2) (sa_nil)))) (sg_name 3 sc__law_counted.nd)) (sb_cons (ss_asg (se_call ((cal__law_handed T).mono (by decide)) hr (takes_of rfl rfl rfl rfl) (sa_cons (se_var 0) (sa_cons (se_var 1) (sa_nil)))) (sg_name 4 sc__law_counted.nd)) (sb_cons (ss_frz 4 (ss_asg (se_call ((cal_rank T).mono (by decide)) hr (takes_of rfl rfl rfl rfl) (sa_cons (se_var 4) (sa_cons (se_var 2) (sa_nil)))) (sg_name 5 sc__law_counted.nd))) (sb_cons (ss_if (st_w (sw_or (st_not (st_val (se_call ((cal__law_int T).mono (by decide)) hr (takes_of rfl rfl rfl rfl) (sa_cons (se_var 5) (sa_nil))))) (sw_or1 (st_ne hr.units (se_var 5) (se_var 3))))) (sb_cons (ss_ret (se_bl)) (sb_nil)) (sb_nil)) (sb_cons (ss_frz 4 (ss_asg (se_call ((cal_number_ties T).mono (by decide)) hr (takes_of rfl rfl rfl rfl) (sa_cons (se_var 4) (sa_cons (se_var 2) (sa_nil)))) (sg_name 6 sc__law_counted.nd))) (sb_cons (ss_if (st_not (st_val (se_call ((cal__law_is_base T).mono (by decide)) hr (takes_of rfl rfl rfl rfl) (sa_cons (se_var 6) (sa_cons (se_call ((cal__law_turned T).mono (by decide)) hr (takes_of rfl rfl rfl rfl) (sa_cons (se_var 1) (sa_cons (se_var 2) (sa_nil)))) (sa_cons (se_len T.b_len (sq_var 1)) (sa_cons (se_sub (se_len T.b_len (sq_var 1)) (se_var 3)) (sa_nil)))))))) (sb_cons (ss_ret (se_bl)) (sb_nil)) (sb_nil)) (sb_cons (ss_ret (se_and (se_eq hr.units (se_call ((cal_rank T).mono (by decide)) hr (takes_of rfl rfl rfl rfl) (sa_cons (se_lst (sa_nil)) (sa_cons (se_var 2) (sa_nil)))) (se_int)) (se_one (se_eq hr.units (se_call ((cal_number_ties T).mono (by decide)) hr (takes_of rfl rfl rfl rfl) (sa_cons (se_tup (sa_nil)) (sa_cons (se_var 2) (sa_nil)))) (se_tup (sa_nil)))))) (sb_nil)))))))) (pf__law_counted C_BadNumber C_BadTable C_TooMuch)
theorem cal__law_word (T : Tp P K mg C_BadNumber C_BadTable C_TooMuch) : Cal P w K mg base 8 "_law_word" sp__law_word := by
  obtain ⟨_, _, _, _, hx_BadTable⟩ := T.xx_BadTable
  exact cal_mk (p := p__law_word C_BadNumber C_BadTable C_TooMuch) T.d__law_word sc__law_word len__law_word (fun f cdv A outer s H E hr => sb_cons (ss_asg (se_non) (sg_name 1 sc__law_word.nd)) (sb_cons (ss_try 2 rfl rfl sc__law_word.nd T.e_BadTable.gC T.t_BadTable (takes_of rfl rfl rfl rfl) (fun W pn xe tk1 pa1 => sb_cons (ss_if (st_eq hr.units (se_var 0) (se_int)) (sb_cons (ss_expr (se_call ((cal_solve T).mono (by decide)) hr tk1 (sa_cons (se_lst (sa_cons (se_lst (sa_cons (se_int) (sa_nil))) (sa_cons (se_lst (sa_cons (se_int) (sa_cons (se_int) (sa_nil)))) (sa_nil)))) (sa_cons (se_non) (sa_cons (se_bl) (sa_nil)))))) (sb_nil)) (sb_cons (ss_if (st_eq hr.units (se_var 0) (se_int)) (sb_cons (ss_expr (se_call ((cal_solve T).mono (by decide)) hr tk1 (sa_cons (se_lst (sa_nil)) (sa_cons (se_lst (sa_nil)) (sa_cons (se_neg (se_int)) (sa_nil)))))) (sb_nil)) (sb_cons (ss_if (st_eq hr.units (se_var 0) (se_int)) (sb_cons (ss_expr (se_call ((cal_solve T).mono (by decide)) hr tk1 (sa_cons (se_lst (sa_cons (se_lst (sa_cons (se_int) (sa_cons (se_int) (sa_nil)))) (sa_cons (se_lst (sa_cons (se_int) (sa_nil))) (sa_nil)))) (sa_cons (se_non) (sa_cons (se_int) (sa_nil)))))) (sb_nil)) (sb_cons (ss_if (st_eq hr.units (se_var 0) (se_int)) (sb_cons (ss_expr (se_call ((cal_solve T).mono (by decide)) hr tk1 (sa_cons (se_lst (sa_cons (se_lst (sa_cons (se_int) (sa_cons (se_int) (sa_nil)))) (sa_nil))) (sa_cons (se_lst (sa_cons (se_int) (sa_cons (se_int) (sa_nil)))) (sa_cons (se_int) (sa_nil)))))) (sb_nil)) (sb_cons (ss_if (st_eq hr.units (se_var 0) (se_int)) (sb_cons (ss_expr (se_call ((cal_rank T).mono (by decide)) hr tk1 (sa_cons (se_lst (sa_cons (se_lst (sa_cons (se_non) (sa_cons (se_int) (sa_nil)))) (sa_cons (se_int) (sa_nil)))) (sa_cons (se_int) (sa_nil))))) (sb_nil)) (sb_cons (ss_if (st_eq hr.units (se_var 0) (se_int)) (sb_cons (ss_expr (se_call ((cal_number_ties T).mono (by decide)) hr tk1 (sa_cons (se_lst (sa_cons (se_lst (sa_cons (se_int) (sa_cons (se_non) (sa_nil)))) (sa_cons (se_lst (sa_cons (se_int) (sa_nil))) (sa_nil)))) (sa_cons (se_int) (sa_nil))))) (sb_nil)) (sb_cons (ss_if (st_eq hr.units (se_var 0) (se_int)) (sb_cons (ss_expr (se_call ((cal_number_ties T).mono (by decide)) hr tk1 (sa_cons (se_lst (sa_cons (se_lst (sa_cons (se_int) (sa_cons (se_non) (sa_nil)))) (sa_cons (se_lst (sa_cons (se_int) (sa_nil))) (sa_nil)))) (sa_cons (se_non) (sa_nil))))) (sb_nil)) (sb_cons (ss_expr (se_call ((cal_solve T).mono (by decide)) hr tk1 (sa_cons (se_lc 3 rfl sc__law_word.nd (si_rng1 T.b_range (sa_cons (se_int) (sa_nil))) (blkOk_by (N := N__law_word) (sc := defScope st__law_word) (by decide +kernel)) (fun _ _ _ _ _ => pg_name (i := 3) sc__law_word.nd rfl (by first | exact Or.inl rfl | exact Or.inr rfl)) (fun _ _ _ _ _ => sts_nil) (fun _ _ _ _ _ => se_lst (sa_cons (se_non) (sa_cons (se_int) (sa_nil))))) (sa_cons (se_lst (sa_cons (se_int) (sa_nil))) (sa_cons (se_int) (sa_nil)))))) (sb_nil))) (sb_nil))) (sb_nil))) (sb_nil))) (sb_nil))) (sb_nil))) (sb_nil))) (sb_nil)) (fun a oe d pn hz hf => sb_cons (ss_asg (se_exf 2 hx_BadTable T.n_BadTable_handed hz hf) (sg_name 1 sc__law_word.nd)) (sb_nil))) (sb_cons (ss_retN 1) (sb_nil)))) (pf__law_word C_BadNumber C_BadTable C_TooMuch)
theorem cal__law_bad_value (T : Tp P K mg C_BadNumber C_BadTable C_TooMuch) : Cal P w K mg base 8 "_law_bad_value" sp__law_bad_value := by
  obtain ⟨_, _, _, _, hx_BadNumber⟩ := T.xx_BadNumber
  exact cal_mk (p := p__law_bad_value C_BadNumber C_BadTable C_TooMuch) T.d__law_bad_value sc__law_bad_value len__law_bad_value (fun f cdv A outer s H E hr => sb_cons (ss_asg (se_lst (sa_nil)) (sg_name 1 sc__law_bad_value.nd)) (sb_cons (ss_try 2 rfl rfl sc__law_bad_value.nd T.e_BadNumber.gC T.t_BadNumber (takes_of rfl rfl rfl rfl) (fun W pn xe tk1 pa1 => sb_cons (ss_if (st_eq hr.units (se_var 0) (se_int)) (sb_cons (ss_expr (se_call ((cal_solve T).mono (by decide)) hr tk1 (sa_cons (se_lst (sa_cons (se_lst (sa_cons (se_int) (sa_cons (se_tup (sa_cons (se_int) (sa_cons (se_int) (sa_nil)))) (sa_nil)))) (sa_cons (se_lst (sa_cons (se_tup (sa_cons (se_int) (sa_cons (se_int) (sa_nil)))) (sa_cons (se_bl) (sa_nil)))) (sa_nil)))) (sa_cons (se_lst (sa_cons (se_non) (sa_cons (se_int) (sa_nil)))) (sa_cons (se_int) (sa_nil)))))) (sb_nil)) (sb_cons (ss_if (st_eq hr.units (se_var 0) (se_int)) (sb_cons (ss_expr (se_call ((cal_solve T).mono (by decide)) hr tk1 (sa_cons (se_lst (sa_cons (se_lst (sa_cons (se_int) (sa_cons (se_int) (sa_nil)))) (sa_nil))) (sa_cons (se_lst (sa_cons (se_non) (sa_nil))) (sa_cons (se_int) (sa_nil)))))) (sb_nil)) (sb_cons (ss_if (st_eq hr.units (se_var 0) (se_int)) (sb_cons (ss_expr (se_call ((cal_rank T).mono (by decide)) hr tk1 (sa_cons (se_lst (sa_cons (se_lst (sa_cons (se_int) (sa_cons (se_bl) (sa_nil)))) (sa_nil))) (sa_cons (se_int) (sa_nil))))) (sb_nil)) (sb_cons (ss_expr (se_call ((cal_number_ties T).mono (by decide)) hr tk1 (sa_cons (se_lst (sa_cons (se_lst (sa_cons (se_int) (sa_cons (se_int) (sa_nil)))) (sa_cons (se_lst (sa_cons (se_tup (sa_cons (se_int) (sa_cons (se_neg (se_int)) (sa_nil)))) (sa_cons (se_int) (sa_nil)))) (sa_nil)))) (sa_cons (se_int) (sa_nil))))) (sb_nil))) (sb_nil))) (sb_nil))) (sb_nil)) (fun a oe d pn hz hf => sb_cons (ss_asg (se_lst (sa_cons (se_exf 2 hx_BadNumber T.n_BadNumber_handed hz hf) (sa_nil))) (sg_name 1 sc__law_bad_value.nd)) (sb_nil))) (sb_cons (ss_retN 1) (sb_nil)))) (pf__law_bad_value C_BadNumber C_BadTable C_TooMuch)
theorem cal__law_much (T : Tp P K mg C_BadNumber C_BadTable C_TooMuch) : Cal P w K mg base 8 "_law_much" sp__law_much := by
  obtain ⟨_, _, _, _, hx_TooMuch⟩ := T.xx_TooMuch
  exact cal_mk (p := p__law_much C_BadNumber C_BadTable C_TooMuch) T.d__law_much sc__law_much len__law_much (fun f cdv A outer s H E hr => sb_cons (ss_asg (se_non) (sg_name 2 sc__law_much.nd)) (sb_cons (ss_asg (se_non) (sg_name 3 sc__law_much.nd)) (sb_cons (ss_try 4 rfl rfl sc__law_much.nd T.e_TooMuch.gC T.t_TooMuch (takes_of rfl rfl rfl rfl) (fun W pn xe tk1 pa1 => sb_cons (ss_if (st_eq hr.units (se_var 0) (se_int)) (sb_cons (ss_asg (se_call ((cal_rank T).mono (by decide)) hr tk1 (sa_cons (se_lc 5 rfl sc__law_much.nd (si_rng1 T.b_range (sa_cons (se_var 1) (sa_nil))) (blkOk_by (N := N__law_much) (sc := defScope st__law_much) (by decide +kernel)) (fun _ _ _ _ _ => pg_name (i := 5) sc__law_much.nd rfl (by first | exact Or.inl rfl | exact Or.inr rfl)) (fun _ _ _ _ _ => sts_nil) (fun _ _ _ _ _ => se_lst (sa_cons (se_tup (sa_cons (se_int) (sa_cons (se_int) (sa_nil)))) (sa_nil)))) (sa_cons (se_int) (sa_nil)))) (sg_name 3 sc__law_much.nd)) (sb_nil)) (sb_cons (ss_if (st_eq hr.units (se_var 0) (se_int)) (sb_cons (ss_asg (se_add (se_sub (se_len T.b_len (sq_of (se_call ((cal_number_ties T).mono (by decide)) hr tk1 (sa_cons (se_lst (sa_cons (se_lst (sa_nil)) (sa_nil))) (sa_cons (se_sub (se_var 1) (se_var 1)) (sa_nil)))))) (se_int)) (se_call ((cal_rank T).mono (by decide)) hr tk1 (sa_cons (se_lst (sa_nil)) (sa_cons (se_var 1) (sa_nil))))) (sg_name 3 sc__law_much.nd)) (sb_nil)) (sb_cons (ss_asg (se_sub (se_len T.b_len (sq_of (se_ix (sq_of (se_call ((cal_solve T).mono (by decide)) hr tk1 (sa_cons (se_lst (sa_cons (se_mul (se_lst (sa_cons (se_int) (sa_nil))) (se_var 1)) (sa_nil))) (sa_cons (se_lst (sa_cons (se_int) (sa_nil))) (sa_cons (se_var 1) (sa_nil)))))) (se_int)))) (se_var 1)) (sg_name 3 sc__law_much.nd)) (sb_nil))) (sb_nil))) (sb_nil)) (fun a oe d pn hz hf => sb_cons (ss_asg (se_tup (sa_cons (se_exf 4 hx_TooMuch T.n_TooMuch_word hz hf) (sa_cons (se_exf 4 hx_TooMuch T.n_TooMuch_most hz hf) (sa_nil)))) (sg_name 2 sc__law_much.nd)) (sb_nil))) (sb_cons (ss_ret (se_lst (sa_cons (se_var 2) (sa_cons (se_var 3) (sa_nil))))) (sb_nil))))) (pf__law_much C_BadNumber C_BadTable C_TooMuch)
theorem cal__law_refused (T : Tp P K mg C_BadNumber C_BadTable C_TooMuch) : Cal P w K mg base 9 "_law_refused" sp__law_refused := by
  exact cal_mk (p := p__law_refused) T.d__law_refused sc__law_refused len__law_refused (fun f cdv A outer s H E hr => sb_cons (ss_asg (se_lst (sa_cons (se_str) (sa_cons (se_str) (sa_cons (se_str) (sa_cons (se_str) (sa_cons (se_str) (sa_cons (se_str) (sa_cons (se_str) (sa_cons (se_str) (sa_nil)))))))))) (sg_name 0 sc__law_refused.nd)) (sb_cons (ss_for (passes_of rfl) rfl (si_rng1 T.b_range (sa_cons (se_int) (sa_nil))) (sg_name 1 sc__law_refused.nd) (sb_cons (ss_if (st_ne hr.units (se_call ((cal__law_word T).mono (by decide)) hr (takes_of rfl rfl rfl rfl) (sa_cons (se_var 1) (sa_nil))) (se_ix (sq_var 0) (se_var 1))) (sb_cons (ss_ret (se_bl)) (sb_nil)) (sb_nil)) (sb_nil))) (sb_cons (ss_if (st_w (sw_or (st_ne hr.units (se_call ((cal__law_bad_value T).mono (by decide)) hr (takes_of rfl rfl rfl rfl) (sa_cons (se_int) (sa_nil))) (se_lst (sa_cons (se_tup (sa_cons (se_int) (sa_cons (se_int) (sa_nil)))) (sa_nil)))) (sw_or (st_ne hr.units (se_call ((cal__law_bad_value T).mono (by decide)) hr (takes_of rfl rfl rfl rfl) (sa_cons (se_int) (sa_nil))) (se_lst (sa_cons (se_non) (sa_nil)))) (sw_or1 (st_ne hr.units (se_call ((cal__law_bad_value T).mono (by decide)) hr (takes_of rfl rfl rfl rfl) (sa_cons (se_int) (sa_nil))) (se_lst (sa_cons (se_tup (sa_cons (se_int) (sa_cons (se_neg (se_int)) (sa_nil)))) (sa_nil)))))))) (sb_cons (ss_ret (se_bl)) (sb_nil)) (sb_nil)) (sb_cons (ss_asg (se_call ((cal__law_bad_value T).mono (by decide)) hr (takes_of rfl rfl rfl rfl) (sa_cons (se_int) (sa_nil))) (sg_name 2 sc__law_refused.nd)) (sb_cons (ss_if (st_w (sw_or (st_ne hr.units (se_len T.b_len (sq_var 2)) (se_int)) (sw_or1 (st_notB (se_ix (sq_var 2) (se_int)) (se_bl))))) (sb_cons (ss_ret (se_bl)) (sb_nil)) (sb_nil)) (sb_cons (ss_for (passes_of rfl) rfl (si_rng1 T.b_range (sa_cons (se_int) (sa_nil))) (sg_name 1 sc__law_refused.nd) (sb_cons (ss_if (st_ne hr.units (se_call ((cal__law_much T).mono (by decide)) hr (takes_of rfl rfl rfl rfl) (sa_cons (se_var 1) (sa_cons (se_int) (sa_nil)))) (se_lst (sa_cons (se_non) (sa_cons (se_ix (sq_of (se_lst (sa_cons (se_int) (sa_cons (se_int) (sa_cons (se_int) (sa_nil)))))) (se_var 1)) (sa_nil))))) (sb_cons (ss_ret (se_bl)) (sb_nil)) (sb_nil)) (sb_cons (ss_if (st_ne hr.units (se_call ((cal__law_much T).mono (by decide)) hr (takes_of rfl rfl rfl rfl) (sa_cons (se_var 1) (sa_cons (se_int) (sa_nil)))) (se_lst (sa_cons (se_tup (sa_cons (se_str) (sa_cons (se_int) (sa_nil)))) (sa_cons (se_non) (sa_nil))))) (sb_cons (ss_ret (se_bl)) (sb_nil)) (sb_nil)) (sb_nil)))) (sb_cons (ss_ret (se_bl)) (sb_nil)))))))) (pf__law_refused)
theorem cal_law (T : Tp P K mg C_BadNumber C_BadTable C_TooMuch) : Cal P w K mg base 10 "law" sp_law := by
  exact cal_mk (p := p_law) T.d_law sc_law len_law (fun f cdv A outer s H E hr => sb_stream 1 (se_call ((cal__law_stream T).mono (by decide)) hr (takes_of rfl rfl rfl rfl) (sa_cons (se_var 0) (sa_nil))) (sb_cons (ss_asg (se_call ((cal__law_next T).mono (by decide)) hr (takes_of rfl rfl rfl rfl) (sa_cons (se_var 1) (sa_cons (se_int) (sa_nil)))) (sg_name 2 sc_law.nd)) (sb_cons (ss_asg (se_call ((cal__law_rows T).mono (by decide)) hr (takes_of rfl rfl rfl rfl) (sa_cons (se_var 1) (sa_cons (se_var 2) (sa_nil)))) (sg_name 3 sc_law.nd)) (sb_cons (ss_asg (se_lc 10 rfl sc_law.nd (si_rng1 T.b_range (sa_cons (se_var 2) (sa_nil))) (blkOk_by (N := N_law) (sc := defScope st_law) (by decide +kernel)) (fun _ _ _ _ _ => pg_name (i := 10) sc_law.nd rfl (by first | exact Or.inl rfl | exact Or.inr rfl)) (fun _ _ _ _ _ => sts_nil) (fun _ _ _ _ _ => se_call ((cal__law_drawn T).mono (by decide)) hr Py.takes0 (sa_cons (se_var 1) (sa_nil)))) (sg_name 4 sc_law.nd)) (sb_cons (ss_lc 10 (j := 5) rfl sc_law.nd rfl rfl (sw_true rfl rfl rfl (by decide +kernel)) (si_rng1 T.b_range (sa_cons (se_len T.b_len (sq_var 3)) (sa_nil))) (blkOk_by (N := N_law) (sc := defScope st_law) (by decide +kernel)) (fun _ _ _ _ _ => pg_name (i := 10) sc_law.nd rfl (by first | exact Or.inl rfl | exact Or.inr rfl)) (fun _ _ _ _ _ => sts_nil) (fun _ _ _ _ _ => se_tup (sa_cons (se_sub (se_call ((cal__law_next T).mono (by decide)) hr Py.takes0 (sa_cons (se_var 1) (sa_cons (se_int) (sa_nil)))) (se_int)) (sa_cons (se_int) (sa_nil))))) (sb_cons (ss_frz 5 (ss_append 3 (se_lend 3 (se_call ((cal__law_mix T).mono (by decide)) hr (takes_of rfl rfl rfl rfl) (sa_cons (se_var 5) (sa_cons (se_var 3) (sa_cons (se_var 2) (sa_nil)))))))) (sb_cons (ss_frz 4 (ss_frz 3 (ss_lc 11 (j := 6) rfl sc_law.nd rfl rfl (sw_true rfl rfl rfl (by decide +kernel)) (si_seq (se_var 3)) (blkOk_by (N := N_law) (sc := defScope st_law) (by decide +kernel)) (fun _ _ _ _ _ => pg_name (i := 11) sc_law.nd rfl (by first | exact Or.inl rfl | exact Or.inr rfl)) (fun _ _ _ _ _ => sts_nil) (fun _ _ _ _ _ => se_call ((cal__law_dot T).mono (by decide)) hr Py.takes0 (sa_cons (se_var 11) (sa_cons (se_var 4) (sa_nil))))))) (sb_cons (ss_frz 3 (ss_frz 6 (ss_if (st_ne hr.units (se_call ((cal__law_judged T).mono (by decide)) hr (takes_of rfl rfl rfl rfl) (sa_cons (se_var 1) (sa_cons (se_var 3) (sa_cons (se_var 6) (sa_cons (se_var 2) (sa_nil)))))) (se_str)) (sb_cons (ss_ret (se_bl)) (sb_nil)) (sb_nil)))) (sb_cons (ss_frz 6 (ss_lc 12 (j := 7) rfl sc_law.nd rfl rfl (sw_true rfl rfl rfl (by decide +kernel)) (si_seq (se_var 6)) (blkOk_by (N := N_law) (sc := defScope st_law) (by decide +kernel)) (fun _ _ _ _ _ => pg_name (i := 12) sc_law.nd rfl (by first | exact Or.inl rfl | exact Or.inr rfl)) (fun _ _ _ _ _ => sts_nil) (fun _ _ _ _ _ => se_var 12))) (sb_cons (ss_asg (se_sub (se_len T.b_len (sq_var 7)) (se_int)) (sg_name 8 sc_law.nd)) (sb_cons (ss_asg (se_call ((cal__law_nplus T).mono (by decide)) hr (takes_of rfl rfl rfl rfl) (sa_cons (se_ix (sq_var 7) (se_var 8)) (sa_cons (se_tup (sa_cons (se_add (se_int) (se_call ((cal__law_next T).mono (by decide)) hr (takes_of rfl rfl rfl rfl) (sa_cons (se_var 1) (sa_cons (se_int) (sa_nil))))) (sa_cons (se_add (se_int) (se_call ((cal__law_next T).mono (by decide)) hr (takes_of rfl rfl rfl rfl) (sa_cons (se_var 1) (sa_cons (se_int) (sa_nil))))) (sa_nil)))) (sa_nil)))) (sg_sub 7 (W := W0) (se_var 8))) (sb_cons (ss_frz 3 (ss_frz 7 (ss_if (st_ne hr.units (se_call ((cal__law_judged T).mono (by decide)) hr (takes_of rfl rfl rfl rfl) (sa_cons (se_var 1) (sa_cons (se_var 3) (sa_cons (se_var 7) (sa_cons (se_var 2) (sa_nil)))))) (se_str)) (sb_cons (ss_ret (se_bl)) (sb_nil)) (sb_nil)))) (sb_cons (ss_frz 3 (ss_lc 11 (j := 9) rfl sc_law.nd rfl rfl (sw_true rfl rfl rfl (by decide +kernel)) (si_seq (se_var 3)) (blkOk_by (N := N_law) (sc := defScope st_law) (by decide +kernel)) (fun _ _ _ _ _ => pg_name (i := 11) sc_law.nd rfl (by first | exact Or.inl rfl | exact Or.inr rfl)) (fun _ _ _ _ _ => sts_nil) (fun _ _ _ _ _ => se_call ((cal__law_drawn T).mono (by decide)) hr Py.takes0 (sa_cons (se_var 1) (sa_nil))))) (sb_cons (ss_frz 3 (ss_frz 9 (ss_if (st_isN (se_call ((cal__law_judged T).mono (by decide)) hr (takes_of rfl rfl rfl rfl) (sa_cons (se_var 1) (sa_cons (se_var 3) (sa_cons (se_var 9) (sa_cons (se_var 2) (sa_nil)))))) (se_non)) (sb_cons (ss_ret (se_bl)) (sb_nil)) (sb_nil)))) (sb_cons (ss_frz 3 (ss_if (st_not (st_val (se_call ((cal__law_counted T).mono (by decide)) hr (takes_of rfl rfl rfl rfl) (sa_cons (se_var 1) (sa_cons (se_var 3) (sa_cons (se_var 2) (sa_nil))))))) (sb_cons (ss_ret (se_bl)) (sb_nil)) (sb_nil))) (sb_cons (ss_ret (se_call0 ((cal__law_refused T).mono (by decide)) hr (takes_of rfl rfl rfl rfl))) (sb_nil)))))))))))))))) sc_law.nd) (pf_law)
theorem ok_law (T : Tp P K mg C_BadNumber C_BadTable C_TooMuch) {f : Addr} {fd : FuncData} (Fn : Fun K "law" "law" st_law f fd) : FnOk P w K mg base (L2.CX P w) 10 f fd ["script"] (spOf K sp_law) :=
  fn_mk0 (p := p_law) Fn sc_law len_law (fun f cdv A outer s H E hr => sb_stream 1 (se_call ((cal__law_stream T).mono (by decide)) hr (takes_of rfl rfl rfl rfl) (sa_cons (se_var 0) (sa_nil))) (sb_cons (ss_asg (se_call ((cal__law_next T).mono (by decide)) hr (takes_of rfl rfl rfl rfl) (sa_cons (se_var 1) (sa_cons (se_int) (sa_nil)))) (sg_name 2 sc_law.nd)) (sb_cons (ss_asg (se_call ((cal__law_rows T).mono (by decide)) hr (takes_of rfl rfl rfl rfl) (sa_cons (se_var 1) (sa_cons (se_var 2) (sa_nil)))) (sg_name 3 sc_law.nd)) (sb_cons (ss_asg (se_lc 10 rfl sc_law.nd (si_rng1 T.b_range (sa_cons (se_var 2) (sa_nil))) (blkOk_by (N := N_law) (sc := defScope st_law) (by decide +kernel)) (fun _ _ _ _ _ => pg_name (i := 10) sc_law.nd rfl (by first | exact Or.inl rfl | exact Or.inr rfl)) (fun _ _ _ _ _ => sts_nil) (fun _ _ _ _ _ => se_call ((cal__law_drawn T).mono (by decide)) hr Py.takes0 (sa_cons (se_var 1) (sa_nil)))) (sg_name 4 sc_law.nd)) (sb_cons (ss_lc 10 (j := 5) rfl sc_law.nd rfl rfl (sw_true rfl rfl rfl (by decide +kernel)) (si_rng1 T.b_range (sa_cons (se_len T.b_len (sq_var 3)) (sa_nil))) (blkOk_by (N := N_law) (sc := defScope st_law) (by decide +kernel)) (fun _ _ _ _ _ => pg_name (i := 10) sc_law.nd rfl (by first | exact Or.inl rfl | exact Or.inr rfl)) (fun _ _ _ _ _ => sts_nil) (fun _ _ _ _ _ => se_tup (sa_cons (se_sub (se_call ((cal__law_next T).mono (by decide)) hr Py.takes0 (sa_cons (se_var 1) (sa_cons (se_int) (sa_nil)))) (se_int)) (sa_cons (se_int) (sa_nil))))) (sb_cons (ss_frz 5 (ss_append 3 (se_lend 3 (se_call ((cal__law_mix T).mono (by decide)) hr (takes_of rfl rfl rfl rfl) (sa_cons (se_var 5) (sa_cons (se_var 3) (sa_cons (se_var 2) (sa_nil)))))))) (sb_cons (ss_frz 4 (ss_frz 3 (ss_lc 11 (j := 6) rfl sc_law.nd rfl rfl (sw_true rfl rfl rfl (by decide +kernel)) (si_seq (se_var 3)) (blkOk_by (N := N_law) (sc := defScope st_law) (by decide +kernel)) (fun _ _ _ _ _ => pg_name (i := 11) sc_law.nd rfl (by first | exact Or.inl rfl | exact Or.inr rfl)) (fun _ _ _ _ _ => sts_nil) (fun _ _ _ _ _ => se_call ((cal__law_dot T).mono (by decide)) hr Py.takes0 (sa_cons (se_var 11) (sa_cons (se_var 4) (sa_nil))))))) (sb_cons (ss_frz 3 (ss_frz 6 (ss_if (st_ne hr.units (se_call ((cal__law_judged T).mono (by decide)) hr (takes_of rfl rfl rfl rfl) (sa_cons (se_var 1) (sa_cons (se_var 3) (sa_cons (se_var 6) (sa_cons (se_var 2) (sa_nil)))))) (se_str)) (sb_cons (ss_ret (se_bl)) (sb_nil)) (sb_nil)))) (sb_cons (ss_frz 6 (ss_lc 12 (j := 7) rfl sc_law.nd rfl rfl (sw_true rfl rfl rfl (by decide +kernel)) (si_seq (se_var 6)) (blkOk_by (N := N_law) (sc := defScope st_law) (by decide +kernel)) (fun _ _ _ _ _ => pg_name (i := 12) sc_law.nd rfl (by first | exact Or.inl rfl | exact Or.inr rfl)) (fun _ _ _ _ _ => sts_nil) (fun _ _ _ _ _ => se_var 12))) (sb_cons (ss_asg (se_sub (se_len T.b_len (sq_var 7)) (se_int)) (sg_name 8 sc_law.nd)) (sb_cons (ss_asg (se_call ((cal__law_nplus T).mono (by decide)) hr (takes_of rfl rfl rfl rfl) (sa_cons (se_ix (sq_var 7) (se_var 8)) (sa_cons (se_tup (sa_cons (se_add (se_int) (se_call ((cal__law_next T).mono (by decide)) hr (takes_of rfl rfl rfl rfl) (sa_cons (se_var 1) (sa_cons (se_int) (sa_nil))))) (sa_cons (se_add (se_int) (se_call ((cal__law_next T).mono (by decide)) hr (takes_of rfl rfl rfl rfl) (sa_cons (se_var 1) (sa_cons (se_int) (sa_nil))))) (sa_nil)))) (sa_nil)))) (sg_sub 7 (W := W0) (se_var 8))) (sb_cons (ss_frz 3 (ss_frz 7 (ss_if (st_ne hr.units (se_call ((cal__law_judged T).mono (by decide)) hr (takes_of rfl rfl rfl rfl) (sa_cons (se_var 1) (sa_cons (se_var 3) (sa_cons (se_var 7) (sa_cons (se_var 2) (sa_nil)))))) (se_str)) (sb_cons (ss_ret (se_bl)) (sb_nil)) (sb_nil)))) (sb_cons (ss_frz 3 (ss_lc 11 (j := 9) rfl sc_law.nd rfl rfl (sw_true rfl rfl rfl (by decide +kernel)) (si_seq (se_var 3)) (blkOk_by (N := N_law) (sc := defScope st_law) (by decide +kernel)) (fun _ _ _ _ _ => pg_name (i := 11) sc_law.nd rfl (by first | exact Or.inl rfl | exact Or.inr rfl)) (fun _ _ _ _ _ => sts_nil) (fun _ _ _ _ _ => se_call ((cal__law_drawn T).mono (by decide)) hr Py.takes0 (sa_cons (se_var 1) (sa_nil))))) (sb_cons (ss_frz 3 (ss_frz 9 (ss_if (st_isN (se_call ((cal__law_judged T).mono (by decide)) hr (takes_of rfl rfl rfl rfl) (sa_cons (se_var 1) (sa_cons (se_var 3) (sa_cons (se_var 9) (sa_cons (se_var 2) (sa_nil)))))) (se_non)) (sb_cons (ss_ret (se_bl)) (sb_nil)) (sb_nil)))) (sb_cons (ss_frz 3 (ss_if (st_not (st_val (se_call ((cal__law_counted T).mono (by decide)) hr (takes_of rfl rfl rfl rfl) (sa_cons (se_var 1) (sa_cons (se_var 3) (sa_cons (se_var 2) (sa_nil))))))) (sb_cons (ss_ret (se_bl)) (sb_nil)) (sb_nil))) (sb_cons (ss_ret (se_call0 ((cal__law_refused T).mono (by decide)) hr (takes_of rfl rfl rfl rfl))) (sb_nil)))))))))))))))) sc_law.nd) (pf_law)
end
end K05
end
section
set_option Elab.async false
set_option linter.all false
set_option maxRecDepth 100000
set_option maxHeartbeats 1000000
/-! The end (printed by gen.py). -/
namespace K05
open PySem PySem.W PySem.Spec PyProof.Rows Py
abbrev st0_BadNumber : Stmt := L2.inClass (topS 3) 0
theorem ini_BadNumber {P : Program} {K : Frag} {C D fI : Addr} (T : ErrCls P K C D fI "BadNumber.__init__" st0_BadNumber) (nf0 : findIn K (.ref C) "handed" = some none) : Err1 P K C D fI "BadNumber.__init__" st0_BadNumber "handed" :=
  ⟨T, ⟨_, _, _, _, _, _, _, _, _, _, _, _, ⟨rfl, rfl, rfl, rfl, rfl, rfl, by decide +kernel, ⟨_, rfl, rfl⟩, fun _ _ _ _ => rfl, fun _ _ _ _ => rfl, fun _ _ _ _ => rfl, fun _ _ _ _ => rfl⟩, rfl, fun _ _ _ _ => rfl⟩, fun fd u v h1 h2 h3 h4 => by (obtain ⟨_, _, _, _, _, _, _, _, _, _, _, _⟩ := fd; simp only at h1 h2 h3 h4; subst h1 h2 h3 h4; rfl), rfl, nf0, by decide +kernel, by decide +kernel⟩
abbrev st0_BadTable : Stmt := L2.inClass (topS 4) 0
theorem ini_BadTable {P : Program} {K : Frag} {C D fI : Addr} (T : ErrCls P K C D fI "BadTable.__init__" st0_BadTable) (nf0 : findIn K (.ref C) "handed" = some none) : Err1 P K C D fI "BadTable.__init__" st0_BadTable "handed" :=
  ⟨T, ⟨_, _, _, _, _, _, _, _, _, _, _, _, ⟨rfl, rfl, rfl, rfl, rfl, rfl, by decide +kernel, ⟨_, rfl, rfl⟩, fun _ _ _ _ => rfl, fun _ _ _ _ => rfl, fun _ _ _ _ => rfl, fun _ _ _ _ => rfl⟩, rfl, fun _ _ _ _ => rfl⟩, fun fd u v h1 h2 h3 h4 => by (obtain ⟨_, _, _, _, _, _, _, _, _, _, _, _⟩ := fd; simp only at h1 h2 h3 h4; subst h1 h2 h3 h4; rfl), rfl, nf0, by decide +kernel, by decide +kernel⟩
abbrev st0_TooMuch : Stmt := L2.inClass (topS 5) 0
theorem ini_TooMuch {P : Program} {K : Frag} {C D fI : Addr} (T : ErrCls P K C D fI "TooMuch.__init__" st0_TooMuch) (nf0 : findIn K (.ref C) "word" = some none) (nf1 : findIn K (.ref C) "most" = some none) : Err2 P K C D fI "TooMuch.__init__" st0_TooMuch "word" "most" :=
  ⟨T, ⟨_, _, _, _, _, _, _, _, _, _, _, _, _, _, _, _, ⟨rfl, rfl, rfl, rfl, rfl, rfl, by decide +kernel, ⟨_, rfl, rfl⟩, fun _ _ _ _ => rfl, fun _ _ _ _ => rfl, fun _ _ _ _ => rfl, fun _ _ _ _ => rfl⟩, rfl, fun _ _ _ _ => rfl, fun _ _ _ _ => rfl⟩, fun fd u v w h1 h2 h3 h4 => by (obtain ⟨_, _, _, _, _, _, _, _, _, _, _, _⟩ := fd; simp only at h1 h2 h3 h4; subst h1 h2 h3 h4; rfl), rfl, rfl, nf0, nf1, by decide +kernel, by decide +kernel, by decide +kernel, by decide +kernel, by decide +kernel⟩
theorem fin {P : Program} {w : World} {K : Frag} {mg : Str → Option Value} {fa : Addr} {C_BadNumber C_BadTable C_TooMuch : Addr} (T : Tp P K mg C_BadNumber C_BadTable C_TooMuch) (L : ∃ fd, L2.Fun K "law" "law" st_law fa fd ∧ ∀ (s : Shared) (u : Value), BindsTo s fd ⟨[u], []⟩ [("script", u)]) :
    ∃ fd : FuncData, (∀ (s : Shared) (u : Value), BindsTo s fd ⟨[u], []⟩ [("script", u)]) ∧ ∀ base : Heap, K.In base → base.Ns mainGlobals mg → L2.FnOk P w K mg base (L2.CX P w) 10 fa fd ["script"] (spOf K lawSpec) := by
  obtain ⟨fd, Fn, hb⟩ := L
  exact ⟨fd, hb, fun base _ _ => ok_law T Fn⟩
theorem walk {l : OpenLaw} {q : Program} {loose : List Str} {XP : (Str → Option Value) → Heap → Prop} {YP : World → Heap → Prop} {d : DefRec} {K : Params → Frag} (hn : l.most = some 63) (hdf : d.params.defaults = [])
    (hY : ∀ (w : World) (h : Heap), YP w h → (K w.params).In h)
    (F : ∀ (w : World) (mg : Str → Option Value) (fa : Addr) (h : Heap), (K w.params).In h → h.Ns mainGlobals mg → mg d.name = some (.ref fa) →
      ∃ fd : FuncData, (∀ (s : Shared) (u : Value), BindsTo s fd ⟨[u], []⟩ [("script", u)]) ∧ ∀ base : Heap, (K w.params).In base → base.Ns mainGlobals mg → L2.FnOk l.prog w (K w.params) mg base (L2.CX l.prog w) 10 fa fd ["script"] (spOf (K w.params) lawSpec)) :
    WalkO q loose XP YP l.row.toRowW d [] (fun f vs => PySem.call f vs) :=
  L2.walk_of (n := 63) (k := 10) (x := "script") (CX := fun w => L2.CX l.prog w) (sp := fun w => spOf (K w.params) lawSpec) hn (by decide) hdf ⟨rfl, by decide, by decide⟩ hY F (fun _ _ a ns hl _ hS => law_sp (E := fun _ _ _ => False) ⟨a, ns, rfl, hS, hl, fun _ => rfl⟩) fun _ _ _ _ _ z => by
    obtain ⟨_, _, _, _, _, _, _, _, _, _, _, _, z⟩ := z
    exact z
end K05
open PySem PySem.W PyProof.Rows
set_option maxRecDepth 100000 in
set_option maxHeartbeats 0 in
theorem PySem.Challenge.cw_sumsproved_k05_all_answers_or_weights_holds : PySem.Challenge.rw_sumsproved_k05_all_answers_or_weights.Holds := by
  w_on; o_law; k_head; (case hw => w_witness2)
  k_fill
  refine K05.walk (l := PySem.Challenge.rw_sumsproved_k05_all_answers_or_weights) rfl rfl (fun w h Y => PySem.W.kIn_of Y) ?F
  case F =>
    intro w mg fa h KX G hmg
    refine' K05.fin { e_BadNumber := ?e_BadNumber, t_BadNumber := ?t_BadNumber, xx_BadNumber := ?xx_BadNumber, n_BadNumber_handed := ?n_BadNumber_handed, e_BadTable := ?e_BadTable, t_BadTable := ?t_BadTable, xx_BadTable := ?xx_BadTable, n_BadTable_handed := ?n_BadTable_handed, e_TooMuch := ?e_TooMuch, t_TooMuch := ?t_TooMuch, xx_TooMuch := ?xx_TooMuch, n_TooMuch_word := ?n_TooMuch_word, n_TooMuch_most := ?n_TooMuch_most, b_abs := ?b_abs, b_bool := ?b_bool, b_int := ?b_int, b_isinstance := ?b_isinstance, b_len := ?b_len, b_list := ?b_list, b_min := ?b_min, b_range := ?b_range, b_str := ?b_str, b_tuple := ?b_tuple, g_TABLE_BOUND := ?g_TABLE_BOUND, f_gcd := ?f_gcd, f_lcm := ?f_lcm, d_nu_integer := ?d_nu_integer, d_nu_gcd := ?d_nu_gcd, d_nu_low := ?d_nu_low, d_number := ?d_number, d_tb_lists := ?d_tb_lists, d_tb_look := ?d_tb_look, d_tb_look_due := ?d_tb_look_due, d_tb_look_size := ?d_tb_look_size, d_tb_numbers := ?d_tb_numbers, d_tb_clear := ?d_tb_clear, d_tb_spot := ?d_tb_spot, d_tb_echelon := ?d_tb_echelon, d_tb_filled := ?d_tb_filled, d_tb_free := ?d_tb_free, d_tb_answers := ?d_tb_answers, d_tb_base := ?d_tb_base, d_tb_rank := ?d_tb_rank, d_tb_turned := ?d_tb_turned, d_tb_paper := ?d_tb_paper, d_solve := ?d_solve, d_rank := ?d_rank, d_number_ties := ?d_number_ties, d__law_stream := ?d__law_stream, d__law_next := ?d__law_next, d__law_int := ?d__law_int, d__law_gcd := ?d__law_gcd, d__law_num := ?d__law_num, d__law_nplus := ?d__law_nplus, d__law_ntimes := ?d__law_ntimes, d__law_is_num := ?d__law_is_num, d__law_drawn := ?d__law_drawn, d__law_dot := ?d__law_dot, d__law_mix := ?d__law_mix, d__law_rows := ?d__law_rows, d__law_rank := ?d__law_rank, d__law_is_row := ?d__law_is_row, d__law_is_base := ?d__law_is_base, d__law_asked := ?d__law_asked, d__law_handed := ?d__law_handed, d__law_judged := ?d__law_judged, d__law_turned := ?d__law_turned, d__law_counted := ?d__law_counted, d__law_word := ?d__law_word, d__law_bad_value := ?d__law_bad_value, d__law_much := ?d__law_much, d__law_refused := ?d__law_refused, d_law := ?d_law } ?L
    case e_BadNumber =>
      refine' Py.errN1_mk KX G ?aC ?T ?nf0 K05.ini_BadNumber
      (case aC => k_is)
      case T =>
        refine' Py.ecls_mk ?iC ?xL ?sup ?opq ?exI ?slf ?sa ?tC ?kC ?exC ?tyC ?ga ?gg ?hdC ?l1 ?c1 ?l2 ?v2 ?fe ?l3 ?sg ?top
        (case iC => k_is)
        (case xL => k_is)
        (case sup => refine' Py.along_mk ?xD ?fD; (case xD => k_is); (case fD => k_is))
        (case opq => k_is)
        (case exI => k_is)
        (case slf => k_is)
        (case sa => k_is)
        (case tC => k_is)
        (case kC => k_is)
        (case exC => k_is)
        (case tyC => k_is)
        (case ga => k_is)
        (case gg => k_is)
        (case hdC => k_is)
        (case l1 => k_is)
        (case c1 => k_is)
        (case l2 => k_is)
        (case v2 => rfl)
        (case fe => decide +kernel)
        (case l3 => k_is)
        (case sg => k_is)
        (case top => decide +kernel)
      (case nf0 => k_is)
    case t_BadNumber =>
      refine' Py.exm_me ?a1 ?a2 ?a3 ?a4
      (case a1 => k_is)
      (case a2 => k_is)
      (case a3 => k_is)
      (case a4 => first | rfl | k_is)
    case xx_BadNumber =>
      refine' ⟨_, _, _, K05.st0_BadNumber, ?T⟩
      case T =>
        refine' Py.ecls_mk ?iC ?xL ?sup ?opq ?exI ?slf ?sa ?tC ?kC ?exC ?tyC ?ga ?gg ?hdC ?l1 ?c1 ?l2 ?v2 ?fe ?l3 ?sg ?top
        (case iC => k_is)
        (case xL => k_is)
        (case sup => refine' Py.along_mk ?xD ?fD; (case xD => k_is); (case fD => k_is))
        (case opq => k_is)
        (case exI => k_is)
        (case slf => k_is)
        (case sa => k_is)
        (case tC => k_is)
        (case kC => k_is)
        (case exC => k_is)
        (case tyC => k_is)
        (case ga => k_is)
        (case gg => k_is)
        (case hdC => k_is)
        (case l1 => k_is)
        (case c1 => k_is)
        (case l2 => k_is)
        (case v2 => rfl)
        (case fe => decide +kernel)
        (case l3 => k_is)
        (case sg => k_is)
        (case top => decide +kernel)
    (case n_BadNumber_handed => k_is)
    case e_BadTable =>
      refine' Py.errN1_mk KX G ?aC ?T ?nf0 K05.ini_BadTable
      (case aC => k_is)
      case T =>
        refine' Py.ecls_mk ?iC ?xL ?sup ?opq ?exI ?slf ?sa ?tC ?kC ?exC ?tyC ?ga ?gg ?hdC ?l1 ?c1 ?l2 ?v2 ?fe ?l3 ?sg ?top
        (case iC => k_is)
        (case xL => k_is)
        (case sup => refine' Py.along_mk ?xD ?fD; (case xD => k_is); (case fD => k_is))
        (case opq => k_is)
        (case exI => k_is)
        (case slf => k_is)
        (case sa => k_is)
        (case tC => k_is)
        (case kC => k_is)
        (case exC => k_is)
        (case tyC => k_is)
        (case ga => k_is)
        (case gg => k_is)
        (case hdC => k_is)
        (case l1 => k_is)
        (case c1 => k_is)
        (case l2 => k_is)
        (case v2 => rfl)
        (case fe => decide +kernel)
        (case l3 => k_is)
        (case sg => k_is)
        (case top => decide +kernel)
      (case nf0 => k_is)
    case t_BadTable =>
      refine' Py.exm_me ?a1 ?a2 ?a3 ?a4
      (case a1 => k_is)
      (case a2 => k_is)
      (case a3 => k_is)
      (case a4 => first | rfl | k_is)
    case xx_BadTable =>
      refine' ⟨_, _, _, K05.st0_BadTable, ?T⟩
      case T =>
        refine' Py.ecls_mk ?iC ?xL ?sup ?opq ?exI ?slf ?sa ?tC ?kC ?exC ?tyC ?ga ?gg ?hdC ?l1 ?c1 ?l2 ?v2 ?fe ?l3 ?sg ?top
        (case iC => k_is)
        (case xL => k_is)
        (case sup => refine' Py.along_mk ?xD ?fD; (case xD => k_is); (case fD => k_is))
        (case opq => k_is)
        (case exI => k_is)
        (case slf => k_is)
        (case sa => k_is)
        (case tC => k_is)
        (case kC => k_is)
        (case exC => k_is)
        (case tyC => k_is)
        (case ga => k_is)
        (case gg => k_is)
        (case hdC => k_is)
        (case l1 => k_is)
        (case c1 => k_is)
        (case l2 => k_is)
        (case v2 => rfl)
        (case fe => decide +kernel)
        (case l3 => k_is)
        (case sg => k_is)
        (case top => decide +kernel)
    (case n_BadTable_handed => k_is)
    case e_TooMuch =>
      refine' Py.errN2_mk KX G ?aC ?T ?nf0 ?nf1 K05.ini_TooMuch
      (case aC => k_is)
      case T =>
        refine' Py.ecls_mk ?iC ?xL ?sup ?opq ?exI ?slf ?sa ?tC ?kC ?exC ?tyC ?ga ?gg ?hdC ?l1 ?c1 ?l2 ?v2 ?fe ?l3 ?sg ?top
        (case iC => k_is)
        (case xL => k_is)
        (case sup => refine' Py.along_mk ?xD ?fD; (case xD => k_is); (case fD => k_is))
        (case opq => k_is)
        (case exI => k_is)
        (case slf => k_is)
        (case sa => k_is)
        (case tC => k_is)
        (case kC => k_is)
        (case exC => k_is)
        (case tyC => k_is)
        (case ga => k_is)
        (case gg => k_is)
        (case hdC => k_is)
        (case l1 => k_is)
        (case c1 => k_is)
        (case l2 => k_is)
        (case v2 => rfl)
        (case fe => decide +kernel)
        (case l3 => k_is)
        (case sg => k_is)
        (case top => decide +kernel)
      (case nf0 => k_is)
      (case nf1 => k_is)
    case t_TooMuch =>
      refine' Py.exm_me ?a1 ?a2 ?a3 ?a4
      (case a1 => k_is)
      (case a2 => k_is)
      (case a3 => k_is)
      (case a4 => first | rfl | k_is)
    case xx_TooMuch =>
      refine' ⟨_, _, _, K05.st0_TooMuch, ?T⟩
      case T =>
        refine' Py.ecls_mk ?iC ?xL ?sup ?opq ?exI ?slf ?sa ?tC ?kC ?exC ?tyC ?ga ?gg ?hdC ?l1 ?c1 ?l2 ?v2 ?fe ?l3 ?sg ?top
        (case iC => k_is)
        (case xL => k_is)
        (case sup => refine' Py.along_mk ?xD ?fD; (case xD => k_is); (case fD => k_is))
        (case opq => k_is)
        (case exI => k_is)
        (case slf => k_is)
        (case sa => k_is)
        (case tC => k_is)
        (case kC => k_is)
        (case exC => k_is)
        (case tyC => k_is)
        (case ga => k_is)
        (case gg => k_is)
        (case hdC => k_is)
        (case l1 => k_is)
        (case c1 => k_is)
        (case l2 => k_is)
        (case v2 => rfl)
        (case fe => decide +kernel)
        (case l3 => k_is)
        (case sg => k_is)
        (case top => decide +kernel)
    (case n_TooMuch_word => k_is)
    (case n_TooMuch_most => k_is)
    (case b_abs => refine' PySem.W.mg_none_of KX G ?z; (case z => k_is))
    (case b_bool => refine' PySem.W.mg_none_of KX G ?z; (case z => k_is))
    (case b_int => refine' PySem.W.mg_none_of KX G ?z; (case z => k_is))
    (case b_isinstance => refine' PySem.W.mg_none_of KX G ?z; (case z => k_is))
    (case b_len => refine' PySem.W.mg_none_of KX G ?z; (case z => k_is))
    (case b_list => refine' PySem.W.mg_none_of KX G ?z; (case z => k_is))
    (case b_min => refine' PySem.W.mg_none_of KX G ?z; (case z => k_is))
    (case b_range => refine' PySem.W.mg_none_of KX G ?z; (case z => k_is))
    (case b_str => refine' PySem.W.mg_none_of KX G ?z; (case z => k_is))
    (case b_tuple => refine' PySem.W.mg_none_of KX G ?z; (case z => k_is))
    (case g_TABLE_BOUND => refine' Py.globI_mk KX G ?z ?e; (case z => k_is); (case e => rfl))
    (case f_gcd => refine' PySem.W.mg_of KX G ?z; (case z => k_is))
    (case f_lcm => refine' PySem.W.mg_of KX G ?z; (case z => k_is))
    (case d_nu_integer => refine' Py.def_mk KX G ?a ?l ?c ?k (fun _ _ _ _ _ _ us hl => match us, hl with | [_], _ => rfl); (case a => k_is); (case l => k_is); (case c => k_is); (case k => k_is))
    (case d_nu_gcd => refine' Py.def_mk KX G ?a ?l ?c ?k (fun _ _ _ _ _ _ us hl => match us, hl with | [_, _], _ => rfl); (case a => k_is); (case l => k_is); (case c => k_is); (case k => k_is))
    (case d_nu_low => refine' Py.def_mk KX G ?a ?l ?c ?k (fun _ _ _ _ _ _ us hl => match us, hl with | [_, _], _ => rfl); (case a => k_is); (case l => k_is); (case c => k_is); (case k => k_is))
    (case d_number => refine' Py.def_mk KX G ?a ?l ?c ?k (fun _ _ _ _ _ _ us hl => match us, hl with | [_], _ => rfl); (case a => k_is); (case l => k_is); (case c => k_is); (case k => k_is))
    (case d_tb_lists => refine' Py.def_mk KX G ?a ?l ?c ?k (fun _ _ _ _ _ _ us hl => match us, hl with | [_, _], _ => rfl); (case a => k_is); (case l => k_is); (case c => k_is); (case k => k_is))
    (case d_tb_look => refine' Py.def_mk KX G ?a ?l ?c ?k (fun _ _ _ _ _ _ us hl => match us, hl with | [_, _, _], _ => rfl); (case a => k_is); (case l => k_is); (case c => k_is); (case k => k_is))
    (case d_tb_look_due => refine' Py.def_mk KX G ?a ?l ?c ?k (fun _ _ _ _ _ _ us hl => match us, hl with | [_, _], _ => rfl); (case a => k_is); (case l => k_is); (case c => k_is); (case k => k_is))
    (case d_tb_look_size => refine' Py.def_mk KX G ?a ?l ?c ?k (fun _ _ _ _ _ _ us hl => match us, hl with | [_, _, _], _ => rfl); (case a => k_is); (case l => k_is); (case c => k_is); (case k => k_is))
    (case d_tb_numbers => refine' Py.def_mk KX G ?a ?l ?c ?k (fun _ _ _ _ _ _ us hl => match us, hl with | [_], _ => rfl); (case a => k_is); (case l => k_is); (case c => k_is); (case k => k_is))
    (case d_tb_clear => refine' Py.def_mk KX G ?a ?l ?c ?k (fun _ _ _ _ _ _ us hl => match us, hl with | [_], _ => rfl); (case a => k_is); (case l => k_is); (case c => k_is); (case k => k_is))
    (case d_tb_spot => refine' Py.def_mk KX G ?a ?l ?c ?k (fun _ _ _ _ _ _ us hl => match us, hl with | [_, _, _], _ => rfl); (case a => k_is); (case l => k_is); (case c => k_is); (case k => k_is))
    (case d_tb_echelon => refine' Py.def_mk KX G ?a ?l ?c ?k (fun _ _ _ _ _ _ us hl => match us, hl with | [_, _], _ => rfl); (case a => k_is); (case l => k_is); (case c => k_is); (case k => k_is))
    (case d_tb_filled => refine' Py.def_mk KX G ?a ?l ?c ?k (fun _ _ _ _ _ _ us hl => match us, hl with | [_, _, _, _], _ => rfl); (case a => k_is); (case l => k_is); (case c => k_is); (case k => k_is))
    (case d_tb_free => refine' Py.def_mk KX G ?a ?l ?c ?k (fun _ _ _ _ _ _ us hl => match us, hl with | [_, _, _], _ => rfl); (case a => k_is); (case l => k_is); (case c => k_is); (case k => k_is))
    (case d_tb_answers => refine' Py.def_mk KX G ?a ?l ?c ?k (fun _ _ _ _ _ _ us hl => match us, hl with | [_, _, _], _ => rfl); (case a => k_is); (case l => k_is); (case c => k_is); (case k => k_is))
    (case d_tb_base => refine' Py.def_mk KX G ?a ?l ?c ?k (fun _ _ _ _ _ _ us hl => match us, hl with | [_, _], _ => rfl); (case a => k_is); (case l => k_is); (case c => k_is); (case k => k_is))
    (case d_tb_rank => refine' Py.def_mk KX G ?a ?l ?c ?k (fun _ _ _ _ _ _ us hl => match us, hl with | [_, _], _ => rfl); (case a => k_is); (case l => k_is); (case c => k_is); (case k => k_is))
    (case d_tb_turned => refine' Py.def_mk KX G ?a ?l ?c ?k (fun _ _ _ _ _ _ us hl => match us, hl with | [_, _], _ => rfl); (case a => k_is); (case l => k_is); (case c => k_is); (case k => k_is))
    (case d_tb_paper => refine' Py.def_mk KX G ?a ?l ?c ?k (fun _ _ _ _ _ _ us hl => match us, hl with | [_, _, _], _ => rfl); (case a => k_is); (case l => k_is); (case c => k_is); (case k => k_is))
    (case d_solve => refine' Py.def_mk KX G ?a ?l ?c ?k (fun _ _ _ _ _ _ us hl => match us, hl with | [_, _, _], _ => rfl); (case a => k_is); (case l => k_is); (case c => k_is); (case k => k_is))
    (case d_rank => refine' Py.def_mk KX G ?a ?l ?c ?k (fun _ _ _ _ _ _ us hl => match us, hl with | [_, _], _ => rfl); (case a => k_is); (case l => k_is); (case c => k_is); (case k => k_is))
    (case d_number_ties => refine' Py.def_mk KX G ?a ?l ?c ?k (fun _ _ _ _ _ _ us hl => match us, hl with | [_, _], _ => rfl); (case a => k_is); (case l => k_is); (case c => k_is); (case k => k_is))
    (case d__law_stream => refine' Py.def_mk KX G ?a ?l ?c ?k (fun _ _ _ _ _ _ us hl => match us, hl with | [_], _ => rfl); (case a => k_is); (case l => k_is); (case c => k_is); (case k => k_is))
    (case d__law_next => refine' Py.def_mk KX G ?a ?l ?c ?k (fun _ _ _ _ _ _ us hl => match us, hl with | [_, _], _ => rfl); (case a => k_is); (case l => k_is); (case c => k_is); (case k => k_is))
    (case d__law_int => refine' Py.def_mk KX G ?a ?l ?c ?k (fun _ _ _ _ _ _ us hl => match us, hl with | [_], _ => rfl); (case a => k_is); (case l => k_is); (case c => k_is); (case k => k_is))
    (case d__law_gcd => refine' Py.def_mk KX G ?a ?l ?c ?k (fun _ _ _ _ _ _ us hl => match us, hl with | [_, _], _ => rfl); (case a => k_is); (case l => k_is); (case c => k_is); (case k => k_is))
    (case d__law_num => refine' Py.def_mk KX G ?a ?l ?c ?k (fun _ _ _ _ _ _ us hl => match us, hl with | [_, _], _ => rfl); (case a => k_is); (case l => k_is); (case c => k_is); (case k => k_is))
    (case d__law_nplus => refine' Py.def_mk KX G ?a ?l ?c ?k (fun _ _ _ _ _ _ us hl => match us, hl with | [_, _], _ => rfl); (case a => k_is); (case l => k_is); (case c => k_is); (case k => k_is))
    (case d__law_ntimes => refine' Py.def_mk KX G ?a ?l ?c ?k (fun _ _ _ _ _ _ us hl => match us, hl with | [_, _], _ => rfl); (case a => k_is); (case l => k_is); (case c => k_is); (case k => k_is))
    (case d__law_is_num => refine' Py.def_mk KX G ?a ?l ?c ?k (fun _ _ _ _ _ _ us hl => match us, hl with | [_], _ => rfl); (case a => k_is); (case l => k_is); (case c => k_is); (case k => k_is))
    (case d__law_drawn => refine' Py.def_mk KX G ?a ?l ?c ?k (fun _ _ _ _ _ _ us hl => match us, hl with | [_], _ => rfl); (case a => k_is); (case l => k_is); (case c => k_is); (case k => k_is))
    (case d__law_dot => refine' Py.def_mk KX G ?a ?l ?c ?k (fun _ _ _ _ _ _ us hl => match us, hl with | [_, _], _ => rfl); (case a => k_is); (case l => k_is); (case c => k_is); (case k => k_is))
    (case d__law_mix => refine' Py.def_mk KX G ?a ?l ?c ?k (fun _ _ _ _ _ _ us hl => match us, hl with | [_, _, _], _ => rfl); (case a => k_is); (case l => k_is); (case c => k_is); (case k => k_is))
    (case d__law_rows => refine' Py.def_mk KX G ?a ?l ?c ?k (fun _ _ _ _ _ _ us hl => match us, hl with | [_, _], _ => rfl); (case a => k_is); (case l => k_is); (case c => k_is); (case k => k_is))
    (case d__law_rank => refine' Py.def_mk KX G ?a ?l ?c ?k (fun _ _ _ _ _ _ us hl => match us, hl with | [_, _], _ => rfl); (case a => k_is); (case l => k_is); (case c => k_is); (case k => k_is))
    (case d__law_is_row => refine' Py.def_mk KX G ?a ?l ?c ?k (fun _ _ _ _ _ _ us hl => match us, hl with | [_, _], _ => rfl); (case a => k_is); (case l => k_is); (case c => k_is); (case k => k_is))
    (case d__law_is_base => refine' Py.def_mk KX G ?a ?l ?c ?k (fun _ _ _ _ _ _ us hl => match us, hl with | [_, _, _, _], _ => rfl); (case a => k_is); (case l => k_is); (case c => k_is); (case k => k_is))
    (case d__law_asked => refine' Py.def_mk KX G ?a ?l ?c ?k (fun _ _ _ _ _ _ us hl => match us, hl with | [_, _], _ => rfl); (case a => k_is); (case l => k_is); (case c => k_is); (case k => k_is))
    (case d__law_handed => refine' Py.def_mk KX G ?a ?l ?c ?k (fun _ _ _ _ _ _ us hl => match us, hl with | [_, _], _ => rfl); (case a => k_is); (case l => k_is); (case c => k_is); (case k => k_is))
    (case d__law_judged => refine' Py.def_mk KX G ?a ?l ?c ?k (fun _ _ _ _ _ _ us hl => match us, hl with | [_, _, _, _], _ => rfl); (case a => k_is); (case l => k_is); (case c => k_is); (case k => k_is))
    (case d__law_turned => refine' Py.def_mk KX G ?a ?l ?c ?k (fun _ _ _ _ _ _ us hl => match us, hl with | [_, _], _ => rfl); (case a => k_is); (case l => k_is); (case c => k_is); (case k => k_is))
    (case d__law_counted => refine' Py.def_mk KX G ?a ?l ?c ?k (fun _ _ _ _ _ _ us hl => match us, hl with | [_, _, _], _ => rfl); (case a => k_is); (case l => k_is); (case c => k_is); (case k => k_is))
    (case d__law_word => refine' Py.def_mk KX G ?a ?l ?c ?k (fun _ _ _ _ _ _ us hl => match us, hl with | [_], _ => rfl); (case a => k_is); (case l => k_is); (case c => k_is); (case k => k_is))
    (case d__law_bad_value => refine' Py.def_mk KX G ?a ?l ?c ?k (fun _ _ _ _ _ _ us hl => match us, hl with | [_], _ => rfl); (case a => k_is); (case l => k_is); (case c => k_is); (case k => k_is))
    (case d__law_much => refine' Py.def_mk KX G ?a ?l ?c ?k (fun _ _ _ _ _ _ us hl => match us, hl with | [_, _], _ => rfl); (case a => k_is); (case l => k_is); (case c => k_is); (case k => k_is))
    (case d__law_refused => refine' Py.def_mk KX G ?a ?l ?c ?k (fun _ _ _ _ _ _ us hl => match us, hl with | [], _ => rfl); (case a => k_is); (case l => k_is); (case c => k_is); (case k => k_is))
    (case d_law => refine' Py.def_mk KX G ?a ?l ?c ?k (fun _ _ _ _ _ _ us hl => match us, hl with | [_], _ => rfl); (case a => k_is); (case l => k_is); (case c => k_is); (case k => k_is))
    case L =>
      refine' Py.law_fun KX G hmg ?a ?l ?c ?k (fun _ _ _ _ _ _ _ _ => .of_eq rfl)
      (case a => k_is)
      (case l => k_is)
      (case c => k_is)
      (case k => k_is)
end
