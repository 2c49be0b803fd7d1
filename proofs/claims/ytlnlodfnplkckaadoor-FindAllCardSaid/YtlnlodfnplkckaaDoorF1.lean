/- Texts of the walk, laid together. Each theorem's conditions stand in it. -/
import Derived.Tactics
import Derived.OrdersHeld
import Derived.KernelRfl
import Derived.Laws.AppendOwn
import Derived.LoopN
import Derived.RangeFuncOwn
import Derived.Laws.Entries
import Derived.Laws.Pointers
import Derived.ChangeKeysEq
import Derived.Laws.Tables
import Derived.Great.BuildSlice
import Derived.IntWalk
import Derived.Laws.Strings
import Derived.Laws.StructEq
import Derived.Laws.OwnMore
import Derived.Laws.MakeOwn
import Derived.Laws.BytesArg
import Derived.Laws.IdiomStrings
/- The engine of these proofs: frames as functions of slots, a ghost heap of what never changes, own boxes; one rule for each kind of operation. No condition beyond those stated in each theorem. -/
namespace Go.Proofs.YtlnlodfnplkckaaDoor

/-! ### Frames -/
def upd (f : Nat → Value) (d : Nat) (v : Value) : Nat → Value := fun t => bif Nat.beq t d then v else f t
/-- How many slots a frame has; its deferred calls. -/
structure Fr where
  k : Nat
  ds : List Deferred
def FA (f : Nat → Value) (n : Fr) : Act := ⟨Array.ofFn (fun i : Fin n.k => f i.val), n.ds⟩
def ev (f : Nat → Value) : Operand → Value
  | .tmp t => f t
  | .const v => v
  | .global g => .pointer (some ⟨g, 0, none⟩)
  | .func g => .func (.func g) #[] #[]
def okO (n : Fr) : Operand → Bool
  | .tmp t => Nat.blt t n.k
  | _ => true

theorem blt_lt {a b : Nat} (h : Nat.blt a b = true) : a < b := by
  rw [Nat.blt_eq] at h; exact h

theorem FA_put {f : Nat → Value} {n : Fr} {d : Nat} {v : Value} (hd : Nat.blt d n.k = true) : (FA f n).put (some d) v = FA (upd f d v) n := by
  have hd := blt_lt hd
  simp only [FA, Act.put]
  congr 1
  apply Array.ext
  · simp
  · intro i h1 h2
    simp only [Array.size_setIfInBounds, Array.size_ofFn] at h1
    simp only [Array.getElem_ofFn, upd]
    by_cases e : i = d
    · subst e; simp
    · rw [Array.getElem_setIfInBounds_ne (by simpa using h1) (Ne.symm e)]
      have : Nat.beq i d = false := by
        cases hb : Nat.beq i d with
        | false => rfl
        | true => exact absurd (Nat.eq_of_beq_eq_true hb) e
      simp [this]

theorem FA_get {f : Nat → Value} {n : Fr} {t : Nat} (h : Nat.blt t n.k = true) : (FA f n).tmps.getD t undef = f t := by
  have h := blt_lt h
  simp [FA, Array.getD, h]

theorem FA_eval {f : Nat → Value} {n : Fr} {x : Operand} (h : okO n x = true) : (FA f n).eval x = ev f x := by
  cases x with
  | tmp t => exact FA_get h
  | _ => rfl

/-! ### The ghost heap, boxes, the state -/
abbrev GH := Nat → Option Obj
def GH.le (I J : GH) : Prop := ∀ b o, I b = some o → J b = some o
theorem GH.le.refl (I : GH) : I.le I := fun _ _ h => h
theorem GH.le.trans {I J K : GH} (h : I.le J) (k : J.le K) : I.le K := fun b o x => k b o (h b o x)
/-- The ghost heap: cells that lie so. -/
structure Sat (I : GH) (w : World) : Prop where
  blk : ∀ b o, I b = some o → w.heap[b]? = some o
  cel : ∀ b o, I b = some o → o.isCells = true

structure Bx where
  b : Nat
  cs : Array Value
  T : TypeId

def BoxesAt (L : List Bx) (w : World) : Prop := ∀ x ∈ L, w.heap[x.b]? = some (.cells x.cs x.T (0, 0))
def ids (L : List Bx) : List Nat := L.map (·.b)

/-- All but the blocks X stays as it was. -/
structure FrBut (X : List Nat) (w w' : World) : Prop where
  os : w'.os = w.os
  tape : w'.tape = w.tape
  output : w'.output = w.output
  size : w.heap.size ≤ w'.heap.size
  block : ∀ k, k < w.heap.size → k ∉ X → w'.heap[k]? = w.heap[k]?

theorem FrBut.refl (X : List Nat) (w : World) : FrBut X w w := ⟨rfl, rfl, rfl, Nat.le_refl _, fun _ _ _ => rfl⟩
theorem FrBut.trans {X : List Nat} {a b c : World} (h : FrBut X a b) (k : FrBut X b c) : FrBut X a c :=
  ⟨k.os.trans h.os, k.tape.trans h.tape, k.output.trans h.output, Nat.le_trans h.size k.size, fun i hi hx => (k.block i (Nat.lt_of_lt_of_le hi h.size) hx).trans (h.block i hi hx)⟩

structure St (w0 : World) (I0 : GH) (X0 : List Nat) (I : GH) (L : List Bx) (w : World) : Prop where
  sat : Sat I w
  le : I0.le I
  old : ∀ b, b < w0.heap.size → I b = I0 b
  fr : FrBut X0 w0 w
  bx : BoxesAt L w
  own : ∀ x ∈ L, I x.b = none ∧ (w0.heap.size ≤ x.b ∨ x.b ∈ X0)
  nd : (ids L).Nodup

/-- The contract of a function: it returns; the ghost heap grows; of what was, only the boxes X change. -/
def Fn (P : Program) (f : FuncId) (args : Array Value) (I : GH) (X : List Bx) (R : Value → GH → List Bx → Prop) : Prop :=
  ∀ w, Sat I w → BoxesAt X w → (∀ x ∈ X, I x.b = none) → (ids X).Nodup →
    Calls P f args w fun e w' => ∃ v J X', e = .returned v ∧ Sat J w' ∧ I.le J ∧ (∀ b, b < w.heap.size → J b = I b) ∧
      FrBut (ids X) w w' ∧ BoxesAt X' w' ∧ ids X' = ids X ∧ R v J X'

theorem Fn.mono {P : Program} {f : FuncId} {args : Array Value} {I : GH} {X : List Bx} {R R' : Value → GH → List Bx → Prop}
    (h : Fn P f args I X R) (hr : ∀ v J X', R v J X' → R' v J X') : Fn P f args I X R' := fun w a b c d =>
  (h w a b c d).mono fun _ _ ⟨v, J, X', h1, h2, h3, h4, h5, h6, h7, h8⟩ => ⟨v, J, X', h1, h2, h3, h4, h5, h6, h7, hr _ _ _ h8⟩

theorem Fn.mono' {P : Program} {f : FuncId} {args : Array Value} {I : GH} {X : List Bx} {R R' : Value → GH → List Bx → Prop}
    (h : Fn P f args I X R) (hr : ∀ v J X', ids X' = ids X → R v J X' → R' v J X') : Fn P f args I X R' := fun w a b c d =>
  (h w a b c d).mono fun _ _ ⟨v, J, X', h1, h2, h3, h4, h5, h6, h7, h8⟩ => ⟨v, J, X', h1, h2, h3, h4, h5, h6, h7, hr _ _ _ h7 h8⟩
theorem ids_nil {X : List Bx} (h : ids X = []) : X = [] := List.map_eq_nil_iff.1 h

theorem lt_of_heap {w : World} {b : Nat} {o : Obj} (h : w.heap[b]? = some o) : b < w.heap.size := by
  rcases Nat.lt_or_ge b w.heap.size with h' | h'
  · exact h'
  · simp [Array.getElem?_eq_none h'] at h

section
variable {w0 : World} {I0 : GH} {X0 : List Nat} {I : GH} {L : List Bx} {w : World}

theorem St.imm (h : St w0 I0 X0 I L w) {b : Nat} {o : Obj} (hb : I b = some o) : w.heap[b]? = some o := h.sat.blk b o hb
theorem St.box (h : St w0 I0 X0 I L w) {x : Bx} (hx : x ∈ L) : w.heap[x.b]? = some (.cells x.cs x.T (0, 0)) := h.bx x hx
theorem St.none_ge (h : St w0 I0 X0 I L w) {b : Nat} (hb : w.heap.size ≤ b) : I b = none := by
  cases e : I b with
  | none => rfl
  | some o => exact absurd (lt_of_heap (h.sat.blk b o e)) (by omega)

/-- A draw, or anything else that leaves the heap. -/
theorem St.same (h : St w0 I0 X0 I L w) {w' : World} (hh : w'.heap = w.heap) (h1 : w'.os = w.os) (h2 : w'.tape = w.tape) (h3 : w'.output = w.output) : St w0 I0 X0 I L w' := by
  refine ⟨⟨fun b o hb => by rw [hh]; exact h.sat.blk b o hb, h.sat.cel⟩, h.le, h.old, ?_, fun x hx => by rw [hh]; exact h.bx x hx, h.own, h.nd⟩
  exact h.fr.trans ⟨h1, h2, h3, by rw [hh]; exact Nat.le_refl _, fun k _ _ => by rw [hh]⟩

theorem heap_push {w : World} {o : Obj} {b : Nat} {x : Obj} (h : w.heap[b]? = some x) : (w.alloc o).heap[b]? = some x := by
  have hb := lt_of_heap h
  show (w.heap.push o)[b]? = _
  rw [Array.getElem?_push, if_neg (by omega)]; exact h

theorem heap_push_new {w : World} {o : Obj} : (w.alloc o).heap[w.heap.size]? = some o := by
  show (w.heap.push o)[w.heap.size]? = _
  simp

theorem FrBut.alloc (X : List Nat) (w : World) (o : Obj) : FrBut X w (w.alloc o) :=
  ⟨rfl, rfl, rfl, by simp, fun k hk _ => by
    show (w.heap.push o)[k]? = _
    rw [Array.getElem?_push, if_neg (by omega)]⟩

/-- A new block as a box of ours. -/
theorem St.alloc (h : St w0 I0 X0 I L w) (cs : Array Value) (T : TypeId) : St w0 I0 X0 I (⟨w.heap.size, cs, T⟩ :: L) (w.alloc (.cells cs T (0, 0))) := by
  refine ⟨⟨fun b o hb => heap_push (h.sat.blk b o hb), h.sat.cel⟩, h.le, h.old, h.fr.trans (.alloc _ _ _), ?_, ?_, ?_⟩
  · intro x hx
    cases hx with
    | head => exact heap_push_new
    | tail _ hx => exact heap_push (h.bx x hx)
  · intro x hx
    cases hx with
    | head => exact ⟨h.none_ge (Nat.le_refl _), .inl h.fr.size⟩
    | tail _ hx => exact h.own x hx
  · refine List.nodup_cons.2 ⟨?_, h.nd⟩
    intro hm
    obtain ⟨x, hx, e⟩ := List.mem_map.1 hm
    have := lt_of_heap (h.bx x hx)
    simp only at e
    omega

def GH.add (I : GH) (b : Nat) (o : Obj) : GH := fun k => bif Nat.beq k b then some o else I k
theorem GH.add_same (I : GH) (b : Nat) (o : Obj) : (I.add b o) b = some o := by simp [GH.add]
theorem GH.add_other (I : GH) {b k : Nat} (o : Obj) (h : k ≠ b) : (I.add b o) k = I k := by
  have : Nat.beq k b = false := by
    cases hb : Nat.beq k b with
    | false => rfl
    | true => exact absurd (Nat.eq_of_beq_eq_true hb) h
  simp [GH.add, this]
theorem GH.le_add {I : GH} {b : Nat} (o : Obj) (h : I b = none) : I.le (I.add b o) := fun k x hk => by
  rw [GH.add_other I o (fun e => by rw [e, h] at hk; cases hk)]; exact hk

/-- A new block that never changes any more. -/
theorem St.fresh (h : St w0 I0 X0 I L w) (o : Obj) (ho : o.isCells = true) : St w0 I0 X0 (I.add w.heap.size o) L (w.alloc o) ∧ I.le (I.add w.heap.size o) := by
  have hn := h.none_ge (Nat.le_refl w.heap.size)
  refine ⟨⟨⟨?_, ?_⟩, h.le.trans (GH.le_add o hn), ?_, h.fr.trans (.alloc _ _ _), fun x hx => heap_push (h.bx x hx), ?_, h.nd⟩, GH.le_add o hn⟩
  · intro b x hb
    by_cases e : b = w.heap.size
    · subst e; rw [GH.add_same] at hb; rw [← hb]; exact heap_push_new
    · rw [GH.add_other I o e] at hb; exact heap_push (h.sat.blk b x hb)
  · intro b x hb
    by_cases e : b = w.heap.size
    · subst e; rw [GH.add_same] at hb; cases hb; exact ho
    · rw [GH.add_other I o e] at hb; exact h.sat.cel b x hb
  · intro b hb
    rw [GH.add_other I o (fun e => by have := h.fr.size; omega)]; exact h.old b hb
  · intro x hx
    have hx' := h.own x hx
    have := lt_of_heap (h.bx x hx)
    exact ⟨by rw [GH.add_other I o (by omega)]; exact hx'.1, hx'.2⟩

/-- A box of our own is changed no more: it goes over to the ghost heap. -/
theorem St.freeze {x : Bx} (h : St w0 I0 X0 I (x :: L) w) (hx : w0.heap.size ≤ x.b) :
    St w0 I0 X0 (I.add x.b (.cells x.cs x.T (0, 0))) L w ∧ I.le (I.add x.b (.cells x.cs x.T (0, 0))) := by
  have hn := (h.own x (.head _)).1
  have hnd := List.nodup_cons.1 (show ((x.b) :: ids L).Nodup from h.nd)
  refine ⟨⟨⟨?_, ?_⟩, h.le.trans (GH.le_add _ hn), ?_, h.fr, fun y hy => h.bx y (.tail _ hy), ?_, hnd.2⟩, GH.le_add _ hn⟩
  · intro b o hb
    by_cases e : b = x.b
    · subst e; rw [GH.add_same] at hb; rw [← hb]; exact h.bx x (.head _)
    · rw [GH.add_other I _ e] at hb; exact h.sat.blk b o hb
  · intro b o hb
    by_cases e : b = x.b
    · subst e; rw [GH.add_same] at hb; cases hb; rfl
    · rw [GH.add_other I _ e] at hb; exact h.sat.cel b o hb
  · intro b hb
    rw [GH.add_other I _ (by omega)]; exact h.old b hb
  · intro y hy
    have hy' := h.own y (.tail _ hy)
    refine ⟨?_, hy'.2⟩
    rw [GH.add_other I _ (fun e => hnd.1 (List.mem_map.2 ⟨y, hy, e⟩))]; exact hy'.1

theorem St.own_ge {x : Bx} (h : St w0 I0 [] I (x :: L) w) : w0.heap.size ≤ x.b := by
  rcases (h.own x (.head _)).2 with h | h
  · exact h
  · cases h

theorem St.perm {L' : List Bx} (h : St w0 I0 X0 I L w) (hp : L.Perm L') : St w0 I0 X0 I L' w :=
  ⟨h.sat, h.le, h.old, h.fr, fun x hx => h.bx x (hp.mem_iff.2 hx), fun x hx => h.own x (hp.mem_iff.2 hx), (hp.map _).nodup_iff.1 h.nd⟩

theorem St.drop {x : Bx} (h : St w0 I0 X0 I (x :: L) w) : St w0 I0 X0 I L w :=
  ⟨h.sat, h.le, h.old, h.fr, fun y hy => h.bx y (.tail _ hy), fun y hy => h.own y (.tail _ hy), (List.nodup_cons.1 (show (x.b :: ids L).Nodup from h.nd)).2⟩

/-- The first box gets other cells. -/
theorem St.put {b : Nat} {cs : Array Value} {T : TypeId} (h : St w0 I0 X0 I (⟨b, cs, T⟩ :: L) w) {w' : World} {cs' : Array Value}
    (hb : w'.heap[b]? = some (.cells cs' T (0, 0))) (hs : w'.heap.size = w.heap.size) (ho : ∀ k, k ≠ b → w'.heap[k]? = w.heap[k]?)
    (h1 : w'.os = w.os) (h2 : w'.tape = w.tape) (h3 : w'.output = w.output) : St w0 I0 X0 I (⟨b, cs', T⟩ :: L) w' := by
  have hw := h.own _ (.head _)
  have hnd := List.nodup_cons.1 (show (b :: ids L).Nodup from h.nd)
  refine ⟨⟨?_, h.sat.cel⟩, h.le, h.old, ?_, ?_, ?_, h.nd⟩
  · intro k o hk
    rw [ho k (fun e => by rw [e] at hk; simp only at hw; rw [hw.1] at hk; cases hk)]; exact h.sat.blk k o hk
  · refine ⟨h1.trans h.fr.os, h2.trans h.fr.tape, h3.trans h.fr.output, by rw [hs]; exact h.fr.size, fun k hk hx => ?_⟩
    rw [ho k (fun e => by subst e; rcases hw.2 with h' | h'; · simp only at h'; omega
                          · exact hx h')]
    exact h.fr.block k hk hx
  · intro y hy
    cases hy with
    | head => exact hb
    | tail _ hy =>
      have hne : y.b ≠ b := fun e => hnd.1 (List.mem_map.2 ⟨y, hy, e⟩)
      rw [ho y.b hne]; exact h.bx y (.tail _ hy)
  · intro y hy
    cases hy with
    | head => exact hw
    | tail _ hy => exact h.own y (.tail _ hy)

/-- Behind a call that meets its contract. -/
theorem St.call {X X' : List Bx} {J : GH} {w' : World} (h : St w0 I0 X0 I (X ++ L) w) (hs : Sat J w') (hle : I.le J)
    (hold : ∀ b, b < w.heap.size → J b = I b) (hf : FrBut (ids X) w w') (hbx : BoxesAt X' w') (hid : ids X' = ids X) : St w0 I0 X0 J (X' ++ L) w' := by
  have hdis : ∀ x ∈ L, x.b ∉ ids X := by
    intro x hx hm
    have := h.nd
    simp only [ids, List.map_append, List.nodup_append] at this
    exact this.2.2 _ hm _ (List.mem_map.2 ⟨x, hx, rfl⟩) rfl
  refine ⟨hs, h.le.trans hle, ?_, ?_, ?_, ?_, ?_⟩
  · intro b hb
    rw [hold b (Nat.lt_of_lt_of_le hb h.fr.size)]; exact h.old b hb
  · refine ⟨hf.os.trans h.fr.os, hf.tape.trans h.fr.tape, hf.output.trans h.fr.output, Nat.le_trans h.fr.size hf.size, fun k hk hx => ?_⟩
    rw [hf.block k (Nat.lt_of_lt_of_le hk h.fr.size) ?_]
    · exact h.fr.block k hk hx
    · intro hm
      obtain ⟨x, hxm, e⟩ := List.mem_map.1 hm
      rcases (h.own x (List.mem_append_left _ hxm)).2 with h' | h'
      · omega
      · exact hx (e ▸ h')
  · intro x hx
    rcases List.mem_append.1 hx with hx | hx
    · exact hbx x hx
    · have hlt := lt_of_heap (h.bx x (List.mem_append_right _ hx))
      rw [hf.block x.b hlt (hdis x hx)]; exact h.bx x (List.mem_append_right _ hx)
  · intro x hx
    rcases List.mem_append.1 hx with hx | hx
    · have hm : x.b ∈ ids X := by rw [← hid]; exact List.mem_map.2 ⟨x, hx, rfl⟩
      obtain ⟨y, hy, e⟩ := List.mem_map.1 hm
      have hlt := lt_of_heap (h.bx y (List.mem_append_left _ hy))
      have := h.own y (List.mem_append_left _ hy)
      rw [← e]
      exact ⟨by rw [hold _ hlt]; exact this.1, this.2⟩
    · have hlt := lt_of_heap (h.bx x (List.mem_append_right _ hx))
      have := h.own x (List.mem_append_right _ hx)
      exact ⟨by rw [hold _ hlt]; exact this.1, this.2⟩
  · have := h.nd
    simp only [ids, List.map_append] at this ⊢
    rw [show List.map (·.b) X' = List.map (·.b) X from hid]; exact this
end

/-! ### Entering, leaving -/
def FnPost (w0 : World) (I0 : GH) (X : List Bx) (R : Value → GH → List Bx → Prop) (e : Ending) (w' : World) : Prop :=
  ∃ v J X', e = .returned v ∧ Sat J w' ∧ I0.le J ∧ (∀ b, b < w0.heap.size → J b = I0 b) ∧ FrBut (ids X) w0 w' ∧ BoxesAt X' w' ∧ ids X' = ids X ∧ R v J X'

def initF (args : List Value) : Nat → Value := fun t => args.getD t undef

theorem init_FA (args : List Value) (n : Nat) (h : args.length ≤ n) :
    ({ tmps := args.toArray ++ Array.replicate (n - args.toArray.size) undef, defers := [] } : Act) = FA (initF args) ⟨n, []⟩ := by
  simp only [FA]
  congr 1
  apply Array.ext
  · simp; omega
  · intro i h1 h2
    simp only [Array.getElem_ofFn, initF]
    by_cases e : i < args.length
    · rw [Array.getElem_append_left (by simpa using e)]; simp [List.getD, e]
    · rw [Array.getElem_append_right (by simpa using e)]; simp [List.getD, e]

/-- The body of a function meets its contract if its walk ends there. -/
theorem enter {P : Program} {f : FuncId} {fn : Func} {c : Code} {args : List Value} {I : GH} {X : List Bx} {R : Value → GH → List Bx → Prop}
    (hf : P.funcs[f]? = some fn) (hb : fn.body = some c) (hn : Nat.ble args.length fn.ntmps = true)
    (h : ∀ w, St w I (ids X) I X w → c.wp P (bodyPost P fn (FnPost w I X R)) (FA (initF args) ⟨fn.ntmps, []⟩) w) : Fn P f args.toArray I X R := by
  intro w hs hx hi hnd
  refine calls_of_wp hf hb ?_
  have := h w ⟨hs, GH.le.refl _, fun _ _ => rfl, FrBut.refl _ _, hx, fun x hx => ⟨hi x hx, .inr (List.mem_map.2 ⟨x, hx, rfl⟩)⟩, hnd⟩
  rw [← init_FA args fn.ntmps (Nat.le_of_ble_eq_true hn)] at this
  exact this

/-- The end: the results are read. X: the boxes that came in, as they are now, stand first. -/
theorem leave {P : Program} {fn : Func} {w0 : World} {I0 I : GH} {X X' L : List Bx} {R : Value → GH → List Bx → Prop} {f : Nat → Value} {n : Fr} {w : World} {v : Value}
    (hs : St w0 I0 (ids X) I (X' ++ L) w) (hid : ids X' = ids X) (hr : (results fn (FA f n).tmps).run P w = .ok v w) (hR : R v I X') (hn : n.ds = [] := by rfl) :
    bodyPost P fn (FnPost w0 I0 X R) .ret (FA f n) w :=
  ⟨hn, v, hr, v, I, X', rfl, hs.sat, hs.le, hs.old, hs.fr, fun x hx => hs.bx x (List.mem_append_left _ hx), hid, hR⟩
theorem leaveN {P : Program} {fn : Func} {w0 : World} {I0 I : GH} {X X' L : List Bx} {R : Value → GH → List Bx → Prop} {f : Nat → Value} {n : Fr} {w : World} {v : Value}
    (hs : St w0 I0 (ids X) I (X' ++ L) w) (hid : ids X' = ids X) (hr : (results fn (FA f n).tmps).run P w = .ok v w) (hR : R v I X') (hn : n.ds = [] := by rfl) :
    bodyPost P fn (FnPost w0 I0 X R) .normal (FA f n) w :=
  ⟨hn, v, hr, v, I, X', rfl, hs.sat, hs.le, hs.old, hs.fr, fun x hx => hs.bx x (List.mem_append_left _ hx), hid, hR⟩

/-! ### Steps of a region in the order of its text -/
/-- What is left of a region, from a frame on (a structure, so that nobody looks into it by chance). -/
structure WL (P : Program) (ops : Array Oper) (Q : Exit → Act → World → Prop) (l : List Oper) (f : Nat → Value) (n : Fr) (w : World) : Prop where
  h : wpList P ops Q l (FA f n) w
/-- One operation, from a frame on. -/
structure OW (P : Program) (o : Oper) (f : Nat → Value) (n : Fr) (w : World) (K : Act → World → Prop) (Q : Exit → Act → World → Prop) : Prop where
  h : o.wp P (FA f n) w K Q
section
variable {P : Program} {ops : Array Oper} {Q : Exit → Act → World → Prop} {rest : List Oper} {f : Nat → Value} {n : Fr} {w w' : World}
  {d : Nat} {op : Op} {ty : TypeId} {pos : String} {af : Array Edge} {v : Value}

theorem wl_nil (h : Q .normal (FA f n) w) : WL P ops Q [] f n w := ⟨h⟩
theorem wl_begin {id : Nat} {l : List Oper} (h : WL P l.toArray Q l f n w) : (Code.region id l.toArray false).wp P Q (FA f n) w := wp_region_lit h.h

theorem sq (hr : (execOp (FA f n).eval ⟨some d, op, ty, pos, af, none⟩).run P w = .ok (.value v) w') (hd : Nat.blt d n.k = true)
    (h : WL P ops Q rest (upd f d v) n w') : WL P ops Q (⟨some d, op, ty, pos, af, none⟩ :: rest) f n w := by
  refine ⟨wpList_plain rfl fun K hK => ?_⟩
  unfold Oper.wp
  rw [hr, Oper.upon_value]
  exact hK _ _ (by rw [FA_put hd]; exact h.h)

/-- An operation under a guard that is met. -/
theorem sqG {g : Nat × Bool} (hg : Region.wanted ⟨some d, op, ty, pos, af, some g⟩ (yielded ops (FA f n).tmps) = true)
    (hr : (execOp (FA f n).eval ⟨some d, op, ty, pos, af, some g⟩).run P w = .ok (.value v) w') (hd : Nat.blt d n.k = true)
    (h : WL P ops Q rest (upd f d v) n w') : WL P ops Q (⟨some d, op, ty, pos, af, some g⟩ :: rest) f n w := by
  refine ⟨wpList_step fun K hK => ?_⟩
  rw [if_pos hg]
  unfold Oper.wp
  rw [hr, Oper.upon_value]
  exact hK _ _ (by rw [FA_put hd]; exact h.h)
theorem sqN {g : Nat × Bool} (hg : Region.wanted ⟨some d, op, ty, pos, af, some g⟩ (yielded ops (FA f n).tmps) = false) (hd : Nat.blt d n.k = true)
    (h : WL P ops Q rest (upd f d undef) n w) : WL P ops Q (⟨some d, op, ty, pos, af, some g⟩ :: rest) f n w := by
  refine ⟨wpList_step fun K hK => ?_⟩
  rw [if_neg (by rw [hg]; exact Bool.false_ne_true)]
  exact hK _ _ (by rw [FA_put hd]; exact h.h)
/-- What a guard reads. -/
theorem wantedAt {o : Oper} {j t : Nat} {want b : Bool} (ho : o.guard = some (j, want)) (hd : (ops[j]?).bind (·.dst) = some t) (ht : Nat.blt t n.k = true) (hv : f t = .bool b) :
    Region.wanted o (yielded ops (FA f n).tmps) = (b == want) := by
  have hg : (FA f n).tmps[t]? = some (.bool b) := by simp [FA, blt_lt ht, hv]
  simp only [Region.wanted, ho, yielded, hd, Option.bind_some, hg]
  cases b <;> cases want <;> rfl
end

/-! ### Steps of a region that draws its order -/
/-- What every world met in the region holds: it is enough for loads. -/
def SS (I : GH) (L : List Bx) (w : World) : Prop := ∃ J : GH, I.le J ∧ Sat J w ∧ BoxesAt L w
theorem SS.imm {I : GH} {L : List Bx} {w : World} (h : SS I L w) {b : Nat} {o : Obj} (hb : I b = some o) : w.heap[b]? = some o :=
  let ⟨_, h1, h2, _⟩ := h; h2.blk b o (h1 b o hb)
theorem SS.box {I : GH} {L : List Bx} {w : World} (h : SS I L w) {x : Bx} (hx : x ∈ L) : w.heap[x.b]? = some (.cells x.cs x.T (0, 0)) :=
  let ⟨_, _, _, h3⟩ := h; h3 x hx
theorem St.ss {w0 : World} {I0 I J : GH} {X0 : List Nat} {L L' : List Bx} {w : World} (h : St w0 I0 X0 J L' w) (hle : I.le J) (hl : ∀ x, x ∈ L → x ∈ L') : SS I L w :=
  ⟨J, hle, h.sat, fun x hx => h.bx x (hl x hx)⟩

def Draw (P : Program) (ops : Array Oper) (Q : Exit → Act → World → Prop) (S : World → Prop) (listed : Array Bool) (a : Act) (w : World) : Prop :=
  ∀ fuel, (List.filter (fun b => !b) listed.toList).length ≤ fuel → wpAnyH P .any ops Q S fuel listed a w

section
variable {P : Program} {ops : Array Oper} {Q : Exit → Act → World → Prop} {f : Nat → Value} {n : Fr} {w w' : World} {S : World → Prop}
  {d : Nat} {op : Op} {ty : TypeId} {pos : String} {af : Array Edge} {v : Value} {listed : Array Bool}

theorem notListed {listed : Array Bool} {i fuel : Nat} (hi : listed.getD i true = false)
    (h : (List.filter (fun b => !b) listed.toList).length ≤ fuel + 1) : (List.filter (fun b => !b) (listed.setIfInBounds i true).toList).length ≤ fuel := by
  have hlt : i < listed.size := by
    rcases Nat.lt_or_ge i listed.size with h' | h'
    · exact h'
    · simp [Array.getD, Nat.not_lt.2 h'] at hi
  have hv : listed.toList[i]? = some false := by
    simp [Array.getD, hlt] at hi
    simp [hlt, hi]
  rw [Array.toList_setIfInBounds]
  generalize listed.toList = l at *
  clear hi hlt
  induction l generalizing i fuel with
  | nil => simp at hv
  | cons x xs ih =>
    cases i with
    | zero => simp at hv; subst hv; simp at h ⊢; omega
    | succ i =>
      simp only [List.getElem?_cons_succ] at hv
      simp only [List.set_cons_succ]
      cases x with
      | true => simp at h ⊢; exact ih h hv
      | false =>
        have hp : 0 < (List.filter (fun b => !b) xs).length := List.length_pos_of_mem (List.mem_filter.2 ⟨List.mem_of_getElem? hv, rfl⟩)
        have h' : (List.filter (fun b => !b) xs).length ≤ fuel := by
          have e : (List.filter (fun b => !b) (false :: xs)).length = (List.filter (fun b => !b) xs).length + 1 := by simp
          omega
        obtain ⟨k, rfl⟩ : ∃ k, fuel = k + 1 := ⟨fuel - 1, by omega⟩
        have := ih h' hv
        simp
        omega

theorem fuel_pos {listed : Array Bool} {i fuel : Nat} (hi : listed.getD i true = false)
    (h : (List.filter (fun b => !b) listed.toList).length ≤ fuel) : ∃ k, fuel = k + 1 := by
  cases fuel with
  | succ k => exact ⟨k, rfl⟩
  | zero =>
    exfalso
    have hlt : i < listed.size := by
      rcases Nat.lt_or_ge i listed.size with h' | h'
      · exact h'
      · simp [Array.getD, Nat.not_lt.2 h'] at hi
    have hm : false ∈ listed.toList := by
      simp [Array.getD, hlt] at hi
      rw [← hi]; simp
    have := List.length_pos_of_mem (List.mem_filter.2 ⟨hm, rfl⟩ : false ∈ List.filter (fun b => !b) listed.toList)
    omega

theorem draw_begin {id : Nat} {l : List Oper} (hm : P.follows .mixedOrders = true)
    (h : Draw P l.toArray Q S (Array.replicate l.length false) (FA f n) { w with drawn := w.drawn + 1 }) : (Code.region id l.toArray true).wp P Q (FA f n) w := by
  refine wp_region_held (S := S) hm ?_
  simp only [List.size_toArray]
  exact h _ (by simp)

theorem getD_of_ready {i : Nat} (h : (Region.ready .any ops listed).contains i = true) : listed.getD i true = false := by
  have : i ∈ Region.ready .any ops listed := by simpa using h
  exact (mem_ready.1 this).1

theorem draw_take (i : Nat) {oi : Oper} (hi : ops[i]? = some oi) (hs : Region.noSelect ops = true) (hf : Region.free .any ops listed i = true)
    (hr : (Region.ready .any ops listed).contains i = true) (hdst : oi.dst = some d) (hd : Nat.blt d n.k = true)
    (hQ : ∀ c a w, Q (.panic c) (a.put oi.dst v) w → Q (.panic c) a w)
    (hy : YieldsIf P ops S oi v (FA f n)) (hS : S w)
    (h : Draw P ops Q S (listed.setIfInBounds i true) (FA (upd f d v) n) w) : Draw P ops Q S listed (FA f n) w := by
  intro fuel hfuel
  have h0 := getD_of_ready hr
  obtain ⟨k, rfl⟩ := fuel_pos h0 hfuel
  refine wpAnyH_take hi hs hf hr hQ hy hS ?_
  rw [hdst, FA_put hd]
  exact h k (notListed h0 hfuel)

theorem draw_done (hr : Region.ready .any ops listed = []) (h : Q .normal (FA f n) w) : Draw P ops Q S listed (FA f n) w :=
  fun fuel _ => wpAnyH_done hr h fuel

/-- Whichever may come up now. -/
theorem draw_all (rs : List Nat) (hr : Region.ready .any ops listed = rs) (hne : rs.isEmpty = false)
    (h : ∀ i ∈ rs, wpOp P ops Q i (fun a' w' => S w' ∧ Draw P ops Q S (listed.setIfInBounds i true) a' w') (FA f n) w) : Draw P ops Q S listed (FA f n) w := by
  intro fuel hfuel
  have hpos : ∃ i, i ∈ rs := by
    cases rs with
    | nil => cases hne
    | cons i t => exact ⟨i, .head _⟩
  obtain ⟨i0, hi0⟩ := hpos
  have h0 : listed.getD i0 true = false := (mem_ready.1 (hr ▸ hi0)).1
  obtain ⟨k, rfl⟩ := fuel_pos h0 hfuel
  refine wpAnyH_all hr (fun e => by rw [e] at hne; cases hne) fun i hi => ?_
  have hg : listed.getD i true = false := (mem_ready.1 (hr ▸ hi)).1
  exact wpOp_mono (fun a' w' h' => ⟨h'.1, h'.2 k (notListed hg hfuel)⟩) (h i hi)

theorem wpOp_of {i : Nat} {o : Oper} {K : Act → World → Prop} {a : Act} (hi : ops[i]? = some o) (hg : o.guard = none) (h : o.wp P a w K Q) : wpOp P ops Q i K a w := by
  unfold wpOp
  simp only [hi, Region.wanted, hg, if_true]
  exact .inl h
end

/-! ### Loops -/
theorem lp {P : Program} {c : Code} {Q : Exit → Act → World → Prop} {f : Nat → Value} {n : Fr} {w : World} {σ : Type}
    (Inv : σ → (Nat → Value) → World → Prop) (μ : σ → Nat) (x0 : σ) (h0 : Inv x0 f w)
    (round : ∀ x f w, Inv x f w → c.wp P (Exit.then (fun a' w' => ∃ x' f', a' = FA f' n ∧ Inv x' f' w' ∧ μ x' < μ x) Q) (FA f n) w) :
    (Code.loop c).wp P Q (FA f n) w := by
  have key : ∀ m x f w, μ x < m → Inv x f w → Code.rounds P c Q m (FA f n) w := by
    intro m
    induction m with
    | zero => intro x f w h; omega
    | succ m ih =>
      intro x f w h hI
      rw [rounds_succ]
      refine Code.wp_mono ?_ (round x f w hI)
      intro e a' w' q
      cases e with
      | normal =>
        obtain ⟨x', f', rfl, hI', hlt⟩ := q
        exact ih x' f' w' (by omega) hI'
      | _ => exact q
  exact wp_loop_rounds _ (key (μ x0 + 1) x0 f w (by omega) h0)

/-! ### Control -/
section
variable {P : Program} {Q : Exit → Act → World → Prop} {f : Nat → Value} {n : Fr} {w : World}
theorem condT {c : Operand} {x y : Code} (hok : okO n c = true) (hc : ev f c = .bool true) (h : x.wp P Q (FA f n) w) : (Code.cond c x y).wp P Q (FA f n) w :=
  wp_cond_true (by rw [FA_eval hok]; exact hc) h
theorem condF {c : Operand} {x y : Code} (hok : okO n c = true) (hc : ev f c = .bool false) (h : y.wp P Q (FA f n) w) : (Code.cond c x y).wp P Q (FA f n) w :=
  wp_cond_false (by rw [FA_eval hok]; exact hc) h
theorem condS {c : Operand} {x y : Code} {t : Bool} (hok : okO n c = true) (hc : ev f c = .bool t) (h1 : t = true → x.wp P Q (FA f n) w) (h2 : t = false → y.wp P Q (FA f n) w) :
    (Code.cond c x y).wp P Q (FA f n) w := wp_cond_split (by rw [FA_eval hok]; exact hc) h1 h2
end
end Go.Proofs.YtlnlodfnplkckaaDoor
/- What each kind of operation comes to, over any program, in the words of the engine. Each theorem's conditions stand in it. -/
namespace Go.Proofs.YtlnlodfnplkckaaDoor

/-! ### Facts on types, as Bools that the kernel reckons -/
def scalT (P : Program) (t : TypeId) : Bool :=
  match P.underlying t with
  | some (.struct _) => false
  | some (.array _ _) => false
  | some _ => true
  | none => false
def aggT (P : Program) (t : TypeId) (n : Nat) : Bool :=
  match P.underlying t with
  | some (.struct _) => (match P.info? t with | some i => Nat.beq i.size n | none => false)
  | some (.array _ _) => (match P.info? t with | some i => Nat.beq i.size n | none => false)
  | _ => false
def sizT (P : Program) (t : TypeId) (n : Nat) : Bool := match P.info? t with | some i => Nat.beq i.size n | none => false
def offF (P : Program) (s k off : Nat) : Bool :=
  match P.underlying s with
  | some (.struct fs) => (match fs[k]? with
    | some f => (match P.info? f.type with | some i => !Nat.beq i.size 0 && Nat.beq f.offset off | none => false)
    | none => false)
  | _ => false
def slcT (P : Program) (t e sz : Nat) : Bool :=
  match P.underlying t with
  | some (.slice e') => Nat.beq e' e && sizT P e sz
  | _ => false
def arrT (P : Program) (t len e sz : Nat) : Bool :=
  match P.underlying t with
  | some (.array l e') => Nat.beq l len && Nat.beq e' e && sizT P e sz
  | _ => false
def isGo (P : Program) (g : FuncId) : Bool :=
  match P.funcs[g]? with
  | some fn => fn.body.isSome && !(fn.name == "runtime.NumGoroutine")
  | none => false

theorem scalT_spec {P : Program} {t : TypeId} (h : scalT P t = true) (w : World) : (isAgg t).run P w = .ok false w := by
  unfold scalT at h
  cases hu : P.underlying t with
  | none => simp [hu] at h
  | some d =>
    simp only [isAgg, Sem.run_bind, run_underlying hu, Result.andThen_ok]
    cases d <;> simp [hu] at h ⊢
theorem aggT_spec {P : Program} {t : TypeId} {n : Nat} (h : aggT P t n = true) (w : World) : (isAgg t).run P w = .ok true w ∧ (sizeOf t).run P w = .ok n w := by
  unfold aggT at h
  cases hu : P.underlying t with
  | none => simp [hu] at h
  | some d =>
    cases hi : P.info? t with
    | none => cases d <;> simp [hu, hi] at h
    | some i =>
      have hs : (isAgg t).run P w = .ok true w ∧ i.size = n := by
        simp only [isAgg, Sem.run_bind, run_underlying hu, Result.andThen_ok]
        cases d <;> simp [hu, hi] at h ⊢ <;> exact h
      refine ⟨hs.1, ?_⟩
      simp [sizeOf, run_typeInfo _ hi, hs.2]
theorem sizT_spec {P : Program} {t : TypeId} {n : Nat} (h : sizT P t n = true) (w : World) : (sizeOf t).run P w = .ok n w := by
  unfold sizT at h
  cases hi : P.info? t with
  | none => simp [hi] at h
  | some i => simp [hi] at h; simp [sizeOf, run_typeInfo _ hi, h]

theorem cell_of {w : World} {b : Nat} {cs : Array Value} {T : TypeId} {fz : Nat × Nat} (h : w.heap[b]? = some (.cells cs T fz)) (o : Nat) : w.cell? ⟨b, o, none⟩ = cs[o]? := by
  simp [World.cell?, h]

section
variable {P : Program} {f : Nat → Value} {n : Fr} {w : World} {d : Option Tmp} {ty : TypeId} {pos : String} {af : Array Edge} {g : Option (Nat × Bool)}

theorem r_move {x : Operand} (hx : okO n x = true) : (execOp (FA f n).eval ⟨d, .move x, ty, pos, af, g⟩).run P w = .ok (.value (ev f x)) w := by
  simp [execOp, FA_eval hx]
theorem r_assign {x : Operand} (hx : okO n x = true) : (execOp (FA f n).eval ⟨d, .assign x, ty, pos, af, g⟩).run P w = .ok (.value (ev f x)) w := by
  simp [execOp, FA_eval hx]
theorem r_pick {c x y : Operand} {b : Bool} (hc : okO n c = true) (hx : okO n x = true) (hy : okO n y = true) (h : ev f c = .bool b) :
    (execOp (FA f n).eval ⟨d, .pick c x y, ty, pos, af, g⟩).run P w = .ok (.value (bif b then ev f x else ev f y)) w := by
  cases b <;> simp [execOp, FA_eval hc, FA_eval hx, FA_eval hy, h, asBool]
theorem r_extract {x : Operand} {i : Nat} {vs : Array Value} {v : Value} (hx : okO n x = true) (h : ev f x = .tuple vs) (hv : vs[i]? = some v) :
    (execOp (FA f n).eval ⟨d, .extract x i, ty, pos, af, g⟩).run P w = .ok (.value v) w := by
  simp [execOp, FA_eval hx, h, Instr.extract, hv]
theorem r_nilCheck {x : Operand} {a : Addr} (hx : okO n x = true) (h : ev f x = .pointer (some a)) :
    (execOp (FA f n).eval ⟨d, .nilCheck x, ty, pos, af, g⟩).run P w = .ok (.value (.pointer (some a))) w := by
  simp [execOp, FA_eval hx, h]
theorem r_not {x : Operand} {t : TypeId} {b : Bool} (hx : okO n x = true) (h : ev f x = .bool b) :
    (execOp (FA f n).eval ⟨d, .unOp .not t x, ty, pos, af, g⟩).run P w = .ok (.value (.bool (!b))) w := by
  simp [execOp, FA_eval hx, h, Op.unary]

theorem r_fieldAddr {s k off b o : Nat} {x : Operand} (hx : okO n x = true) (hF : offF P s k off = true) (h : ev f x = .pointer (some ⟨b, o, none⟩)) :
    (execOp (FA f n).eval ⟨d, .fieldAddr s x k, ty, pos, af, g⟩).run P w = .ok (.value (.pointer (some ⟨b, o + off, none⟩))) w := by
  unfold offF at hF
  cases hu : P.underlying s with
  | none => simp [hu] at hF
  | some dd =>
    cases dd <;> simp [hu] at hF
    rename_i fs
    cases hf : fs[k]? with
    | none => simp [hf] at hF
    | some ff =>
      cases hi : P.info? ff.type with
      | none => simp [hf, hi] at hF
      | some i =>
        simp [hf, hi] at hF
        obtain ⟨h0, h1⟩ := hF
        have hs : ∀ w : World, (sizeOf ff.type).run P w = .ok i.size w := fun w => by simp [sizeOf, run_typeInfo _ hi]
        simp only [execOp, FA_eval hx, h, Instr.fieldAt, Sem.run_bind, run_underlying hu, Result.andThen_ok, hf]
        simp only [Instr.sureAddr, fieldPlace, Sem.run_bind, Sem.run_pure, Result.andThen_ok, hs]
        have : ¬ i.size = 0 := fun e => by rw [e] at h0; cases h0
        simp only [this, if_false]
        simp only [Sem.run_pure, Result.andThen_ok, Addr.add]
        subst h1
        by_cases e : ff.offset = 0
        · simp [e]
        · simp [e]

theorem r_load {t b o : Nat} {x : Operand} {cs : Array Value} {T : TypeId} {fz : Nat × Nat} {v : Value} (hx : okO n x = true) (hT : scalT P t = true)
    (h : ev f x = .pointer (some ⟨b, o, none⟩)) (hb : w.heap[b]? = some (.cells cs T fz)) (hv : cs[o]? = some v) :
    (execOp (FA f n).eval ⟨d, .load t x, ty, pos, af, g⟩).run P w = .ok (.value v) w := by
  have hc : w.cell? ⟨b, o, none⟩ = some v := by rw [cell_of hb, hv]
  simp [execOp, FA_eval hx, h, Instr.loadAt, Instr.sureAddr, loadVar, scalT_spec hT, Go.load, Sem.run, hc]

theorem run_loadCellsFrom {b o : Nat} {vs : List Value} : ∀ (i : Nat) (acc : Array Value), (∀ j u, vs[j]? = some u → w.cell? ⟨b, o + i + j, none⟩ = some u) →
    (loadCellsFrom ⟨b, o, none⟩ i vs.length acc).run P w = .ok (acc ++ vs.toArray) w := by
  induction vs with
  | nil => intro i acc _; simp [loadCellsFrom]
  | cons u us ih =>
    intro i acc h
    have h0 : w.cell? (Addr.add ⟨b, o, none⟩ i) = some u := by
      have := h 0 u rfl
      unfold Addr.add
      by_cases e : i = 0
      · subst e; simpa using this
      · simpa [e] using this
    have := ih (i + 1) (acc.push u) (fun j x hj => by have := h (j + 1) x (by simpa using hj); rw [show o + (i + 1) + j = o + i + (j + 1) by omega]; exact this)
    simp only [List.length_cons, loadCellsFrom, Sem.run_bind, Go.load, Sem.run, h0, Result.andThen_ok, this]
    simp

theorem run_loadCells {b o m : Nat} {vs : List Value} (hm : vs.length = m) (h : ∀ j u, vs[j]? = some u → w.cell? ⟨b, o + j, none⟩ = some u) :
    (loadCells ⟨b, o, none⟩ m).run P w = .ok vs.toArray w := by
  subst hm
  have := run_loadCellsFrom (P := P) (w := w) (b := b) (o := o) (vs := vs) 0 #[] (fun j u hj => by simpa using h j u hj)
  simpa [loadCells] using this

theorem r_loadN {t b o m : Nat} {x : Operand} {cs : Array Value} {T : TypeId} {fz : Nat × Nat} {vs : List Value} (hx : okO n x = true) (hT : aggT P t m = true)
    (h : ev f x = .pointer (some ⟨b, o, none⟩)) (hb : w.heap[b]? = some (.cells cs T fz)) (hv : (cs.toList.drop o).take m = vs) (hm : vs.length = m) :
    (execOp (FA f n).eval ⟨d, .load t x, ty, pos, af, g⟩).run P w = .ok (.value (.agg vs.toArray)) w := by
  have hl := run_loadCells (P := P) (w := w) (b := b) (o := o) hm (fun j u hj => by
    rw [cell_of hb, ← hj, ← hv, List.getElem?_take, List.getElem?_drop]
    have : j < m := by
      rw [← hm]
      rcases Nat.lt_or_ge j vs.length with h' | h'
      · exact h'
      · simp [List.getElem?_eq_none h'] at hj
    simp [this])
  simp [execOp, FA_eval hx, h, Instr.loadAt, Instr.sureAddr, loadVar, (aggT_spec hT _).1, (aggT_spec hT _).2, hl]
end

/-! ### New blocks -/
section
variable {P : Program} {f : Nat → Value} {n : Fr} {w : World} {d : Option Tmp} {ty : TypeId} {pos : String} {af : Array Edge} {g : Option (Nat × Bool)}
theorem run_newRow (T : TypeId) (cs : Array Value) : (newRow T cs).run P w = .ok ⟨w.heap.size, 0, none⟩ (w.alloc (.cells cs T (0, 0))) := by
  rfl
theorem r_box {T : TypeId} {x : Operand} {cs : Array Value} (hx : okO n x = true) (hc : (ev f x).cells = cs) :
    (execOp (FA f n).eval ⟨d, .box T x, ty, pos, af, g⟩).run P w = .ok (.value (.pointer (some ⟨w.heap.size, 0, none⟩))) (w.alloc (.cells cs T (0, 0))) := by
  subst hc
  simp [execOp, FA_eval hx, Instr.box, newVar, run_newRow]
def zeroT (P : Program) (T : TypeId) : Option (List Value) := (P.info? T).bind fun i => i.zero.map fun z => z.cells.toList
theorem r_alloc {T : TypeId} {cs : List Value} (hz : zeroT P T = some cs) :
    (execOp (FA f n).eval ⟨d, .alloc T, ty, pos, af, g⟩).run P w = .ok (.value (.pointer (some ⟨w.heap.size, 0, none⟩))) (w.alloc (.cells cs.toArray T (0, 0))) := by
  unfold zeroT at hz
  cases hi : P.info? T with
  | none => simp [hi] at hz
  | some i =>
    cases hzz : i.zero with
    | none => simp [hi, hzz] at hz
    | some z =>
      simp [hi, hzz] at hz
      subst hz
      simp [execOp, Instr.alloc, zeroValue, run_typeInfo _ hi, hzz, newVar, run_newRow]

/-! ### Stores into a box -/
theorem heap_setCell_same {w : World} {b o : Nat} {cs : Array Value} {T : TypeId} {fz : Nat × Nat} (h : w.heap[b]? = some (.cells cs T fz)) (v : Value) :
    (w.setCell ⟨b, o, none⟩ v).heap[b]? = some (.cells (cs.setIfInBounds o v) T fz) := by
  simp [World.setCell, Array.getElem?_modify, h]
theorem heap_setCell_other {w : World} {b o k : Nat} (v : Value) (h : k ≠ b) : (w.setCell ⟨b, o, none⟩ v).heap[k]? = w.heap[k]? := by
  simp only [World.setCell, Array.getElem?_modify]
  rw [if_neg (by simpa using Ne.symm h)]

/-- What a store of several cells makes of a block's cells. -/
def putAll (cs : Array Value) (o : Nat) : List Value → Array Value
  | [] => cs
  | v :: vs => putAll (cs.setIfInBounds o v) (o + 1) vs
/-- One value that is one cell. -/
def One (v : Value) : Prop := (match v with | .agg _ => False | .tuple _ => False | _ => True)
theorem One.cells {v : Value} (h : One v) : v.cells = #[v] := by cases v <;> first | rfl | exact h.elim

/-- The world behind it: block b has other cells, all else stays. -/
structure Put1 (w w' : World) (b : Nat) (cs' : Array Value) (T : TypeId) : Prop where
  blk : w'.heap[b]? = some (.cells cs' T (0, 0))
  size : w'.heap.size = w.heap.size
  other : ∀ k, k ≠ b → w'.heap[k]? = w.heap[k]?
  os : w'.os = w.os
  tape : w'.tape = w.tape
  output : w'.output = w.output

theorem run_storeCells {b o : Nat} {T : TypeId} : ∀ (vs : List Value) (i : Nat) (cs : Array Value) (w : World), w.heap[b]? = some (.cells cs T (0, 0)) → o + i + vs.length ≤ cs.size → (∀ v ∈ vs, One v) →
    ∃ w', (storeCells ⟨b, o, none⟩ vs i).run P w = .ok () w' ∧ Put1 w w' b (putAll cs (o + i) vs) T := by
  intro vs
  induction vs with
  | nil => intro i cs w h _ _; exact ⟨w, by simp [storeCells], ⟨h, rfl, fun _ _ => rfl, rfl, rfl, rfl⟩⟩
  | cons v vs ih =>
    intro i cs w h hl h1
    have ha : Addr.add ⟨b, o, none⟩ i = ⟨b, o + i, none⟩ := by
      unfold Addr.add
      by_cases e : i = 0
      · subst e; simp
      · simp [e]
    simp only [List.length_cons] at hl
    have hc : w.cell? ⟨b, o + i, none⟩ = some cs[o + i] := by rw [cell_of h]; simp
    have hfz : w.frozen? ⟨b, o + i, none⟩ = false := by simp [World.frozen?, h]
    obtain ⟨w', hr, hp⟩ := ih (i + 1) (cs.setIfInBounds (o + i) v) (w.setCell ⟨b, o + i, none⟩ v) (heap_setCell_same h v) (by simp; omega) (fun x hx => h1 x (.tail _ hx))
    have h1v := h1 v (.head _)
    refine ⟨w', ?_, hp.blk, hp.size.trans (by simp), fun k hk => (hp.other k hk).trans (heap_setCell_other v hk), hp.os, hp.tape, hp.output⟩
    simp only [storeCells, Sem.run_bind, Go.store, ha]
    have hst : (Sem.store Mode.plain ⟨b, o + i, none⟩ v (.pure ())).run P w = .ok () (w.setCell ⟨b, o + i, none⟩ v) := by
      cases v <;> first | exact h1v.elim | simp [Sem.run, hc, hfz]
    rw [hst, Result.andThen_ok]
    exact hr

theorem r_store {T b o : Nat} {x y : Operand} {cs : Array Value} {E : TypeId} {vs : List Value} (hx : okO n x = true) (hy : okO n y = true) (hT : sizT P T vs.length = true)
    (h : ev f x = .pointer (some ⟨b, o, none⟩)) (hv : (ev f y).cells.toList = vs) (h1 : ∀ v ∈ vs, One v)
    (hb : w.heap[b]? = some (.cells cs E (0, 0))) (hl : Nat.ble (o + vs.length) cs.size = true) :
    ∃ w', (execOp (FA f n).eval ⟨d, .store T x y, ty, pos, af, g⟩).run P w = .ok .skip w' ∧ Put1 w w' b (putAll cs o vs) E := by
  have hl := Nat.le_of_ble_eq_true hl
  obtain ⟨w', hr, hp⟩ := run_storeCells (P := P) (b := b) (o := o) (T := E) vs 0 cs w hb (by simpa using hl) h1
  refine ⟨w', ?_, by simpa using hp⟩
  have hsz : (ev f y).cells.size = vs.length := by rw [← hv]; simp
  simp [execOp, FA_eval hx, FA_eval hy, h, Instr.storeAt, Instr.sureAddr, storeVar, sizT_spec hT, hsz, hv, hr]
end

/-! ### Values made of parts -/
/-- The parts' cells, one by one. -/
inductive PC (f : Nat → Value) (n : Fr) : List (Nat × Operand) → List (Nat × Array Value) → Prop where
  | nil : PC f n [] []
  | cons {i : Nat} {x : Operand} {c : Array Value} {l : List (Nat × Operand)} {m : List (Nat × Array Value)} (hx : okO n x = true) (h : (ev f x).cells = c) (r : PC f n l m) : PC f n ((i, x) :: l) ((i, c) :: m)

def fillC (place : Nat → Option (Nat × Nat)) (cells : Array Value) : List (Nat × Array Value) → Option (Array Value)
  | [] => some cells
  | (i, v) :: rest =>
    match place i with
    | none => none
    | some (off, size) =>
      if v.size ≠ size || off + v.size > cells.size then none
      else fillC place (v.zipIdx.foldl (fun cs (c, j) => cs.setIfInBounds (off + j) c) cells) rest
theorem fill_eq {f : Nat → Value} {n : Fr} {place : Nat → Option (Nat × Nat)} {l : List (Nat × Operand)} {m : List (Nat × Array Value)} (h : PC f n l m) :
    ∀ cells, Instr.fill place cells (l.map fun (i, x) => (i, (FA f n).eval x)) = fillC place cells m := by
  induction h with
  | nil => intro cells; rfl
  | @cons i x c l m hx hc r ih =>
    intro cells
    simp only [List.map_cons, Instr.fill, fillC, FA_eval hx, hc]
    cases place i with
    | none => rfl
    | some p => simp only [ih]
def bldC (P : Program) (t : TypeId) (m : List (Nat × Array Value)) : Option (Array Value) :=
  match P.info? t, P.underlying t with
  | some it, some (.array _ e) =>
    match it.zero, P.info? e with
    | some z, some ie => fillC (fun i => some (i * ie.size, ie.size)) z.cells m
    | _, _ => none
  | some it, some (.struct fields) =>
    match it.zero, fields.toList.mapM (fun f => (P.info? f.type).map fun i => (f.offset, i.size)) with
    | some z, some places => fillC (places.toArray[·]?) z.cells m
    | _, _ => none
  | _, _ => none
def slcC (P : Program) (t len : Nat) (m : List (Nat × Array Value)) (e : Nat) : Option (Array Value) :=
  match P.underlying t with
  | some (.slice e') =>
    if Nat.beq e' e then
      match P.info? e with
      | some ie =>
        (match ie.zero with
        | some z => if Nat.blt 0 (len * ie.size) && Nat.blt (len * ie.size) 16777217 then fillC (fun i => some (i * ie.size, ie.size)) ((Array.range (len * ie.size)).map (z.cells[· % z.cells.size]!)) m else none
        | none => none)
      | none => none
    else none
  | _ => none
section
variable {P : Program} {f : Nat → Value} {n : Fr} {w : World} {d : Option Tmp} {ty : TypeId} {pos : String} {af : Array Edge} {g : Option (Nat × Bool)}
theorem r_build {t : TypeId} {l : List (Nat × Operand)} {m : List (Nat × Array Value)} {cells : Array Value} (hp : PC f n l m) (h : bldC P t m = some cells) :
    (execOp (FA f n).eval ⟨d, .build t l.toArray, ty, pos, af, g⟩).run P w = .ok (.value (.agg cells)) w := by
  have hb : P.built t (l.toArray.map fun (i, x) => (i, (FA f n).eval x)).toList = some cells := by
    rw [← h]
    unfold Program.built bldC
    simp only [Array.toList_map]
    cases P.info? t with
    | none => rfl
    | some it =>
      cases P.underlying t with
      | none => rfl
      | some dd => cases dd <;> simp only [fill_eq hp] <;> rfl
  have := run_build (P := P) w t _ cells hb
  simp only [execOp, Sem.run_bind, this, Result.andThen_ok]
  rfl
theorem r_buildSlice {t e len : Nat} {l : List (Nat × Operand)} {m : List (Nat × Array Value)} {cells : Array Value} (hp : PC f n l m) (h : slcC P t len m e = some cells) :
    (execOp (FA f n).eval ⟨d, .buildSlice t len l.toArray, ty, pos, af, g⟩).run P w = .ok (.value (.slice (some ⟨w.heap.size, 0, none⟩) len len)) (w.alloc (.cells cells e (0, 0))) := by
  unfold slcC at h
  cases hu : P.underlying t with
  | none => simp [hu] at h
  | some dd =>
    cases dd <;> simp only [hu] at h <;> try (cases h; done)
    rename_i e'
    split at h
    · rename_i he
      have he := Nat.eq_of_beq_eq_true he
      subst he
      cases hi : P.info? e' with
      | none => simp [hi] at h
      | some ie =>
        cases hz : ie.zero with
        | none => simp [hi, hz] at h
        | some z =>
          simp only [hi, hz] at h
          split at h
          · rename_i hb
            simp only [Bool.and_eq_true] at hb
            have h1 := blt_lt hb.1
            have h2 := blt_lt hb.2
            have := run_buildSlice (P := P) w t e' len (l.toArray.map fun (i, x) => (i, (FA f n).eval x)) cells ie z hu hi hz (by omega) (by omega) (by rw [Array.toList_map]; simp only; rw [fill_eq hp, h])
            simp only [execOp, Sem.run_bind, this, Result.andThen_ok]
            rfl
          · cases h
    · cases h
end
end Go.Proofs.YtlnlodfnplkckaaDoor
/- The engine's steps that change the world, and more operations, over any program. Each theorem's conditions stand in it. -/
namespace Go.Proofs.YtlnlodfnplkckaaDoor

inductive Ones : List Value → Prop where
  | nil : Ones []
  | cons {v : Value} {l : List Value} (h : One v) (r : Ones l) : Ones (v :: l)
theorem Ones.all {l : List Value} (h : Ones l) : ∀ v ∈ l, One v := by
  induction h with
  | nil => intro v hv; cases hv
  | cons h _ ih => intro v hv; cases hv with
    | head => exact h
    | tail _ hv => exact ih v hv
theorem bsplit {p : Prop} (b : Bool) (h1 : b = true → p) (h2 : b = false → p) : p := by
  cases b with
  | true => exact h1 rfl
  | false => exact h2 rfl

/-! ### One operation -/
section
variable {P : Program} {Q : Exit → Act → World → Prop} {K : Act → World → Prop} {f : Nat → Value} {n : Fr} {w w' : World}
  {d : Nat} {op : Op} {ty : TypeId} {pos : String} {af : Array Edge} {v : Value} {g : Option (Nat × Bool)}
  {w0 : World} {I0 I : GH} {X0 : List Nat} {X L : List Bx}

theorem ow_val (hr : (execOp (FA f n).eval ⟨some d, op, ty, pos, af, g⟩).run P w = .ok (.value v) w') (hd : Nat.blt d n.k = true) (h : K (FA (upd f d v) n) w') :
    OW P ⟨some d, op, ty, pos, af, g⟩ f n w K Q := by
  constructor
  unfold Oper.wp
  rw [hr, Oper.upon_value, FA_put hd]
  exact h

/-- A new block that stays a box of ours. -/
theorem ow_newbox {mk : Nat → Value} {cs : Array Value} {T : TypeId} (hs : St w0 I0 X0 I L w)
    (hr : (execOp (FA f n).eval ⟨some d, op, ty, pos, af, g⟩).run P w = .ok (.value (mk w.heap.size)) (w.alloc (.cells cs T (0, 0)))) (hd : Nat.blt d n.k = true)
    (k : ∀ b w', St w0 I0 X0 I (⟨b, cs, T⟩ :: L) w' → K (FA (upd f d (mk b)) n) w') : OW P ⟨some d, op, ty, pos, af, g⟩ f n w K Q :=
  ow_val hr hd (k _ _ (hs.alloc cs T))
/-- A new block that never changes any more. -/
theorem ow_newimm {mk : Nat → Value} {o : Obj} (hs : St w0 I0 X0 I L w)
    (hr : (execOp (FA f n).eval ⟨some d, op, ty, pos, af, g⟩).run P w = .ok (.value (mk w.heap.size)) (w.alloc o)) (hd : Nat.blt d n.k = true)
    (k : ∀ b J w', J b = some o → I.le J → St w0 I0 X0 J L w' → w0.heap.size ≤ b → K (FA (upd f d (mk b)) n) w') (ho : o.isCells = true := by rfl) : OW P ⟨some d, op, ty, pos, af, g⟩ f n w K Q :=
  ow_val hr hd (k _ _ _ (GH.add_same _ _ _) (hs.fresh o ho).2 (hs.fresh o ho).1 hs.fr.size)
/-- A store into the box that stands first. -/
theorem ow_store {T b o : Nat} {x y : Operand} {cs : Array Value} {E : TypeId} {vs : List Value} (hs : St w0 I0 X0 I (⟨b, cs, E⟩ :: L) w) (hx : okO n x = true) (hy : okO n y = true)
    (hT : sizT P T vs.length = true) (h : ev f x = .pointer (some ⟨b, o, none⟩)) (hv : (ev f y).cells.toList = vs) (h1 : Ones vs) (hl : Nat.ble (o + vs.length) cs.size = true)
    (k : ∀ w', St w0 I0 X0 I (⟨b, putAll cs o vs, E⟩ :: L) w' → K (FA f n) w') : OW P ⟨none, .store T x y, ty, pos, af, g⟩ f n w K Q := by
  obtain ⟨w', hr, hp⟩ := r_store (P := P) (d := none) (ty := ty) (pos := pos) (af := af) (g := g) hx hy hT h hv h1.all (hs.bx _ (.head _)) hl
  constructor
  unfold Oper.wp
  rw [hr, Oper.upon_skip]
  exact k w' (hs.put hp.blk hp.size hp.other hp.os hp.tape hp.output)

theorem run_callFunc {gf : FuncId} {vs : Array Value} (hg : isGo P gf = true) : (callFunc gf vs).run P w = .ok (.enter gf vs) w := by
  unfold isGo at hg
  cases hf : P.funcs[gf]? with
  | none => simp [hf] at hg
  | some fn =>
    simp only [hf, Bool.and_eq_true, Bool.not_eq_true'] at hg
    have h1 : fn.body.isNone = false := by simpa using hg.1
    simp only [callFunc, Sem.run_bind]
    show Sem.run P (match P.funcs[gf]? with | none => _ | some fn => _) w = _
    simp only [hf, hg.2, h1, Bool.false_eq_true, if_false]
    rfl

theorem run_extern {gf : FuncId} {fn : Func} {e : Array Value → Sem Value} {vs : Array Value} {v : Value} (hf : P.funcs[gf]? = some fn) (h1 : (fn.name == "runtime.NumGoroutine") = false) (h2 : fn.body.isNone = true)
    (h3 : Extern.findNext fn = none) (h4 : Extern.find fn = some e) (hr : (e vs).run P w = .ok v w) : (callFunc gf vs).run P w = .ok (.value v) w := by
  simp only [callFunc, Sem.run_bind]
  show Sem.run P (match P.funcs[gf]? with | none => _ | some fn => _) w = _
  simp only [hf, h1, h2, h3, h4, Bool.false_eq_true, if_false, if_true]
  simp only [Sem.run_bind]
  have hmark : (mark (.extern gf)).run P w = .ok () w := rfl
  simp [hmark, hr]

/-- A call of a function value that is a function with what it has captured. -/
theorem ow_call {gf : FuncId} {x : Operand} {args : Array Operand} {ats : Array TypeId} {lb vl : List Value} {R : Value → GH → List Bx → Prop} (hs : St w0 I0 X0 I (X ++ L) w)
    (hc : Fn P gf vl.toArray I X R) (hg : isGo P gf = true) (hx : okO n x = true) (hxv : ev f x = .func (.func gf) #[] lb.toArray) (ha : args.toList.all (okO n) = true)
    (hav : args.toList.map (ev f) ++ lb = vl) (hd : Nat.blt d n.k = true)
    (k : ∀ v J X' w', R v J X' → I.le J → St w0 I0 X0 J (X' ++ L) w' → ids X' = ids X → K (FA (upd f d v) n) w') :
    OW P ⟨some d, .call ⟨.value x, args, ats⟩, ty, pos, af, g⟩ f n w K Q := by
  have hmap : args.map (FA f n).eval = (args.toList.map (ev f)).toArray := by
    apply Array.toList_inj.1
    rw [Array.toList_map]
    simp only
    refine List.map_congr_left fun a ha' => FA_eval ?_
    exact (List.all_eq_true.1 ha) a ha'
  have hr : (execOp (FA f n).eval ⟨some d, .call ⟨.value x, args, ats⟩, ty, pos, af, g⟩).run P w = .ok (.enter gf vl.toArray) w := by
    simp only [execOp, resolve, Sem.run_bind, FA_eval hx, hxv, hmap, Deferred.ofValue]
    simp only [Sem.run_pure, Result.andThen_ok, invoke]
    rw [run_callFunc hg]
    congr 2
    rw [← hav]; simp
  constructor
  unfold Oper.wp
  rw [hr, Oper.upon_enter]
  have hnd : (ids X).Nodup := by
    have := hs.nd
    simp only [ids, List.map_append, List.nodup_append] at this
    exact this.1
  refine (hc w hs.sat (fun x hx => hs.bx x (List.mem_append_left _ hx)) (fun x hx => (hs.own x (List.mem_append_left _ hx)).1) hnd).mono ?_
  rintro e w' ⟨v, J, X', rfl, h1, h2, h3, h4, h5, h6, h7⟩
  show K ((FA f n).put (some d) v) w'
  rw [FA_put hd]
  exact k v J X' w' h7 h2 (hs.call h1 h2 h3 h4 h5 h6) h6

/-- A method of an interface value. -/
theorem ow_invoke {gf : FuncId} {x : Operand} {name : String} {args : Array Operand} {ats : Array TypeId} {vl : List Value} {T : TypeId} {u rv : Value} {R : Value → GH → List Bx → Prop} (hs : St w0 I0 X0 I (X ++ L) w)
    (hc : Fn P gf (rv :: vl).toArray I X R) (hg : isGo P gf = true) (hx : okO n x = true) (hxv : ev f x = .iface T u)
    (hm : ∀ w, (method (P.types.size + Made.depth) T u name).run P w = .ok (gf, rv) w) (ha : args.toList.all (okO n) = true) (hav : args.toList.map (ev f) = vl) (hd : Nat.blt d n.k = true)
    (k : ∀ v J X' w', R v J X' → I.le J → St w0 I0 X0 J (X' ++ L) w' → ids X' = ids X → K (FA (upd f d v) n) w') :
    OW P ⟨some d, .call ⟨.invoke x name, args, ats⟩, ty, pos, af, g⟩ f n w K Q := by
  have hmap : args.map (FA f n).eval = (args.toList.map (ev f)).toArray := by
    apply Array.toList_inj.1
    rw [Array.toList_map]
    simp only
    refine List.map_congr_left fun a ha' => FA_eval ?_
    exact (List.all_eq_true.1 ha) a ha'
  have hr : (execOp (FA f n).eval ⟨some d, .call ⟨.invoke x name, args, ats⟩, ty, pos, af, g⟩).run P w = .ok (.enter gf (rv :: vl).toArray) w := by
    simp only [execOp, resolve, Sem.run_bind, FA_eval hx, hxv, hmap, hav]
    simp only [Sem.run_pure, Result.andThen_ok, invoke]
    simp only [Array.getElem?_append, Array.size_singleton, Nat.zero_lt_one, if_true, List.getElem?_toArray, List.getElem?_cons_zero, callMethod]
    have hex : (#[Value.iface T u] ++ vl.toArray).extract 1 (#[Value.iface T u] ++ vl.toArray).size = vl.toArray := by
      apply Array.toList_inj.1; simp
    show Sem.run P (do let p ← program; let (f, receiver) ← method (p.types.size + Made.depth) T u name; callFunc f (#[receiver] ++ _)) w = _
    rw [hex]
    simp only [Sem.run_bind]
    show ((method (P.types.size + Made.depth) T u name).run P w).andThen _ = _
    rw [hm w]
    simp only [Result.andThen_ok]
    rw [run_callFunc hg]
    simp
  constructor
  unfold Oper.wp
  rw [hr, Oper.upon_enter]
  have hnd : (ids X).Nodup := by
    have := hs.nd
    simp only [ids, List.map_append, List.nodup_append] at this
    exact this.1
  refine (hc w hs.sat (fun x hx => hs.bx x (List.mem_append_left _ hx)) (fun x hx => (hs.own x (List.mem_append_left _ hx)).1) hnd).mono ?_
  rintro e w' ⟨v, J, X', rfl, h1, h2, h3, h4, h5, h6, h7⟩
  show K ((FA f n).put (some d) v) w'
  rw [FA_put hd]
  exact k v J X' w' h7 h2 (hs.call h1 h2 h3 h4 h5 h6) h6
end

/-! ### Functions that hand back boxes that the caller then owns -/
/-- Like 'Fn'; N: boxes that are new, and the caller's own from now on. -/
def FnO (P : Program) (fi : FuncId) (args : Array Value) (I : GH) (X : List Bx) (R : Value → GH → List Bx → List Bx → Prop) : Prop :=
  ∀ w, Sat I w → BoxesAt X w → (∀ x ∈ X, I x.b = none) → (ids X).Nodup →
    Calls P fi args w fun e w' => ∃ v J X' N, e = .returned v ∧ Sat J w' ∧ I.le J ∧ (∀ b, b < w.heap.size → J b = I b) ∧
      FrBut (ids X) w w' ∧ BoxesAt X' w' ∧ ids X' = ids X ∧ BoxesAt N w' ∧ (∀ x ∈ N, w.heap.size ≤ x.b ∧ J x.b = none) ∧ (ids N).Nodup ∧ R v J X' N
def FnPostO (w0 : World) (I0 : GH) (X : List Bx) (R : Value → GH → List Bx → List Bx → Prop) (e : Ending) (w' : World) : Prop :=
  ∃ v J X' N, e = .returned v ∧ Sat J w' ∧ I0.le J ∧ (∀ b, b < w0.heap.size → J b = I0 b) ∧ FrBut (ids X) w0 w' ∧ BoxesAt X' w' ∧ ids X' = ids X ∧
    BoxesAt N w' ∧ (∀ x ∈ N, w0.heap.size ≤ x.b ∧ J x.b = none) ∧ (ids N).Nodup ∧ R v J X' N
theorem enterO {P : Program} {fi : FuncId} {fn : Func} {c : Code} {args : List Value} {I : GH} {X : List Bx} {R : Value → GH → List Bx → List Bx → Prop}
    (hf : P.funcs[fi]? = some fn) (hb : fn.body = some c) (hn : Nat.ble args.length fn.ntmps = true)
    (h : ∀ w, St w I (ids X) I X w → c.wp P (bodyPost P fn (FnPostO w I X R)) (FA (initF args) ⟨fn.ntmps, []⟩) w) : FnO P fi args.toArray I X R := by
  intro w hs hx hi hnd
  refine calls_of_wp hf hb ?_
  have := h w ⟨hs, GH.le.refl _, fun _ _ => rfl, FrBut.refl _ _, hx, fun x hx => ⟨hi x hx, .inr (List.mem_map.2 ⟨x, hx, rfl⟩)⟩, hnd⟩
  rw [← init_FA args fn.ntmps (Nat.le_of_ble_eq_true hn)] at this
  exact this
theorem leaveO {P : Program} {fn : Func} {w0 : World} {I0 I : GH} {X X' N L : List Bx} {R : Value → GH → List Bx → List Bx → Prop} {f : Nat → Value} {n : Fr} {w : World} {v : Value}
    (hs : St w0 I0 (ids X) I (X' ++ (N ++ L)) w) (hid : ids X' = ids X) (hr : (results fn (FA f n).tmps).run P w = .ok v w) (hR : R v I X' N) (hn : n.ds = [] := by rfl) :
    bodyPost P fn (FnPostO w0 I0 X R) .ret (FA f n) w := by
  have hnd := hs.nd
  simp only [ids, List.map_append, List.nodup_append] at hnd
  refine ⟨hn, v, hr, v, I, X', N, rfl, hs.sat, hs.le, hs.old, hs.fr, fun x hx => hs.bx x (List.mem_append_left _ hx), hid, fun x hx => hs.bx x (List.mem_append_right _ (List.mem_append_left _ hx)), ?_, hnd.2.1.1, hR⟩
  intro x hx
  have ho := hs.own x (List.mem_append_right _ (List.mem_append_left _ hx))
  refine ⟨?_, ho.1⟩
  rcases ho.2 with h | h
  · exact h
  · exfalso
    rw [← hid] at h
    exact hnd.2.2 _ h x.b (List.mem_append_left _ (List.mem_map.2 ⟨x, hx, rfl⟩)) rfl
theorem St.callO {w0 : World} {I0 I J : GH} {X0 : List Nat} {X X' N L : List Bx} {w w' : World} (h : St w0 I0 X0 I (X ++ L) w) (hs : Sat J w') (hle : I.le J)
    (hold : ∀ b, b < w.heap.size → J b = I b) (hf : FrBut (ids X) w w') (hbx : BoxesAt X' w') (hid : ids X' = ids X)
    (hN : BoxesAt N w') (hfresh : ∀ x ∈ N, w.heap.size ≤ x.b ∧ J x.b = none) (hnd : (ids N).Nodup) : St w0 I0 X0 J (N ++ (X' ++ L)) w' := by
  have h1 := h.call hs hle hold hf hbx hid
  refine ⟨h1.sat, h1.le, h1.old, h1.fr, ?_, ?_, ?_⟩
  · intro x hx
    rcases List.mem_append.1 hx with hx | hx
    · exact hN x hx
    · exact h1.bx x hx
  · intro x hx
    rcases List.mem_append.1 hx with hx | hx
    · exact ⟨(hfresh x hx).2, .inl (Nat.le_trans h.fr.size (hfresh x hx).1)⟩
    · exact h1.own x hx
  · simp only [ids, List.map_append (l₁ := N), List.nodup_append]
    refine ⟨hnd, h1.nd, ?_⟩
    intro a ha b hb e
    subst e
    obtain ⟨x, hx, e⟩ := List.mem_map.1 ha
    obtain ⟨y, hy, e2⟩ := List.mem_map.1 hb
    have hx' := (hfresh x hx).1
    have : y.b < w.heap.size := by
      rcases List.mem_append.1 hy with hy | hy
      · have hm : y.b ∈ ids X := by rw [← hid]; exact List.mem_map.2 ⟨y, hy, rfl⟩
        obtain ⟨z, hz, e3⟩ := List.mem_map.1 hm
        have := lt_of_heap (h.bx z (List.mem_append_left _ hz))
        omega
      · exact lt_of_heap (h.bx y (List.mem_append_right _ hy))
    omega
section
variable {P : Program} {Q : Exit → Act → World → Prop} {K : Act → World → Prop} {f : Nat → Value} {n : Fr} {w : World}
  {d : Nat} {ty : TypeId} {pos : String} {af : Array Edge} {g : Option (Nat × Bool)} {w0 : World} {I0 I : GH} {X0 : List Nat} {X L : List Bx}
theorem ow_callO {gf : FuncId} {x : Operand} {args : Array Operand} {ats : Array TypeId} {lb vl : List Value} {R : Value → GH → List Bx → List Bx → Prop} (hs : St w0 I0 X0 I (X ++ L) w)
    (hc : FnO P gf vl.toArray I X R) (hg : isGo P gf = true) (hx : okO n x = true) (hxv : ev f x = .func (.func gf) #[] lb.toArray) (ha : args.toList.all (okO n) = true)
    (hav : args.toList.map (ev f) ++ lb = vl) (hd : Nat.blt d n.k = true)
    (k : ∀ v J X' N w', R v J X' N → I.le J → St w0 I0 X0 J (N ++ (X' ++ L)) w' → ids X' = ids X → K (FA (upd f d v) n) w') :
    OW P ⟨some d, .call ⟨.value x, args, ats⟩, ty, pos, af, g⟩ f n w K Q := by
  have hmap : args.map (FA f n).eval = (args.toList.map (ev f)).toArray := by
    apply Array.toList_inj.1
    rw [Array.toList_map]
    simp only
    refine List.map_congr_left fun a ha' => FA_eval ?_
    exact (List.all_eq_true.1 ha) a ha'
  have hr : (execOp (FA f n).eval ⟨some d, .call ⟨.value x, args, ats⟩, ty, pos, af, g⟩).run P w = .ok (.enter gf vl.toArray) w := by
    simp only [execOp, resolve, Sem.run_bind, FA_eval hx, hxv, hmap, Deferred.ofValue]
    simp only [Sem.run_pure, Result.andThen_ok, invoke]
    rw [run_callFunc hg]
    congr 2
    rw [← hav]; simp
  constructor
  unfold Oper.wp
  rw [hr, Oper.upon_enter]
  have hnd : (ids X).Nodup := by
    have := hs.nd
    simp only [ids, List.map_append, List.nodup_append] at this
    exact this.1
  refine (hc w hs.sat (fun x hx => hs.bx x (List.mem_append_left _ hx)) (fun x hx => (hs.own x (List.mem_append_left _ hx)).1) hnd).mono ?_
  rintro e w' ⟨v, J, X', N, rfl, h1, h2, h3, h4, h5, h6, h7, h8, h9, h10⟩
  show K ((FA f n).put (some d) v) w'
  rw [FA_put hd]
  exact k v J X' N w' h10 h2 (hs.callO h1 h2 h3 h4 h5 h6 h7 h8 h9) h6
end

/-! ### In the order of the text; in an order that is drawn -/
section
variable {P : Program} {ops : Array Oper} {Q : Exit → Act → World → Prop} {rest : List Oper} {f : Nat → Value} {n : Fr} {w : World} {o : Oper}
theorem sqo (hg : o.guard = none) (h : ∀ K : Act → World → Prop, (∀ f w, WL P ops Q rest f n w → K (FA f n) w) → OW P o f n w K Q) : WL P ops Q (o :: rest) f n w :=
  ⟨wpList_plain hg fun K hK => (h K fun _ w h => hK _ w h.h).h⟩
theorem sqoG (hg : Region.wanted o (yielded ops (FA f n).tmps) = true) (h : ∀ K : Act → World → Prop, (∀ f w, WL P ops Q rest f n w → K (FA f n) w) → OW P o f n w K Q) : WL P ops Q (o :: rest) f n w :=
  ⟨wpList_step fun K hK => by rw [if_pos hg]; exact (h K fun _ w h => hK _ w h.h).h⟩
variable {S : World → Prop} {listed : Array Bool}
variable {dd : Option Tmp} {op : Op} {ty : TypeId} {pos : String} {af : Array Edge} {gd : Option (Nat × Bool)}
theorem dro (i : Nat) (hr : Region.ready .any ops listed = [i]) (hi : ops[i]? = some ⟨dd, op, ty, pos, af, none⟩)
    (h : OW P ⟨dd, op, ty, pos, af, none⟩ f n w (fun a' w' => S w' ∧ Draw P ops Q S (listed.setIfInBounds i true) a' w') Q) : Draw P ops Q S listed (FA f n) w :=
  draw_all [i] hr rfl fun j hj => by
    cases hj with
    | head => exact wpOp_of hi rfl h.h
    | tail _ hj => cases hj
theorem dmo {i : Nat} {K : Act → World → Prop} (hi : ops[i]? = some ⟨dd, op, ty, pos, af, none⟩) (h : OW P ⟨dd, op, ty, pos, af, none⟩ f n w K Q) : wpOp P ops Q i K (FA f n) w := wpOp_of hi rfl h.h
end

section
variable {ops : Array Oper} {f : Nat → Value} {n : Fr} {o : Oper} {j t : Nat} {want : Bool}
theorem wantedT (ho : o.guard = some (j, want)) (hd : (ops[j]?).bind (·.dst) = some t) (ht : Nat.blt t n.k = true) (hv : f t = .bool want) :
    Region.wanted o (yielded ops (FA f n).tmps) = true := by rw [wantedAt ho hd ht hv]; cases want <;> rfl
theorem wantedF (ho : o.guard = some (j, want)) (hd : (ops[j]?).bind (·.dst) = some t) (ht : Nat.blt t n.k = true) (hv : f t = .bool (!want)) :
    Region.wanted o (yielded ops (FA f n).tmps) = false := by rw [wantedAt ho hd ht hv]; cases want <;> rfl
end

/-! ### Taken first: it yields v in every world that meets S -/
section
variable {P : Program} {ops : Array Oper} {Q : Exit → Act → World → Prop} {f : Nat → Value} {n : Fr} {w : World} {S : World → Prop} {listed : Array Bool}
  {d : Nat} {op : Op} {ty : TypeId} {pos : String} {af : Array Edge} {v : Value} {gd : Option (Nat × Bool)}
def mayTake (ops : Array Oper) (listed : Array Bool) (i : Nat) : Bool :=
  Region.noSelect ops && Region.free .any ops listed i && (Region.ready .any ops listed).contains i
theorem dt (i : Nat) (hi : ops[i]? = some ⟨some d, op, ty, pos, af, none⟩) (hc : mayTake ops listed i = true) (hQ : ∀ c a w, Q (.panic c) (a.put (some d) v) w → Q (.panic c) a w) (hS : S w)
    (hr : ∀ w, S w → (execOp (FA f n).eval ⟨some d, op, ty, pos, af, none⟩).run P w = .ok (.value v) w) (hd : Nat.blt d n.k = true)
    (h : Draw P ops Q S (listed.setIfInBounds i true) (FA (upd f d v) n) w) : Draw P ops Q S listed (FA f n) w := by
  simp only [mayTake, Bool.and_eq_true] at hc
  exact draw_take i hi hc.1.1 hc.1.2 hc.2 rfl hd hQ (.inl ⟨rfl, hr⟩) hS h
theorem St.drew {w0 : World} {I0 I : GH} {X0 : List Nat} {L : List Bx} {w : World} (h : St w0 I0 X0 I L w) : St w0 I0 X0 I L { w with drawn := w.drawn + 1 } := h.same rfl rfl rfl rfl
end

/-! ### Integers, tests -/
section
variable {P : Program} {f : Nat → Value} {n : Fr} {w : World} {d : Option Tmp} {ty : TypeId} {pos : String} {af : Array Edge} {g : Option (Nat × Bool)} {x y : Operand} {t yt : TypeId} {k : IntKind} {a b : Int}
theorem r_add (hx : okO n x = true) (hy : okO n y = true) (ha : ev f x = .int k a) (hb : ev f y = .int k b) :
    (execOp (FA f n).eval ⟨d, .binOp .add t x y yt, ty, pos, af, g⟩).run P w = .ok (.value (.int k (k.wrap (a + b)))) w := by
  simp [execOp, FA_eval hx, FA_eval hy, ha, hb, eqGuard, binOp, Op.intArith]
theorem r_sub (hx : okO n x = true) (hy : okO n y = true) (ha : ev f x = .int k a) (hb : ev f y = .int k b) :
    (execOp (FA f n).eval ⟨d, .binOp .sub t x y yt, ty, pos, af, g⟩).run P w = .ok (.value (.int k (k.wrap (a - b)))) w := by
  simp [execOp, FA_eval hx, FA_eval hy, ha, hb, eqGuard, binOp, Op.intArith]
theorem r_mul (hx : okO n x = true) (hy : okO n y = true) (ha : ev f x = .int k a) (hb : ev f y = .int k b) :
    (execOp (FA f n).eval ⟨d, .binOp .mul t x y yt, ty, pos, af, g⟩).run P w = .ok (.value (.int k (k.wrap (a * b)))) w := by
  simp [execOp, FA_eval hx, FA_eval hy, ha, hb, eqGuard, binOp, Op.intArith]
/-- int's sum, difference, product where nothing wraps. -/
theorem r_addi (hx : okO n x = true) (hy : okO n y = true) (ha : ev f x = .int .i64 a) (hb : ev f y = .int .i64 b) (h : -9223372036854775808 ≤ a + b ∧ a + b ≤ 9223372036854775807) :
    (execOp (FA f n).eval ⟨d, .binOp .add t x y yt, ty, pos, af, g⟩).run P w = .ok (.value (.int .i64 (a + b))) w := by
  rw [r_add hx hy ha hb, Go.IntWalk.i64_in _ h]
theorem r_subi (hx : okO n x = true) (hy : okO n y = true) (ha : ev f x = .int .i64 a) (hb : ev f y = .int .i64 b) (h : -9223372036854775808 ≤ a - b ∧ a - b ≤ 9223372036854775807) :
    (execOp (FA f n).eval ⟨d, .binOp .sub t x y yt, ty, pos, af, g⟩).run P w = .ok (.value (.int .i64 (a - b))) w := by
  rw [r_sub hx hy ha hb, Go.IntWalk.i64_in _ h]
theorem r_muli (hx : okO n x = true) (hy : okO n y = true) (ha : ev f x = .int .i64 a) (hb : ev f y = .int .i64 b) (h : -9223372036854775808 ≤ a * b ∧ a * b ≤ 9223372036854775807) :
    (execOp (FA f n).eval ⟨d, .binOp .mul t x y yt, ty, pos, af, g⟩).run P w = .ok (.value (.int .i64 (a * b))) w := by
  rw [r_mul hx hy ha hb, Go.IntWalk.i64_in _ h]
theorem r_eqi (hx : okO n x = true) (hy : okO n y = true) (ha : ev f x = .int k a) (hb : ev f y = .int k b) :
    (execOp (FA f n).eval ⟨d, .binOp .eql t x y yt, ty, pos, af, g⟩).run P w = .ok (.value (.bool (decide (a = b)))) w := by
  simp [execOp, FA_eval hx, FA_eval hy, ha, hb, eqGuard, binOp, Op.intCmp]; rfl
theorem r_nei (hx : okO n x = true) (hy : okO n y = true) (ha : ev f x = .int k a) (hb : ev f y = .int k b) :
    (execOp (FA f n).eval ⟨d, .binOp .neq t x y yt, ty, pos, af, g⟩).run P w = .ok (.value (.bool (!decide (a = b)))) w := by
  simp [execOp, FA_eval hx, FA_eval hy, ha, hb, eqGuard, binOp, Op.intCmp]; rfl
theorem r_lti (hx : okO n x = true) (hy : okO n y = true) (ha : ev f x = .int k a) (hb : ev f y = .int k b) :
    (execOp (FA f n).eval ⟨d, .binOp .lss t x y yt, ty, pos, af, g⟩).run P w = .ok (.value (.bool (decide (a < b)))) w := by
  simp [execOp, FA_eval hx, FA_eval hy, ha, hb, eqGuard, binOp, Op.intCmp]
theorem r_gti (hx : okO n x = true) (hy : okO n y = true) (ha : ev f x = .int k a) (hb : ev f y = .int k b) :
    (execOp (FA f n).eval ⟨d, .binOp .gtr t x y yt, ty, pos, af, g⟩).run P w = .ok (.value (.bool (decide (b < a)))) w := by
  simp [execOp, FA_eval hx, FA_eval hy, ha, hb, eqGuard, binOp, Op.intCmp]
theorem r_gei (hx : okO n x = true) (hy : okO n y = true) (ha : ev f x = .int k a) (hb : ev f y = .int k b) :
    (execOp (FA f n).eval ⟨d, .binOp .geq t x y yt, ty, pos, af, g⟩).run P w = .ok (.value (.bool (decide (b ≤ a)))) w := by
  simp [execOp, FA_eval hx, FA_eval hy, ha, hb, eqGuard, binOp, Op.intCmp]

def ptrT (P : Program) (t : TypeId) : Bool := match P.underlying t with | some (.pointer _) => true | _ => false
def ifcT (P : Program) (t : TypeId) : Bool := match P.underlying t with | some (.interface _) => true | _ => false
def slT (P : Program) (t : TypeId) : Bool := match P.underlying t with | some (.slice _) => true | _ => false
def bolT (P : Program) (t : TypeId) : Bool := match P.underlying t with | some .bool => true | _ => false
def strT (P : Program) (t : TypeId) : Bool := match P.underlying t with | some .string => true | _ => false
def intT (P : Program) (t : TypeId) (k : IntKind) : Bool := match P.underlying t with | some (.int k') => decide (k' = k) | _ => false

theorem eqPtr {p : Option Addr} (ht : ptrT P t = true) : (Op.equal t (.pointer p) (.pointer none)).run P w = .ok p.isNone w := by
  unfold ptrT at ht
  cases hu : P.underlying t with
  | none => simp [hu] at ht
  | some dd =>
    cases dd <;> simp [hu] at ht
    have key : ∀ m, (Op.equalIn (m + 1) t (.pointer p) (.pointer none)).run P w = .ok p.isNone w := fun m => by cases p <;> simp [Op.equalIn, run_underlying hu]
    exact key 9999
theorem r_eqp {p : Option Addr} (hx : okO n x = true) (hy : okO n y = true) (ht : ptrT P t = true) (ha : ev f x = .pointer p) (hb : ev f y = .pointer none) :
    (execOp (FA f n).eval ⟨d, .binOp .eql t x y yt, ty, pos, af, g⟩).run P w = .ok (.value (.bool p.isNone)) w := by
  simp [execOp, FA_eval hx, FA_eval hy, ha, hb, eqGuard, binOp, eqPtr ht]
theorem r_nep {p : Option Addr} (hx : okO n x = true) (hy : okO n y = true) (ht : ptrT P t = true) (ha : ev f x = .pointer p) (hb : ev f y = .pointer none) :
    (execOp (FA f n).eval ⟨d, .binOp .neq t x y yt, ty, pos, af, g⟩).run P w = .ok (.value (.bool (!p.isNone))) w := by
  simp [execOp, FA_eval hx, FA_eval hy, ha, hb, eqGuard, binOp, eqPtr ht]
def isNilIf : Value → Bool
  | .nilIface => true
  | _ => false
/-- An interface value. -/
def IsIf (v : Value) : Prop := v = .nilIface ∨ ∃ T u, v = .iface T u
theorem IsIf.one {v : Value} (h : IsIf v) : One v := by rcases h with rfl | ⟨T, u, rfl⟩ <;> trivial
theorem eqIf {v : Value} (ht : ifcT P t = true) (hv : IsIf v) : (Op.equal t v .nilIface).run P w = .ok (isNilIf v) w := by
  unfold ifcT at ht
  cases hu : P.underlying t with
  | none => simp [hu] at ht
  | some dd =>
    cases dd <;> simp [hu] at ht
    have key : ∀ m, (Op.equalIn (m + 1) t v .nilIface).run P w = .ok (isNilIf v) w := fun m => by
      rcases hv with rfl | ⟨T, u, rfl⟩ <;> simp [Op.equalIn, run_underlying hu, isNilIf]
    exact key 9999
theorem r_eqf {v : Value} (hx : okO n x = true) (ht : ifcT P t = true) (ha : ev f x = v) (hv : IsIf v) :
    (execOp (FA f n).eval ⟨d, .binOp .eql t x (.const .nilIface) yt, ty, pos, af, g⟩).run P w = .ok (.value (.bool (isNilIf v))) w := by
  have := eqIf (w := w) ht hv
  have h2 : (FA f n).eval (.const .nilIface) = .nilIface := rfl
  rcases hv with rfl | ⟨T, u, rfl⟩ <;> simp [execOp, FA_eval hx, h2, ha, eqGuard, binOp, this]
theorem eqSl {p : Option Addr} {l c : Nat} (ht : slT P t = true) : (Op.equal t (.slice p l c) (.slice none 0 0)).run P w = .ok p.isNone w := by
  unfold slT at ht
  cases hu : P.underlying t with
  | none => simp [hu] at ht
  | some dd =>
    cases dd <;> simp [hu] at ht
    have key : ∀ m, (Op.equalIn (m + 1) t (.slice p l c) (.slice none 0 0)).run P w = .ok p.isNone w := fun m => by cases p <;> simp [Op.equalIn, run_underlying hu]
    exact key 9999
theorem r_eqs {p : Option Addr} {l c : Nat} (hx : okO n x = true) (hy : okO n y = true) (ht : slT P t = true) (ha : ev f x = .slice p l c) (hb : ev f y = .slice none 0 0) :
    (execOp (FA f n).eval ⟨d, .binOp .eql t x y yt, ty, pos, af, g⟩).run P w = .ok (.value (.bool p.isNone)) w := by
  simp [execOp, FA_eval hx, FA_eval hy, ha, hb, eqGuard, binOp, eqSl ht]
theorem eqBo {a b : Bool} (ht : bolT P t = true) : (Op.equal t (.bool a) (.bool b)).run P w = .ok (a == b) w := by
  unfold bolT at ht
  cases hu : P.underlying t with
  | none => simp [hu] at ht
  | some dd =>
    cases dd <;> simp [hu] at ht
    have key : ∀ m, (Op.equalIn (m + 1) t (.bool a) (.bool b)).run P w = .ok (a == b) w := fun m => by simp [Op.equalIn, run_underlying hu]
    exact key 9999
theorem r_neb {a b : Bool} (hx : okO n x = true) (hy : okO n y = true) (ht : bolT P t = true) (ha : ev f x = .bool a) (hb : ev f y = .bool b) :
    (execOp (FA f n).eval ⟨d, .binOp .neq t x y yt, ty, pos, af, g⟩).run P w = .ok (.value (.bool (!(a == b)))) w := by
  simp [execOp, FA_eval hx, FA_eval hy, ha, hb, eqGuard, binOp, eqBo ht]
theorem r_max (hx : okO n x = true) (hy : okO n y = true) (ha : ev f x = .int k a) (hb : ev f y = .int k b) {ats : Array TypeId} :
    (execOp (FA f n).eval ⟨d, .call ⟨.builtin .max, #[x, y], ats⟩, ty, pos, af, g⟩).run P w = .ok (.value (.int k (max a b))) w := by
  have : (if b > a then b else a) = max a b := by omega
  simp [execOp, resolve, invoke, builtin, FA_eval hx, FA_eval hy, ha, hb, Builtin.max_, Builtin.max2]
  simpa using this
theorem r_min (hx : okO n x = true) (hy : okO n y = true) (ha : ev f x = .int k a) (hb : ev f y = .int k b) {ats : Array TypeId} :
    (execOp (FA f n).eval ⟨d, .call ⟨.builtin .min, #[x, y], ats⟩, ty, pos, af, g⟩).run P w = .ok (.value (.int k (min a b))) w := by
  have : (if b < a then b else a) = min a b := by omega
  simp [execOp, resolve, invoke, builtin, FA_eval hx, FA_eval hy, ha, hb, Builtin.min_, Builtin.min2]
  simpa using this
theorem r_lens {p : Option Addr} {l c : Nat} (hx : okO n x = true) (ht : slT P t = true) (ha : ev f x = .slice p l c) :
    (execOp (FA f n).eval ⟨d, .call ⟨.builtin .len, #[x], #[t]⟩, ty, pos, af, g⟩).run P w = .ok (.value (.int .i64 l)) w := by
  unfold slT at ht
  cases hu : P.underlying t with
  | none => simp [hu] at ht
  | some dd =>
    cases dd <;> simp [hu] at ht
    simp [execOp, resolve, invoke, builtin, FA_eval hx, ha, Builtin.len_, run_underlying hu, goInt]
end

end Go.Proofs.YtlnlodfnplkckaaDoor
/- The engine: results, more operations, over any program. Each theorem's conditions stand in it. -/
namespace Go.Proofs.YtlnlodfnplkckaaDoor

/-! ### Results -/
inductive RV (P : Program) (f : Nat → Value) (n : Fr) (w : World) : List ResultVar → List Value → Prop where
  | nil : RV P f n w [] []
  | tmp {t : Nat} {v : Value} {l : List ResultVar} {vs : List Value} (ht : Nat.blt t n.k = true) (hv : f t = v) (r : RV P f n w l vs) : RV P f n w (.tmp t :: l) (v :: vs)
  | agg {t T b o m : Nat} {cs : Array Value} {E : TypeId} {fz : Nat × Nat} {us : List Value} {l : List ResultVar} {vs : List Value} (ht : Nat.blt t n.k = true) (hv : f t = .pointer (some ⟨b, o, none⟩))
      (hT : aggT P T m = true) (hb : w.heap[b]? = some (.cells cs E fz)) (hu : (cs.toList.drop o).take m = us) (hm : us.length = m) (r : RV P f n w l vs) : RV P f n w (.cell t T :: l) (.agg us.toArray :: vs)
  | one {t T b o : Nat} {cs : Array Value} {E : TypeId} {fz : Nat × Nat} {u : Value} {l : List ResultVar} {vs : List Value} (ht : Nat.blt t n.k = true) (hv : f t = .pointer (some ⟨b, o, none⟩))
      (hT : scalT P T = true) (hb : w.heap[b]? = some (.cells cs E fz)) (hu : cs[o]? = some u) (r : RV P f n w l vs) : RV P f n w (.cell t T :: l) (u :: vs)

def rvS (tm : Array Value) : ResultVar → Sem Value
  | .tmp t => pure (tm.getD t undef)
  | .cell a t => do loadVar t (← asAddr (tm.getD a undef))
theorem results_eq (fn : Func) (tm : Array Value) : results fn tm = (do let vs ← fn.results.mapM (rvS tm); pure (if h : vs.size = 1 then vs[0] else .tuple vs)) := by
  have : (fun r : ResultVar => (match r with
      | .tmp t => pure (tm.getD t undef)
      | .cell a t => do loadVar t (← asAddr (tm.getD a undef)) : Sem Value)) = rvS tm := by
    funext r; cases r <;> rfl
  rw [← this]; rfl
theorem RV.run {P : Program} {f : Nat → Value} {n : Fr} {w : World} {l : List ResultVar} {vs : List Value} (h : RV P f n w l vs) :
    (l.mapM (rvS (FA f n).tmps)).run P w = .ok vs w := by
  induction h with
  | nil => simp
  | @tmp t v l vs ht hv r ih =>
    have h1 : (rvS (FA f n).tmps (.tmp t)).run P w = .ok v w := by simp only [rvS, FA_get ht, hv, Sem.run_pure]
    rw [List.mapM_cons, Sem.run_bind, h1, Result.andThen_ok, Sem.run_bind, ih, Result.andThen_ok, Sem.run_pure]
  | @agg t T b o m cs E fz us l vs ht hv hT hb hu hm r ih =>
    have hl := run_loadCells (P := P) (w := w) (b := b) (o := o) hm (fun j u hj => by
      rw [cell_of hb, ← hj, ← hu, List.getElem?_take, List.getElem?_drop]
      have : j < m := by
        rw [← hm]
        rcases Nat.lt_or_ge j us.length with h' | h'
        · exact h'
        · simp [List.getElem?_eq_none h'] at hj
      simp [this])
    have h1 : (rvS (FA f n).tmps (.cell t T)).run P w = .ok (.agg us.toArray) w := by
      simp only [rvS, FA_get ht, hv]
      simp [asAddr, loadVar, (aggT_spec hT _).1, (aggT_spec hT _).2, hl]
    rw [List.mapM_cons, Sem.run_bind, h1, Result.andThen_ok, Sem.run_bind, ih, Result.andThen_ok, Sem.run_pure]
  | @one t T b o cs E fz u l vs ht hv hT hb hu r ih =>
    have hc : w.cell? ⟨b, o, none⟩ = some u := by rw [cell_of hb, hu]
    have h1 : (rvS (FA f n).tmps (.cell t T)).run P w = .ok u w := by
      simp only [rvS, FA_get ht, hv]
      simp [asAddr, loadVar, scalT_spec hT, Go.load, Sem.run, hc]
    rw [List.mapM_cons, Sem.run_bind, h1, Result.andThen_ok, Sem.run_bind, ih, Result.andThen_ok, Sem.run_pure]

theorem res_one {P : Program} {fn : Func} {f : Nat → Value} {n : Fr} {w : World} {l : List ResultVar} {v : Value} (hf : fn.results = l.toArray) (h : RV P f n w l [v]) :
    (results fn (FA f n).tmps).run P w = .ok v w := by
  rw [results_eq, hf, List.mapM_toArray, Sem.run_bind, Sem.run_map, h.run]
  simp
theorem res_many {P : Program} {fn : Func} {f : Nat → Value} {n : Fr} {w : World} {l : List ResultVar} {vs : List Value} (hf : fn.results = l.toArray) (h : RV P f n w l vs) (h1 : Nat.beq vs.length 1 = false) :
    (results fn (FA f n).tmps).run P w = .ok (.tuple vs.toArray) w := by
  have h1 : ¬ vs.length = 1 := fun e => by rw [e] at h1; cases h1
  rw [results_eq, hf, List.mapM_toArray, Sem.run_bind, Sem.run_map, h.run]
  simp [h1]

/-! ### Small words for the printed walks -/
inductive SubL (L : List Bx) : List Bx → Prop where
  | nil : SubL L []
  | cons {x : Bx} {l : List Bx} (h : x ∈ L) (r : SubL L l) : SubL L (x :: l)
theorem SubL.sub {L l : List Bx} (h : SubL L l) : ∀ x, x ∈ l → x ∈ L := by
  induction h with
  | nil => intro x hx; cases hx
  | cons h _ ih => intro x hx; cases hx with
    | head => exact h
    | tail _ hx => exact ih x hx
def updL (g : Nat → Value) : List (Nat × Value) → (Nat → Value)
  | [] => g
  | (t, v) :: l => upd (updL g l) t v
inductive Eqs (f : Nat → Value) : List (Nat × Value) → Prop where
  | nil : Eqs f []
  | cons {t : Nat} {v : Value} {l : List (Nat × Value)} (h : f t = v) (r : Eqs f l) : Eqs f ((t, v) :: l)
theorem updL_self {f : Nat → Value} {l : List (Nat × Value)} (h : Eqs f l) : f = updL f l := by
  induction h with
  | nil => rfl
  | @cons t v l h _ ih =>
    funext k
    show f k = upd (updL f l) t v k
    rw [← ih]
    unfold upd
    cases hb : Nat.beq k t with
    | false => rfl
    | true => rw [Nat.eq_of_beq_eq_true hb, h]; rfl
theorem forall_2 {p : Nat → Prop} {a b : Nat} (ha : p a) (hb : p b) : ∀ i ∈ [a, b], p i := by
  intro i hi; simp at hi; rcases hi with rfl | rfl <;> assumption
/-! ### More operations -/
section
variable {P : Program} {f : Nat → Value} {n : Fr} {w : World} {d : Option Tmp} {ty : TypeId} {pos : String} {af : Array Edge} {g : Option (Nat × Bool)} {x y : Operand} {t yt : TypeId} {k : IntKind} {a b : Int}
def cncT (P : Program) (t : TypeId) : Bool :=
  match P.underlying t with
  | some (.interface _) => false
  | none => false
  | _ => true
theorem r_makeIf (hx : okO n x = true) (ht : cncT P t = true) :
    (execOp (FA f n).eval ⟨d, .makeInterface t x, ty, pos, af, g⟩).run P w = .ok (.value (.iface t (ev f x))) w := by
  unfold cncT at ht
  cases hu : P.underlying t with
  | none => simp [hu] at ht
  | some dd =>
    simp only [execOp, FA_eval hx, Sem.run_bind, Instr.makeInterface, run_underlying hu, Result.andThen_ok]
    cases dd <;> simp [hu] at ht ⊢
theorem r_makeFunc {fn : Go.Fn} {first captured : Array Operand} {l m : List Value} (h1 : first.toList.all (okO n) = true) (h2 : captured.toList.all (okO n) = true)
    (hl : first.toList.map (ev f) = l) (hm : captured.toList.map (ev f) = m) :
    (execOp (FA f n).eval ⟨d, .makeFunc fn first captured, ty, pos, af, g⟩).run P w = .ok (.value (.func fn l.toArray m.toArray)) w := by
  have e1 : first.map (FA f n).eval = l.toArray := by
    apply Array.toList_inj.1
    rw [Array.toList_map, ← hl]
    exact List.map_congr_left fun a ha => FA_eval ((List.all_eq_true.1 h1) a ha)
  have e2 : captured.map (FA f n).eval = m.toArray := by
    apply Array.toList_inj.1
    rw [Array.toList_map, ← hm]
    exact List.map_congr_left fun a ha => FA_eval ((List.all_eq_true.1 h2) a ha)
  simp only [execOp, e1, e2, Instr.makeFunc, Sem.run_bind, Sem.run_pure, Result.andThen_ok]
theorem r_taYes {T : TypeId} {u : Value} {xt : TypeId} (hx : okO n x = true) (ht : cncT P T = true) (h : ev f x = .iface T u) :
    (execOp (FA f n).eval ⟨d, .typeAssert x xt T true, ty, pos, af, g⟩).run P w = .ok (.value (.tuple #[u, .bool true])) w := by
  unfold cncT at ht
  cases hu : P.underlying T with
  | none => simp [hu] at ht
  | some dd =>
    simp only [execOp, FA_eval hx, h, Sem.run_bind, Instr.typeAssert, run_underlying hu, Result.andThen_ok]
    cases dd <;> simp [hu] at ht ⊢
theorem run_zero {T : TypeId} {z : Value} (hz : (P.info? T).bind (·.zero) = some z) : (zeroValue T).run P w = .ok z w := by
  cases hi : P.info? T with
  | none => simp [hi] at hz
  | some i => simp [hi] at hz; simp [zeroValue, run_typeInfo _ hi, hz]
theorem r_taNo {T S : TypeId} {u z : Value} {xt : TypeId} (hx : okO n x = true) (ht : cncT P T = true) (hz : (P.info? T).bind (·.zero) = some z) (h : ev f x = .iface S u) (hne : Nat.beq S T = false) :
    (execOp (FA f n).eval ⟨d, .typeAssert x xt T true, ty, pos, af, g⟩).run P w = .ok (.value (.tuple #[z, .bool false])) w := by
  have hne : ¬ S = T := fun e => by rw [e] at hne; simp at hne
  unfold cncT at ht
  cases hu : P.underlying T with
  | none => simp [hu] at ht
  | some dd =>
    simp only [execOp, FA_eval hx, h, Sem.run_bind, Instr.typeAssert, run_underlying hu, Result.andThen_ok]
    cases dd <;> simp [hu, hne, run_zero hz] at ht ⊢
theorem r_taNil {T : TypeId} {z : Value} {xt : TypeId} (hx : okO n x = true) (ht : cncT P T = true) (hz : (P.info? T).bind (·.zero) = some z) (h : ev f x = .nilIface) :
    (execOp (FA f n).eval ⟨d, .typeAssert x xt T true, ty, pos, af, g⟩).run P w = .ok (.value (.tuple #[z, .bool false])) w := by
  unfold cncT at ht
  cases hu : P.underlying T with
  | none => simp [hu] at ht
  | some dd =>
    simp only [execOp, FA_eval hx, h, Sem.run_bind, Instr.typeAssert, run_underlying hu, Result.andThen_ok]
    cases dd <;> simp [hu, run_zero hz] at ht ⊢
theorem r_convInt {src dst : TypeId} {q : IntKind} (hx : okO n x = true) (hs : (P.underlying src).isSome = true) (ht : intT P dst k = true) (h : ev f x = .int q a) :
    (execOp (FA f n).eval ⟨d, .convert src dst x, ty, pos, af, g⟩).run P w = .ok (.value (.int k (k.wrap a))) w := by
  unfold intT at ht
  cases hu : P.underlying dst with
  | none => simp [hu] at ht
  | some dd =>
    cases dd <;> simp [hu] at ht
    subst ht
    obtain ⟨ds, hs⟩ := Option.isSome_iff_exists.1 hs
    simp only [execOp, FA_eval hx, h, Sem.run_bind, convert, run_underlying hs, run_underlying hu, Result.andThen_ok]
    cases ds <;> simp [Conv.intToInt]
theorem r_index {e sz len cap b0 o i : Nat} (hx : okO n x = true) (hy : okO n y = true) (ht : slcT P t e sz = true) (h : ev f x = .slice (some ⟨b0, o, none⟩) len cap) (hi : ev f y = .int .i64 (i : Int)) (hlt : i < len) :
    (execOp (FA f n).eval ⟨d, .indexAddr t x y, ty, pos, af, g⟩).run P w = .ok (.value (.pointer (some ⟨b0, o + i * sz, none⟩))) w := by
  unfold slcT at ht
  cases hu : P.underlying t with
  | none => simp [hu] at ht
  | some dd =>
    cases dd <;> simp [hu] at ht
    rename_i e'
    obtain ⟨h1, h2⟩ := ht
    subst h1
    have hlt' : (0 : Int) ≤ (i : Int) ∧ (i : Int) < (len : Int) := by omega
    simp only [execOp, FA_eval hx, FA_eval hy, h, hi, Sem.run_bind, Instr.indexAt, asIntOf, Sem.run_pure, run_underlying hu, Result.andThen_ok]
    simp only [hlt', and_self, if_true, Sem.run_bind, sizT_spec h2, Result.andThen_ok, Sem.run_pure, Int.toNat_natCast]
    unfold Addr.add
    by_cases h0 : i * sz = 0
    · simp [h0]
    · simp [h0]
theorem r_indexArr {e sz len b0 o i : Nat} (hx : okO n x = true) (hy : okO n y = true) (ht : arrT P t len e sz = true) (h : ev f x = .pointer (some ⟨b0, o, none⟩)) (hi : ev f y = .int .i64 (i : Int)) (hlt : i < len) :
    (execOp (FA f n).eval ⟨d, .indexAddr t x y, ty, pos, af, g⟩).run P w = .ok (.value (.pointer (some ⟨b0, o + i * sz, none⟩))) w := by
  unfold arrT at ht
  cases hu : P.underlying t with
  | none => simp [hu] at ht
  | some dd =>
    cases dd <;> simp [hu] at ht
    rename_i l' e'
    obtain ⟨⟨h0, h1⟩, h2⟩ := ht
    subst h1
    subst h0
    have hlt' : (0 : Int) ≤ (i : Int) ∧ (i : Int) < (l' : Int) := by omega
    simp only [execOp, FA_eval hx, FA_eval hy, h, hi, Sem.run_bind, Instr.indexAt, asIntOf, Sem.run_pure, run_underlying hu, Result.andThen_ok, Instr.sureAddr]
    simp only [hlt', and_self, if_true, Sem.run_bind, sizT_spec h2, Result.andThen_ok, Sem.run_pure, Int.toNat_natCast]
    unfold Addr.add
    by_cases h0 : i * sz = 0
    · simp [h0]
    · simp [h0]
theorem r_eqstr {s u : List UInt8} (hx : okO n x = true) (hy : okO n y = true) (ha : ev f x = .string ⟨s.toArray⟩) (hb : ev f y = .string ⟨u.toArray⟩) :
    (execOp (FA f n).eval ⟨d, .binOp .eql t x y yt, ty, pos, af, g⟩).run P w = .ok (.value (.bool (decide (s = u)))) w := by
  simp [execOp, FA_eval hx, FA_eval hy, ha, hb, eqGuard, binOp, Op.stringOp]
  rw [Bool.eq_iff_iff]; simp
theorem r_nestr {s u : List UInt8} (hx : okO n x = true) (hy : okO n y = true) (ha : ev f x = .string ⟨s.toArray⟩) (hb : ev f y = .string ⟨u.toArray⟩) :
    (execOp (FA f n).eval ⟨d, .binOp .neq t x y yt, ty, pos, af, g⟩).run P w = .ok (.value (.bool (!decide (s = u)))) w := by
  simp [execOp, FA_eval hx, FA_eval hy, ha, hb, eqGuard, binOp, Op.stringOp]
  rw [Bool.eq_iff_iff]; simp
end
end Go.Proofs.YtlnlodfnplkckaaDoor
/- The engine: rows that grow by append, make, bytes as strings, the comparison of bytes. Each theorem's conditions stand in it. -/
namespace Go.Proofs.YtlnlodfnplkckaaDoor

/-- A slice of the call's own of n elements of sz cells, that holds xs; R: the box that it lies in, if any. -/
def RowAt (E sz : Nat) (v : Value) (n : Nat) (xs : List Value) (R : List Bx) : Prop :=
  xs.length = n * sz ∧ ((v = .slice none 0 0 ∧ n = 0 ∧ R = []) ∨
    ∃ g cap cur, v = .slice (some ⟨g, 0, none⟩) n cap ∧ n ≤ cap ∧ cap ≤ maxLen ∧ cur.size = cap * sz ∧ cur.toList.take (n * sz) = xs ∧ R = [⟨g, cur, E⟩])
theorem RowAt.nil (E sz : Nat) : RowAt E sz (.slice none 0 0) 0 [] [] := ⟨by simp, .inl ⟨rfl, rfl, rfl⟩⟩
theorem RowAt.slc {E sz : Nat} {v : Value} {n : Nat} {xs : List Value} {R : List Bx} (h : RowAt E sz v n xs R) : ∃ a cap, v = .slice a n cap := by
  obtain ⟨_, ⟨rfl, rfl, _⟩ | ⟨g, cap, cur, rfl, _⟩⟩ := h
  · exact ⟨none, 0, rfl⟩
  · exact ⟨_, cap, rfl⟩
theorem RowAt.one {E sz : Nat} {v : Value} {n : Nat} {xs : List Value} {R : List Bx} (h : RowAt E sz v n xs R) : One v := by
  obtain ⟨a, cap, rfl⟩ := h.slc; trivial

def elT (P : Program) (t e sz bytes : Nat) : Bool :=
  match P.underlying t with
  | some (.slice e') => Nat.beq e' e && (match P.info? e with
    | some i => Nat.beq i.size sz && Nat.beq i.bytes bytes && (match i.zero with | some z => Nat.beq z.cells.size sz | none => false)
    | none => false)
  | _ => false
theorem elT_spec {P : Program} {t e sz bytes : Nat} (h : elT P t e sz bytes = true) :
    ∃ (i : TypeInfo) (z : Value), P.underlying t = some (.slice e) ∧ P.info? e = some i ∧ i.zero = some z ∧ i.size = sz ∧ i.bytes = bytes ∧ z.cells.size = sz := by
  unfold elT at h
  cases hu : P.underlying t with
  | none => simp [hu] at h
  | some d =>
    cases d <;> simp [hu] at h
    obtain ⟨rfl, h⟩ := h
    rename_i e'
    cases hi : P.info? e' with
    | none => simp [hi] at h
    | some i =>
      cases hz : i.zero with
      | none => simp [hi, hz] at h
      | some z =>
        simp [hi, hz] at h
        exact ⟨i, z, rfl, rfl, hz, h.1.1, h.1.2, h.2⟩

theorem ones_old {l : List Value} (h : Ones l) : ∀ u ∈ l, u.oneCell' = true := fun u hu => by
  have := h.all u hu
  cases u <;> first | rfl | exact this.elim

section
variable {P : Program} {Q : Exit → Act → World → Prop} {K : Act → World → Prop} {f : Nat → Value} {n : Fr} {w : World}
  {d : Nat} {ty : TypeId} {pos : String} {af : Array Edge} {v : Value} {g : Option (Nat × Bool)}
  {w0 : World} {I0 I : GH} {X0 : List Nat} {L R : List Bx}

theorem run_app {t : TypeId} {s x : Operand} {w' : World} {u v' : Value} (hs : okO n s = true) (hx : okO n x = true) (hsv : ev f s = v) (hxv : ev f x = u)
    (h : (Builtin.append_ #[t, t] ty #[v, u]).run P w = .ok v' w') :
    (execOp (FA f n).eval ⟨some d, .call ⟨.builtin .append, #[s, x], #[t, t]⟩, ty, pos, af, g⟩).run P w = .ok (.value v') w' := by
  simp only [execOp, resolve, invoke, builtin, Sem.run_bind, Sem.run_pure, Result.andThen_ok, List.map_toArray, List.map_cons, List.map_nil, FA_eval hs, FA_eval hx, hsv, hxv, h]

/-- append of m elements that can be read at an address. -/
theorem ow_append {E sz bytes t k m c : Nat} {xs news : List Value} {s x : Operand} {ad : Addr} (hs : St w0 I0 X0 I (R ++ L) w) (hrow : RowAt E sz v k xs R) (hE : elT P t E sz bytes = true) (hpos : Nat.blt 0 sz = true)
    (hsok : okO n s = true) (hxok : okO n x = true) (hsv : ev f s = v) (hxv : ev f x = .slice (some ad) m c) (hl : news.length = m * sz)
    (hnews : ∀ j u, news[j]? = some u → w.cell? (ad.add j) = some u) (h1 : ∀ u ∈ news, u.oneCell' = true) (h63 : k + m ≤ maxLen) (hbytes : (k + m) * bytes ≤ 140737488355328) (hd : Nat.blt d n.k = true)
    (h : ∀ v' R' w', RowAt E sz v' (k + m) (xs ++ news) R' → St w0 I0 X0 I (R' ++ L) w' → (ids R' = ids R ∨ ∃ b, w0.heap.size ≤ b ∧ ids R' = [b]) → K (FA (upd f d v') n) w') :
    OW P ⟨some d, .call ⟨.builtin .append, #[s, x], #[t, t]⟩, ty, pos, af, g⟩ f n w K Q := by
  obtain ⟨i, z, hu, hi, hz, rfl, rfl, hzs⟩ := elT_spec hE
  have hpos := blt_lt hpos
  have hlen : (xs ++ news).length = (k + m) * i.size := by rw [List.length_append, hrow.1, hl, Nat.add_mul]
  have hdrop : St w0 I0 X0 I L w → ∀ (old : Nat), old < k + m →
      St w0 I0 X0 I (⟨w.heap.size, xs.toArray ++ news.toArray ++ Builtin.zeroCells z.cells (grownCap w (k + m) old E - (k + m)), E⟩ :: L) (w.drew.alloc (.cells (xs.toArray ++ news.toArray ++ Builtin.zeroCells z.cells (grownCap w (k + m) old E - (k + m))) E (0, 0))) ∧
      RowAt E i.size (.slice (some ⟨w.heap.size, 0, none⟩) (k + m) (grownCap w (k + m) old E)) (k + m) (xs ++ news)
        [⟨w.heap.size, xs.toArray ++ news.toArray ++ Builtin.zeroCells z.cells (grownCap w (k + m) old E - (k + m)), E⟩] := by
    intro hsL old ho
    refine ⟨(hsL.same (w' := w.drew) rfl rfl rfl rfl).alloc _ _, hlen, .inr ⟨_, _, _, rfl, grownCap_ge w (k + m) old E, grownCap_le_maxLen w (k + m) old E h63, ?_, ?_, rfl⟩⟩
    · have hge := grownCap_ge w (k + m) old E
      simp only [Array.size_append, List.size_toArray, size_zeroCells, hzs, hrow.1, hl, ← Nat.add_mul]
      congr 1
      omega
    · simp only [Array.toList_append, List.append_assoc]
      rw [← List.append_assoc, ← hlen]
      exact List.take_left
  rcases hrow.2 with ⟨rfl, rfl, rfl⟩ | ⟨gb, cap, cur, rfl, hnc, hcm, hcs, htake, rfl⟩
  · have hx0 : xs = [] := List.eq_nil_of_length_eq_zero (by simpa using hrow.1)
    subst hx0
    by_cases hm : m = 0
    · subst hm
      have hn : news = [] := List.eq_nil_of_length_eq_zero (by simpa using hl)
      subst hn
      have hr : (Builtin.append_ #[t, t] ty #[.slice none 0 0, .slice (some ad) 0 c]).run P w = .ok (.slice none 0 0) w := by
        simp [Builtin.append_, run_underlying hu, sizeOf, typeInfo, hi, Builtin.lenOf, Builtin.firstCells, loadCells, loadCellsFrom]
      exact ow_val (run_app hsok hxok hsv hxv hr) hd (h _ [] _ hrow hs (.inl rfl))
    · have hr := run_append_nil (P := P) w t ty E i z hu hi hz ad m c news hl hnews (by omega) (by simp only [maxLen] at h63; omega) (by have hb := hbytes; simp only [Nat.zero_add] at hb; omega)
      have hgr := hdrop hs 0 (by omega)
      simp only [Nat.zero_add, List.nil_append, Array.empty_append] at hgr h ⊢
      exact ow_val (run_app hsok hxok hsv hxv hr) hd (h _ [_] _ hgr.2 hgr.1 (.inr ⟨_, hs.fr.size, rfl⟩))
  · have hg := hs.bx ⟨gb, cur, E⟩ (.head _)
    by_cases hroom : k + m ≤ cap
    · have hfit : k * i.size + news.length ≤ cur.size := by rw [hl, hcs, ← Nat.add_mul]; exact Nat.mul_le_mul_right _ hroom
      have hr := run_append_room (P := P) (ty := ty) w t E i hu hi gb k cap cur hg ad m c news hl hnews h1 hroom hfit
      refine ow_val (run_app hsok hxok hsv hxv hr) hd (h _ [⟨gb, _, E⟩] _ ⟨hlen, .inr ⟨gb, cap, _, rfl, hroom, hcm, ?_, ?_, rfl⟩⟩
        (hs.put (setRow_heap w gb cur _ E _ hg) (by simp [World.setRow]) (fun k hk => setRow_other w gb k _ hk) rfl rfl rfl) (.inl rfl))
      · simp only [List.size_toArray, List.length_append, List.length_take, List.length_drop, Array.length_toList]
        omega
      · rw [htake, ← hlen]
        exact List.take_left
    · have holds : ∀ j u, xs[j]? = some u → w.cell? ((⟨gb, 0, none⟩ : Addr).add j) = some u := by
        intro j u hj
        have e : (⟨gb, 0, none⟩ : Addr).add j = ⟨gb, j, none⟩ := by unfold Addr.add; split <;> simp_all
        rw [e, cell_of hg, ← hj, ← htake, List.getElem?_take]
        have : j < k * i.size := by
          rw [← hrow.1]
          rcases Nat.lt_or_ge j xs.length with h' | h'
          · exact h'
          · simp [List.getElem?_eq_none h'] at hj
        simp [this]
      have hr := run_append_grow (P := P) (ty := ty) w t E i z hu hi hz ⟨gb, 0, none⟩ k cap xs hrow.1 holds ad m c news hl hnews (by omega) (by simp only [maxLen] at h63; omega) (growslice_fits (by omega) hbytes)
      have hgr := hdrop (show St w0 I0 X0 I (_ :: L) w from hs).drop cap (by omega)
      exact ow_val (run_app hsok hxok hsv hxv hr) hd (h _ [_] _ hgr.2 hgr.1 (.inr ⟨_, hs.fr.size, rfl⟩))

/-- An empty slice literal. -/
theorem ow_empty {E sz bytes t : Nat} (hs : St w0 I0 X0 I L w) (hE : elT P t E sz bytes = true) (hd : Nat.blt d n.k = true)
    (h : ∀ v' R' w', RowAt E sz v' 0 [] R' → St w0 I0 X0 I (R' ++ L) w' → (∃ b, w0.heap.size ≤ b ∧ ids R' = [b]) → K (FA (upd f d v') n) w') :
    OW P ⟨some d, .buildSlice t 0 #[], ty, pos, af, g⟩ f n w K Q := by
  obtain ⟨i, z, hu, hi, hz, rfl, rfl, hzs⟩ := elT_spec hE
  have hr : (execOp (FA f n).eval ⟨some d, .buildSlice t 0 #[], ty, pos, af, g⟩).run P w = .ok (.value (.slice (some ⟨w.heap.size, 0, none⟩) 0 0)) (w.alloc (.cells #[] E (0, 0))) := by
    have hfill : ∀ (p : Nat → Option (Nat × Nat)) (cs : Array Value), Instr.fill p cs [] = some cs := fun _ _ => rfl
    simp [execOp, Instr.buildSlice, run_underlying hu, sizeOf, typeInfo, hi, hfill, run_newRow, Array.range_zero']
  exact ow_val hr hd (h _ [⟨w.heap.size, #[], E⟩] _ ⟨by simp, .inr ⟨_, 0, #[], rfl, Nat.le_refl _, by simp [maxLen], by simp, by simp, rfl⟩⟩ (hs.alloc #[] E) ⟨_, hs.fr.size, rfl⟩)

end

/-! ### Slices that never change -/
/-- A slice of n elements of sz cells that reads as xs. -/
def SliceAt (I : GH) (v : Value) (n sz : Nat) (xs : List Value) : Prop :=
  ∃ a cap, v = .slice a n cap ∧ n ≤ cap ∧ (a = none → cap = 0) ∧ xs.length = n * sz ∧
    (xs ≠ [] → ∃ b off cs T fz, a = some ⟨b, off, none⟩ ∧ I b = some (.cells cs T fz) ∧ (cs.toList.drop off).take (n * sz) = xs)
theorem SliceAt.up {I J : GH} {v : Value} {n sz : Nat} {xs : List Value} (h : SliceAt I v n sz xs) (hle : I.le J) : SliceAt J v n sz xs := by
  obtain ⟨a, cap, h1, h2, h3, h4, h5⟩ := h
  refine ⟨a, cap, h1, h2, h3, h4, fun hx => ?_⟩
  obtain ⟨b, off, cs, T, fz, g1, g2, g3⟩ := h5 hx
  exact ⟨b, off, cs, T, fz, g1, hle _ _ g2, g3⟩
theorem SliceAt.one {I : GH} {v : Value} {n sz : Nat} {xs : List Value} (h : SliceAt I v n sz xs) : One v := by
  obtain ⟨a, cap, rfl, _⟩ := h; trivial
theorem SliceAt.nil (I : GH) (sz : Nat) : SliceAt I (.slice none 0 0) 0 sz [] := ⟨none, 0, rfl, Nat.le_refl _, fun _ => rfl, by simp, fun h => absurd rfl h⟩
/-- Where it lies, if it isn't empty. -/
theorem SliceAt.open {I : GH} {a : Option Addr} {n cap sz : Nat} {xs : List Value} (h : SliceAt I (.slice a n cap) n sz xs) (hx : xs ≠ []) :
    ∃ b off cs T fz, a = some ⟨b, off, none⟩ ∧ I b = some (.cells cs T fz) ∧ (cs.toList.drop off).take (n * sz) = xs := by
  obtain ⟨a', cap', h1, _, _, _, h5⟩ := h
  cases h1
  exact h5 hx
theorem part_of {cs : List Value} {off n sz i : Nat} {xs : List Value} (h : (cs.drop off).take (n * sz) = xs) (hi : i < n) : (cs.drop (off + i * sz)).take sz = (xs.drop (i * sz)).take sz := by
  rw [← h, List.drop_take, List.drop_drop, List.take_take]
  congr 1
  have : (i + 1) * sz ≤ n * sz := Nat.mul_le_mul_right _ hi
  rw [Nat.add_mul, Nat.one_mul] at this
  omega

theorem St.freezeRow {w0 : World} {I0 I : GH} {X0 : List Nat} {R L : List Bx} {w : World} {E sz n : Nat} {v : Value} {xs : List Value} (hs : St w0 I0 X0 I (R ++ L) w) (hrow : RowAt E sz v n xs R)
    (hX : ∀ b, b ∈ X0 → b ∈ ids L) : ∃ J, I.le J ∧ St w0 I0 X0 J L w ∧ SliceAt J v n sz xs := by
  rcases hrow with ⟨hl, ⟨rfl, rfl, rfl⟩ | ⟨g, cap, cur, rfl, hnc, hcm, hcs, htake, rfl⟩⟩
  · have : xs = [] := List.eq_nil_of_length_eq_zero (by simpa using hl)
    subst this
    exact ⟨I, GH.le.refl _, hs, SliceAt.nil I sz⟩
  · have hge : w0.heap.size ≤ g := by
      rcases (hs.own _ (.head _)).2 with h | h
      · exact h
      · exact absurd (hX g h) (List.nodup_cons.1 (show (g :: ids L).Nodup from hs.nd)).1
    obtain ⟨h1, h2⟩ := St.freeze (x := ⟨g, cur, E⟩) hs hge
    exact ⟨_, h2, h1, _, cap, rfl, hnc, (fun h => by cases h), hl, fun _ => ⟨g, 0, cur, E, (0, 0), rfl, GH.add_same _ _ _, by simpa using htake⟩⟩

/-- The elements of a slice as append reads them. -/
theorem SliceAt.news {w : World} {b off : Nat} {cs : Array Value} {T : TypeId} {fz : Nat × Nat} {m : Nat} {xs : List Value} (hb : w.heap[b]? = some (.cells cs T fz)) (h : (cs.toList.drop off).take m = xs) :
    ∀ j u, xs[j]? = some u → w.cell? ((⟨b, off, none⟩ : Addr).add j) = some u := by
  intro j u hj
  have e : (⟨b, off, none⟩ : Addr).add j = ⟨b, off + j, none⟩ := by unfold Addr.add; split <;> simp_all
  rw [e, cell_of hb, ← hj, ← h, List.getElem?_take, List.getElem?_drop]
  have : j < m := by
    rcases Nat.lt_or_ge j m with h' | h'
    · exact h'
    · exfalso
      rw [← h, List.getElem?_take] at hj
      simp [Nat.not_lt.2 h'] at hj
  simp [this]

/-! ### Bytes -/
abbrev Bs := List UInt8
def bV (u : UInt8) : Value := .int .u8 u.toNat
theorem bV_old (k : Bs) : ∀ u ∈ k.map bV, u.oneCell' = true := fun u hu => by
  obtain ⟨x, _, rfl⟩ := List.mem_map.1 hu; rfl
/-- A slice of bytes that reads as k. -/
def BytesAt (I : GH) (v : Value) (k : Bs) : Prop := SliceAt I v k.length 1 (k.map bV)
theorem BytesAt.up {I J : GH} {v : Value} {k : Bs} (h : BytesAt I v k) (hle : I.le J) : BytesAt J v k := SliceAt.up h hle
theorem BytesAt.one {I : GH} {v : Value} {k : Bs} (h : BytesAt I v k) : One v := SliceAt.one h
theorem BytesAt.nil (I : GH) : BytesAt I (.slice none 0 0) [] := SliceAt.nil I 1

section
variable {P : Program} {I : GH} {w : World} {v : Value} {k m : Bs} {f : Nat → Value} {n : Fr} {d : Option Tmp} {ty : TypeId} {pos : String} {af : Array Edge} {g : Option (Nat × Bool)} {x y : Operand}
theorem strOfNums_map (k : Bs) : strOfNums (k.map fun u => (u.toNat : Int)) = ⟨k.toArray⟩ := by
  unfold strOfNums
  congr 2
  rw [List.map_map]
  have : ((fun n : Int => UInt8.ofNat n.toNat) ∘ fun u : UInt8 => (u.toNat : Int)) = id := by
    funext u; simp
  rw [this, List.map_id]
def byT (P : Program) (t e : TypeId) : Bool :=
  match P.underlying t with
  | some (.slice e') => Nat.beq e' e && intT P e .u8
  | _ => false
theorem run_bytesStr {src dst e : TypeId} (hs : byT P src e = true) (hd : strT P dst = true) (h : BytesAt I v k) (hw : ∀ b o, I b = some o → w.heap[b]? = some o) :
    (convert src dst v).run P w = .ok (.string ⟨k.toArray⟩) w := by
  unfold byT at hs
  unfold strT at hd
  cases hu : P.underlying src with
  | none => simp [hu] at hs
  | some dd =>
    cases dd <;> simp [hu] at hs
    rename_i e'
    obtain ⟨rfl, he⟩ := hs
    unfold intT at he
    cases hue : P.underlying e' with
    | none => simp [hue] at he
    | some de =>
      cases de <;> simp [hue] at he
      subst he
      cases hud : P.underlying dst with
      | none => simp [hud] at hd
      | some dd => 
        cases dd <;> simp [hud] at hd
        obtain ⟨a, cap, rfl, hnc, hna, hl, ho⟩ := h
        by_cases hk : k = []
        · subst hk
          cases a with
          | none => rw [run_convert_bytes_nil w src e' hu hue _ _ dst hud]; rfl
          | some ad =>
            rw [run_convert_bytes_string w src dst e' _ _ cap hu hue hud]
            have := run_bytesToString (P := P) w ad 0 cap [] (by simp [loadCells, loadCellsFrom])
            simp only [List.foldl_nil] at this
            exact this
        · obtain ⟨b, off, cs, T, fz, rfl, hb, ht⟩ := ho (by simpa using hk)
          have hcell := SliceAt.news (hw b _ hb) ht
          have := run_convert_bytes_arg (P := P) w src e' hu hue b off k.length cap (k.map fun u => (u.toNat : Int)) (by simp) (fun i hi => by
            have h1 := hcell i (bV k[i]) (by simp [hi])
            have e : (⟨b, off, none⟩ : Addr).add i = ⟨b, off + i, none⟩ := by unfold Addr.add; split <;> simp_all
            rw [e] at h1
            rw [h1]; simp [bV, hi]) dst hud
          rw [this, strOfNums_map]
theorem r_bytesStr {src dst e : TypeId} (hx : okO n x = true) (hs : byT P src e = true) (hd : strT P dst = true) (hv : ev f x = v) (h : BytesAt I v k) (hw : ∀ b o, I b = some o → w.heap[b]? = some o) :
    (execOp (FA f n).eval ⟨d, .convert src dst x, ty, pos, af, g⟩).run P w = .ok (.value (.string ⟨k.toArray⟩)) w := by
  simp [execOp, FA_eval hx, hv, run_bytesStr hs hd h hw]

/-! bytealg.Compare -/
def cmpB : Bs → Bs → Int
  | [], [] => 0
  | [], _ :: _ => -1
  | _ :: _, [] => 1
  | a :: k, b :: m => if a < b then -1 else if b < a then 1 else cmpB k m
theorem run_bytesOf (h : BytesAt I v k) (hw : ∀ b o, I b = some o → w.heap[b]? = some o) : (Extern.Bytes.bytesOf v).run P w = .ok ⟨k.toArray⟩ w := by
  obtain ⟨a, cap, rfl, hnc, hna, hl, ho⟩ := h
  have key : ∀ (k : Bs) (ad : Addr) (acc : ByteArray), (∀ j u, (k.map bV)[j]? = some u → w.cell? (ad.add j) = some u) → (ad.spot = none) → (Extern.Bytes.loadBytes ad k.length acc).run P w = .ok ⟨acc.data ++ k.toArray⟩ w := by
    intro k
    induction k with
    | nil => intro ad acc _ _; simp [Extern.Bytes.loadBytes]
    | cons u us ih =>
      intro ad acc hc hsp
      have h0 : w.cell? ad = some (bV u) := by
        have := hc 0 (bV u) (by simp)
        simpa [Addr.add] using this
      have h1 := ih (ad.add 1) (acc.push u) (fun j x hj => by
        have := hc (j + 1) x (by simpa using hj)
        have e : (ad.add 1).add j = ad.add (j + 1) := by
          unfold Addr.add
          by_cases hj0 : j = 0
          · simp [hj0]
          · simp [hj0]; omega
        rw [e]; exact this) (by simp [Addr.add])
      simp only [List.length_cons, Extern.Bytes.loadBytes, Sem.run_bind, Go.load, Sem.run, h0, Result.andThen_ok, bV]
      simp only [Int.toNat_natCast]
      have e2 : Nat.toUInt8 u.toNat = u := by simp
      rw [e2, h1]
      simp [ByteArray.push]
  by_cases hk : k = []
  · subst hk
    cases a with
    | none => rfl
    | some ad => simp [Extern.Bytes.bytesOf, Extern.Bytes.loadBytes]; rfl
  · obtain ⟨b, off, cs, T, fz, rfl, hb, ht⟩ := ho (by simpa using hk)
    have := key k ⟨b, off, none⟩ .empty (fun j u hj => SliceAt.news (hw b _ hb) ht j u hj) rfl
    simpa [Extern.Bytes.bytesOf] using this
end
end Go.Proofs.YtlnlodfnplkckaaDoor
