/- Texts of the walk, laid together. Each theorem's conditions stand in it. -/
import Derived.Test.YtlnlodfnplkckaaDoorF1
import Derived.Test.YtlnlodfnplkckaaDoorProg
import Derived.Laws.Slices
import Derived.Lib.BitFns
import Derived.Laws.Strings
/- How meters, byte slices, pairs and trees lie in memory; the comparison of bytes. Each theorem's conditions stand in it. -/
namespace Go.Proofs.YtlnlodfnplkckaaDoor
theorem cmp_find : Extern.find Tryd.f130 = some Extern.BytealgCompare.compare := by kernel_rfl
theorem cmp_next : (Extern.findNext Tryd.f130).isNone = true := by kernel_rfl
theorem cmp_body : Tryd.f130.body.isNone = true := by kernel_rfl
theorem cmp_name : (Tryd.f130.name == "runtime.NumGoroutine") = false := by kernel_rfl

theorem bsz (l : Bs) : (ByteArray.mk l.toArray).size = l.length := by show l.toArray.size = _; simp
theorem cmp_eq : ∀ k m : Bs, Extern.BytealgCompare.cmp ⟨k.toArray⟩ ⟨m.toArray⟩ = cmpB k m := by
  intro k
  induction k with
  | nil =>
    intro m
    unfold Extern.BytealgCompare.cmp
    rw [bsz, bsz]
    cases m with
    | nil => rfl
    | cons b m => simp [cmpB]
  | cons a k ih =>
    intro m
    cases m with
    | nil =>
      unfold Extern.BytealgCompare.cmp
      rw [bsz, bsz]
      simp [cmpB]
    | cons b m =>
      have ih := ih m
      have gz : ∀ (u : UInt8) (l : Bs), (ByteArray.mk (u :: l).toArray)[0]! = u := fun u l => rfl
      have gs : ∀ (u : UInt8) (l : Bs) (i : Nat), (ByteArray.mk (u :: l).toArray)[i + 1]! = (ByteArray.mk l.toArray)[i]! := fun u l i => by
        by_cases h : i < l.length
        · rw [getElem!_pos _ _ (by rw [bsz]; simpa using h), getElem!_pos _ _ (by rw [bsz]; exact h)]
          show (u :: l).toArray[i + 1]'(by simpa using h) = l.toArray[i]'(by simpa using h)
          simp
        · rw [getElem!_neg _ _ (by rw [bsz]; simpa using h), getElem!_neg _ _ (by rw [bsz]; exact h)]
      unfold Extern.BytealgCompare.cmp at ih ⊢
      rw [bsz, bsz] at ih ⊢
      have hmin : min (a :: k).length (b :: m).length = min k.length m.length + 1 := by simp only [List.length_cons]; omega
      rw [hmin, List.range_succ_eq_map, List.find?_cons]
      by_cases hab : a = b
      · subst hab
        simp only [gz, bne_self_eq_false]
        rw [List.find?_map]
        have : ((fun i => (ByteArray.mk (a :: k).toArray)[i]! != (ByteArray.mk (a :: m).toArray)[i]!) ∘ Nat.succ) = (fun i => (ByteArray.mk k.toArray)[i]! != (ByteArray.mk m.toArray)[i]!) := by
          funext i; simp only [Function.comp, Nat.succ_eq_add_one, gs]
        rw [this]
        have hc : cmpB (a :: k) (a :: m) = cmpB k m := by simp [cmpB, UInt8.lt_irrefl]
        rw [hc, ← ih]
        cases List.find? (fun i => (ByteArray.mk k.toArray)[i]! != (ByteArray.mk m.toArray)[i]!) (List.range (min k.length m.length)) with
        | none => simp
        | some i => simp only [Option.map_some, Nat.succ_eq_add_one, gs]
      · have hne : (a != b) = true := by simpa using hab
        simp only [gz, hne, cmpB]
        by_cases hlt : a < b
        · simp only [hlt, if_true]
        · have h2 : b < a := by
            rcases UInt8.lt_or_lt_of_ne hab with h | h
            · exact absurd h hlt
            · exact h
          simp only [hlt, h2, if_true, if_false]

section
variable {I : GH} {f : Nat → Value} {n : Fr} {w : World} {d : Option Tmp} {ty : TypeId} {pos : String} {af : Array Edge} {g : Option (Nat × Bool)} {x y : Operand} {u v : Value} {k m : Bs}
set_option maxRecDepth 100000 in
theorem r_cmp {ats : Array TypeId} (hx : okO n x = true) (hy : okO n y = true) (hu : ev f x = u) (hv : ev f y = v) (hk : BytesAt I u k) (hm : BytesAt I v m) (hw : ∀ b o, I b = some o → w.heap[b]? = some o) :
    (execOp (FA f n).eval ⟨d, .call ⟨.value (.func 130), #[x, y], ats⟩, ty, pos, af, g⟩).run Tryd.prog w = .ok (.value (.int .i64 (cmpB k m))) w := by
  have hf : Extern.findNext Tryd.f130 = none := by
    have := cmp_next
    cases h : Extern.findNext Tryd.f130 with
    | none => rfl
    | some e => rw [h] at this; cases this
  have e0 : (FA f n).eval (.func 130) = .func (.func 130) #[] #[] := rfl
  have hcmp : (Extern.BytealgCompare.compare #[u, v]).run Tryd.prog w = .ok (.int .i64 (cmpB k m)) w := by
    have e : Extern.BytealgCompare.compare #[u, v] = (do pure (goInt (Extern.BytealgCompare.cmp (← Extern.Bytes.bytesOf u) (← Extern.Bytes.bytesOf v)))) := rfl
    rw [e]
    simp [run_bytesOf (P := Tryd.prog) hk hw, run_bytesOf (P := Tryd.prog) hm hw, cmp_eq, goInt]
  simp only [execOp, resolve, Sem.run_bind, List.map_toArray, List.map_cons, List.map_nil, FA_eval hx, FA_eval hy, hu, hv, Deferred.ofValue, e0]
  simp only [Sem.run_pure, Result.andThen_ok, invoke]
  exact run_extern Tryd.func130 cmp_name cmp_body hf cmp_find (by simpa using hcmp)
end

/-! ### Meters: a pointer that may be nil; 'int's that go round -/
def mV (m : Option Nat) : Value := .pointer (m.map fun b => ⟨b, 0, none⟩)
/- behind a choice, so that the kernel doesn't reckon it -/
theorem wz_is : ∃ f : Nat → Int, ∀ v : Nat, f v = IntKind.i64.wrap (v : Int) := ⟨fun v => IntKind.i64.wrap (v : Int), fun _ => rfl⟩
noncomputable def wz : Nat → Int := Classical.choose wz_is
theorem wz_def (v : Nat) : wz v = IntKind.i64.wrap (v : Int) := Classical.choose_spec wz_is v
theorem wz_add (v : Nat) : IntKind.i64.wrap (wz v + 1) = wz (v + 1) := by
  rw [wz_def, wz_def]
  have h1 := IntKind.wrap_i64 (v : Int)
  have h2 := IntKind.wrap_i64 ((v + 1 : Nat) : Int)
  have h3 := IntKind.wrap_i64 (IntKind.i64.wrap (v : Int) + 1)
  generalize IntKind.i64.wrap (v : Int) = a at *
  generalize IntKind.i64.wrap ((v + 1 : Nat) : Int) = b at *
  generalize IntKind.i64.wrap (a + 1) = c at *
  omega
theorem wz_small {v : Nat} (h : v ≤ 1000000000) : wz v = (v : Int) := by
  rw [wz_def, IntKind.wrap_i64]; omega
noncomputable def mX (m : Option Nat) (v c : Nat) : List Bx :=
  match m with
  | none => []
  | some b => [⟨b, #[.int .i64 (wz v), .int .i64 (wz c)], 37⟩]
theorem mX_ids (m : Option Nat) (v c v' c' : Nat) : ids (mX m v c) = ids (mX m v' c') := by cases m <;> simp [mX, ids]

/-! ### Pairs -/
/-- Cells that hold pairs of byte slices. -/
def PairCells (I : GH) : List Value → List (Bs × Bs) → Prop
  | [], [] => True
  | kv :: xv :: cs, p :: l => BytesAt I kv p.1 ∧ BytesAt I xv p.2 ∧ PairCells I cs l
  | _, _ => False
theorem PairCells.up {I J : GH} (hle : I.le J) : ∀ {cs : List Value} {l : List (Bs × Bs)}, PairCells I cs l → PairCells J cs l
  | [], [], _ => trivial
  | _ :: _ :: _, _ :: _, ⟨h1, h2, h3⟩ => ⟨h1.up hle, h2.up hle, PairCells.up hle h3⟩
  | [], _ :: _, h => h.elim
  | [_], _, h => by cases ‹List (Bs × Bs)› <;> exact h.elim
  | _ :: _ :: _, [], h => h.elim
theorem PairCells.length {I : GH} : ∀ {cs : List Value} {l : List (Bs × Bs)}, PairCells I cs l → cs.length = l.length * 2
  | [], [], _ => rfl
  | _ :: _ :: cs, _ :: l, ⟨_, _, h3⟩ => by have := PairCells.length h3; simp only [List.length_cons]; omega
  | [], _ :: _, h => h.elim
  | [_], _, h => by cases ‹List (Bs × Bs)› <;> exact h.elim
  | _ :: _ :: _, [], h => h.elim
theorem PairCells.snoc {I : GH} : ∀ {cs : List Value} {l : List (Bs × Bs)} {kv xv : Value} {k x : Bs}, PairCells I cs l → BytesAt I kv k → BytesAt I xv x → PairCells I (cs ++ [kv, xv]) (l ++ [(k, x)])
  | [], [], _, _, _, _, _, hk, hx => ⟨hk, hx, trivial⟩
  | _ :: _ :: _, _ :: _, _, _, _, _, ⟨h1, h2, h3⟩, hk, hx => ⟨h1, h2, PairCells.snoc h3 hk hx⟩
  | [], _ :: _, _, _, _, _, h, _, _ => h.elim
  | [_], _, _, _, _, _, h, _, _ => by cases ‹List (Bs × Bs)› <;> exact h.elim
  | _ :: _ :: _, [], _, _, _, _, h, _, _ => h.elim
theorem PairCells.append {I : GH} : ∀ {cs ds : List Value} {l m : List (Bs × Bs)}, PairCells I cs l → PairCells I ds m → PairCells I (cs ++ ds) (l ++ m)
  | [], _, [], _, _, h => h
  | _ :: _ :: _, _, _ :: _, _, ⟨h1, h2, h3⟩, h => ⟨h1, h2, PairCells.append h3 h⟩
  | [], _, _ :: _, _, h, _ => h.elim
  | [_], _, _, _, h, _ => by cases ‹List (Bs × Bs)› <;> exact h.elim
  | _ :: _ :: _, _, [], _, h, _ => h.elim
theorem PairCells.get {I : GH} : ∀ {cs : List Value} {l : List (Bs × Bs)} {i : Nat}, PairCells I cs l → (h : i < l.length) →
    ∃ kv xv, (cs.drop (i * 2)).take 2 = [kv, xv] ∧ BytesAt I kv l[i].1 ∧ BytesAt I xv l[i].2
  | kv :: xv :: _, _ :: _, 0, ⟨h1, h2, _⟩, _ => ⟨kv, xv, by simp, h1, h2⟩
  | _ :: _ :: cs, _ :: l, i + 1, ⟨_, _, h3⟩, h => by
    obtain ⟨kv, xv, h4, h5, h6⟩ := PairCells.get h3 (i := i) (by simpa using h)
    refine ⟨kv, xv, ?_, h5, h6⟩
    rw [show (i + 1) * 2 = i * 2 + 1 + 1 by omega]
    simpa using h4
  | [_], [], _, h, _ => h.elim
  | [_], _ :: _, _, h, _ => h.elim
  | [], _ :: _, _, h, _ => h.elim
  | [], [], _, _, h => by simp at h
theorem PairCells.drop {I : GH} : ∀ {cs : List Value} {l : List (Bs × Bs)} (i : Nat), PairCells I cs l → PairCells I (cs.drop (i * 2)) (l.drop i)
  | _, _, 0, h => by simpa using h
  | [], [], i + 1, h => by simpa using h
  | _ :: _ :: cs, _ :: l, i + 1, ⟨_, _, h3⟩ => by
    have := PairCells.drop i h3
    rw [show (i + 1) * 2 = i * 2 + 1 + 1 by omega]
    simpa using this
  | [], _ :: _, _ + 1, h => h.elim
  | [_], [], _ + 1, h => h.elim
  | [_], _ :: _, _ + 1, h => h.elim
  | _ :: _ :: _, [], _ + 1, h => h.elim
theorem PairCells.take {I : GH} : ∀ {cs : List Value} {l : List (Bs × Bs)} (i : Nat), PairCells I cs l → PairCells I (cs.take (i * 2)) (l.take i)
  | _, _, 0, _ => by simp [PairCells]
  | [], [], i + 1, h => by simpa using h
  | _ :: _ :: cs, _ :: l, i + 1, ⟨h1, h2, h3⟩ => by
    have := PairCells.take i h3
    rw [show (i + 1) * 2 = i * 2 + 1 + 1 by omega]
    exact ⟨h1, h2, this⟩
  | [], _ :: _, _ + 1, h => h.elim
  | [_], [], _ + 1, h => h.elim
  | [_], _ :: _, _ + 1, h => h.elim
  | _ :: _ :: _, [], _ + 1, h => h.elim
/-- A slice of pairs. -/
def PairsAt (I : GH) (v : Value) (l : List (Bs × Bs)) : Prop := ∃ cs, SliceAt I v l.length 2 cs ∧ PairCells I cs l
theorem PairsAt.up {I J : GH} {v : Value} {l : List (Bs × Bs)} (h : PairsAt I v l) (hle : I.le J) : PairsAt J v l := by
  obtain ⟨cs, h1, h2⟩ := h; exact ⟨cs, h1.up hle, h2.up hle⟩
theorem PairsAt.one {I : GH} {v : Value} {l : List (Bs × Bs)} (h : PairsAt I v l) : One v := by
  obtain ⟨cs, h1, _⟩ := h; exact h1.one

/-- The trees of package tree. -/
inductive T where
  | nil
  | node (l : T) (k x : Bs) (r : T)
namespace T
def size : T → Nat
  | .nil => 0
  | .node l _ _ r => l.size + 1 + r.size
end T

def TreeAt (I : GH) : Option Addr → T → Prop
  | p, .nil => p = none
  | p, .node l k x r => ∃ b kv xv lp rp, p = some ⟨b, 0, none⟩ ∧
      I b = some (.cells #[kv, xv, .pointer lp, .pointer rp, .int .i64 ((l.size + 1 + r.size : Nat) : Int)] 169 (0, 0)) ∧
      BytesAt I kv k ∧ BytesAt I xv x ∧ TreeAt I lp l ∧ TreeAt I rp r
theorem TreeAt.up {I J : GH} : ∀ {p : Option Addr} {t : T}, TreeAt I p t → I.le J → TreeAt J p t := by
  intro p t
  induction t generalizing p with
  | nil => exact fun h _ => h
  | node l k x r ihl ihr =>
    rintro ⟨b, kv, xv, lp, rp, h1, h2, h3, h4, h5, h6⟩ hle
    exact ⟨b, kv, xv, lp, rp, h1, hle _ _ h2, h3.up hle, h4.up hle, ihl h5 hle, ihr h6 hle⟩
end Go.Proofs.YtlnlodfnplkckaaDoor
/- The engine: slices of slices, quotients, append into the room that there is, loads of an element, joints of drawn regions. Each theorem's conditions stand in it. -/
namespace Go.Proofs.YtlnlodfnplkckaaDoor
section
variable {P : Program} {Q : Exit → Act → World → Prop} {K : Act → World → Prop} {f : Nat → Value} {n : Fr} {w : World}
  {d : Option Tmp} {ty yt : TypeId} {pos : String} {af : Array Edge} {v : Value} {g : Option (Nat × Bool)}
  {w0 : World} {I0 I : GH} {X0 : List Nat} {L R : List Bx} {x y : Operand} {a b : Int}
theorem r_quoi (hx : okO n x = true) (hy : okO n y = true) (ha : ev f x = .int .i64 a) (hb : ev f y = .int .i64 b) (h : 0 ≤ a ∧ a ≤ 9223372036854775807 ∧ 1 ≤ b) :
    (execOp (FA f n).eval ⟨d, .binOp .quo yt x y ty, ty, pos, af, g⟩).run P w = .ok (.value (.int .i64 (a / b))) w := by
  have h0 : b ≠ 0 := by omega
  simp [execOp, FA_eval hx, FA_eval hy, ha, hb, eqGuard, binOp, Op.intDiv, h0, Go.IntWalk.i64_quo a b h]
theorem r_quoN {a b : Nat} (hx : okO n x = true) (hy : okO n y = true) (ha : ev f x = .int .i64 (a : Int)) (hb : ev f y = .int .i64 (b : Int)) (h : a ≤ 9223372036854775807 ∧ 1 ≤ b) :
    (execOp (FA f n).eval ⟨d, .binOp .quo yt x y ty, ty, pos, af, g⟩).run P w = .ok (.value (.int .i64 ((a / b : Nat) : Int))) w :=
  r_quoi hx hy ha hb ⟨by omega, by omega, by omega⟩
theorem slcT_el {P : Program} {t e sz : Nat} (h : slcT P t e sz = true) : P.underlying t = some (.slice (P.elem t)) ∧ (∀ w, (sizeOf (P.elem t)).run P w = .ok sz w) := by
  unfold slcT at h
  cases hu : P.underlying t with
  | none => simp [hu] at h
  | some dd =>
    cases dd <;> simp [hu] at h
    rename_i e'
    obtain ⟨h1, h2⟩ := h
    have he : P.elem t = e' := by simp [Program.elem, hu]
    rw [he]
    exact ⟨rfl, fun w => by subst h1; exact sizT_spec h2 w⟩
theorem r_sliceH {t e sz len cap h : Nat} {ad : Option Addr} (hx : okO n x = true) (hy : okO n y = true) (ht : slcT P t e sz = true) (hv : ev f x = .slice ad len cap) (hi : ev f y = .int .i64 (h : Int)) (hc : h ≤ cap) :
    (execOp (FA f n).eval ⟨d, .slice t x none (some y) none, ty, pos, af, g⟩).run P w = .ok (.value (sliced ad 0 h cap sz)) w := by
  obtain ⟨hu, hz⟩ := slcT_el ht
  have h1 := run_slice_h (P := P) w t ad len cap hu .i64 (h : Int) (by omega) (by omega)
  rw [hz] at h1
  simp only [Result.andThen_ok, Int.toNat_natCast] at h1
  simp [execOp, FA_eval hx, FA_eval hy, hv, hi, run_sliceAt_slice w t _ _ _ _ hu, h1]
theorem r_sliceL {t e sz len cap l : Nat} {ad : Option Addr} (hx : okO n x = true) (hy : okO n y = true) (ht : slcT P t e sz = true) (hv : ev f x = .slice ad len cap) (hi : ev f y = .int .i64 (l : Int)) (hc : l ≤ len) :
    (execOp (FA f n).eval ⟨d, .slice t x (some y) none none, ty, pos, af, g⟩).run P w = .ok (.value (sliced ad l len cap sz)) w := by
  obtain ⟨hu, hz⟩ := slcT_el ht
  have h1 := run_slice_l (P := P) w t ad len cap hu .i64 (l : Int) (by omega) (by omega)
  rw [hz] at h1
  simp only [Result.andThen_ok, Int.toNat_natCast] at h1
  simp [execOp, FA_eval hx, FA_eval hy, hv, hi, run_sliceAt_slice w t _ _ _ _ hu, h1]
theorem addr_add (b off i : Nat) : (⟨b, off, none⟩ : Addr).add i = ⟨b, off + i, none⟩ := by unfold Addr.add; split <;> simp_all
theorem addr_add0 (a : Addr) : a.add 0 = a := by unfold Addr.add; simp
/-- The front of a slice; what is behind it. -/
theorem SliceAt.front {I : GH} {ad : Option Addr} {len cap sz h : Nat} {xs : List Value} (hs : SliceAt I (.slice ad len cap) len sz xs) (hh : h ≤ len) : SliceAt I (sliced ad 0 h cap sz) h sz (xs.take (h * sz)) := by
  obtain ⟨a', cap', h1, h2, h3, h4, h5⟩ := hs
  cases h1
  have e : sliced ad 0 h cap sz = .slice ad h cap := by
    unfold sliced
    cases ad with
    | none => simp
    | some a => simp [addr_add0]
  have hm := Nat.mul_le_mul_right sz hh
  refine ⟨ad, cap, e, by omega, h3, by simp; omega, fun hne => ?_⟩
  have hx : xs ≠ [] := fun e => hne (by simp [e])
  obtain ⟨b, off, cs, T, fz, g1, g2, g3⟩ := h5 hx
  exact ⟨b, off, cs, T, fz, g1, g2, by rw [← g3, List.take_take, Nat.min_eq_left hm]⟩
theorem SliceAt.back {I : GH} {ad : Option Addr} {len cap sz l : Nat} {xs : List Value} (hs : SliceAt I (.slice ad len cap) len sz xs) (hl : l ≤ len) : SliceAt I (sliced ad l len cap sz) (len - l) sz (xs.drop (l * sz)) := by
  obtain ⟨a', cap', h1, h2, h3, h4, h5⟩ := hs
  cases h1
  have hsub : len * sz - l * sz = (len - l) * sz := by rw [Nat.sub_mul]
  refine ⟨_, _, rfl, by omega, ?_, by simp [h4, hsub], fun hne => ?_⟩
  · intro e
    by_cases hc : cap = l
    · simp [hc]
    · simp only [hc, if_false, Option.map_eq_none_iff] at e
      have := h3 e; omega
  · have hx : xs ≠ [] := fun e => hne (by simp [e])
    obtain ⟨b, off, cs, T, fz, g1, g2, g3⟩ := h5 hx
    have hlt : l < len := by
      rcases Nat.lt_or_ge l len with h | h
      · exact h
      · exfalso; apply hne; apply List.drop_eq_nil_of_le; rw [h4]; exact Nat.mul_le_mul_right _ h
    refine ⟨b, off + l * sz, cs, T, fz, ?_, g2, ?_⟩
    · subst g1
      have : cap ≠ l := by omega
      simp [this, addr_add]
    · rw [← g3, List.drop_take, List.drop_drop, hsub]
theorem PairsAt.front {I : GH} {ad : Option Addr} {cap h : Nat} {l : List (Bs × Bs)} (hs : PairsAt I (.slice ad l.length cap) l) (hh : h ≤ l.length) : PairsAt I (sliced ad 0 h cap 2) (l.take h) := by
  obtain ⟨cs, h1, h2⟩ := hs
  refine ⟨cs.take (h * 2), ?_, h2.take h⟩
  have := h1.front hh
  rwa [List.length_take, Nat.min_eq_left hh]
theorem PairsAt.back {I : GH} {ad : Option Addr} {cap h : Nat} {l : List (Bs × Bs)} (hs : PairsAt I (.slice ad l.length cap) l) (hh : h ≤ l.length) : PairsAt I (sliced ad h l.length cap 2) (l.drop h) := by
  obtain ⟨cs, h1, h2⟩ := hs
  refine ⟨cs.drop (h * 2), ?_, h2.drop h⟩
  have := h1.back hh
  rwa [List.length_drop]
theorem PairsAt.slc {I : GH} {v : Value} {l : List (Bs × Bs)} (h : PairsAt I v l) : ∃ ad cap, v = .slice ad l.length cap := by
  obtain ⟨cs, ⟨a, cap, h1, _⟩, _⟩ := h
  exact ⟨a, cap, h1⟩
/-- An element of a slice of pairs. -/
theorem PairsAt.at {I : GH} {ad : Option Addr} {cap i : Nat} {l : List (Bs × Bs)} (hs : PairsAt I (.slice ad l.length cap) l) (hi : i < l.length) :
    ∃ b off cs T fz kv xv, ad = some ⟨b, off, none⟩ ∧ I b = some (.cells cs T fz) ∧ (cs.toList.drop (off + i * 2)).take 2 = [kv, xv] ∧ BytesAt I kv l[i].1 ∧ BytesAt I xv l[i].2 := by
  obtain ⟨xs, h1, h2⟩ := hs
  have hne : xs ≠ [] := by
    intro e
    have := h2.length
    rw [e, List.length_nil] at this
    omega
  obtain ⟨b, off, cs, T, fz, g1, g2, g3⟩ := h1.open hne
  obtain ⟨kv, xv, k1, k2, k3⟩ := h2.get hi
  exact ⟨b, off, cs, T, fz, kv, xv, g1, g2, by rw [part_of g3 hi, k1], k2, k3⟩
end
section
variable {P : Program} {Q : Exit → Act → World → Prop} {K : Act → World → Prop} {f : Nat → Value} {n : Fr} {w : World}
  {d : Nat} {ty : TypeId} {pos : String} {af : Array Edge} {v : Value} {g : Option (Nat × Bool)}
  {w0 : World} {I0 I : GH} {X0 : List Nat} {L R : List Bx}
/-- append into the room that there is. -/
theorem ow_appendRoom {E sz bytes t k m c gb cap : Nat} {cur : Array Value} {news : List Value} {s x : Operand} {ad : Addr} (hs : St w0 I0 X0 I ([⟨gb, cur, E⟩] ++ L) w) (hE : elT P t E sz bytes = true)
    (hsok : okO n s = true) (hxok : okO n x = true) (hsv : ev f s = .slice (some ⟨gb, 0, none⟩) k cap) (hxv : ev f x = .slice (some ad) m c) (hl : news.length = m * sz)
    (hnews : ∀ j u, news[j]? = some u → w.cell? (ad.add j) = some u) (h1 : ∀ u ∈ news, u.oneCell' = true) (hcs : cur.size = cap * sz) (hroom : k + m ≤ cap) (hd : Nat.blt d n.k = true)
    (h : ∀ cur' w', cur'.size = cap * sz → cur'.toList.take ((k + m) * sz) = cur.toList.take (k * sz) ++ news → St w0 I0 X0 I ([⟨gb, cur', E⟩] ++ L) w' → K (FA (upd f d (.slice (some ⟨gb, 0, none⟩) (k + m) cap)) n) w') :
    OW P ⟨some d, .call ⟨.builtin .append, #[s, x], #[t, t]⟩, ty, pos, af, g⟩ f n w K Q := by
  obtain ⟨i, z, hu, hi, hz, rfl, rfl, hzs⟩ := elT_spec hE
  have hg := hs.bx ⟨gb, cur, E⟩ (.head _)
  have hk : k * i.size ≤ cur.size := by rw [hcs]; exact Nat.mul_le_mul_right _ (by omega)
  have hfit : k * i.size + news.length ≤ cur.size := by rw [hl, hcs, ← Nat.add_mul]; exact Nat.mul_le_mul_right _ hroom
  have hr := run_append_room (P := P) (ty := ty) w t E i hu hi gb k cap cur hg ad m c news hl hnews h1 hroom hfit
  refine ow_val (run_app hsok hxok hsv hxv hr) hd (h _ _ ?_ ?_
    (hs.put (setRow_heap w gb cur _ E _ hg) (by simp [World.setRow]) (fun k hk => setRow_other w gb k _ hk) rfl rfl rfl))
  · simp only [List.size_toArray, List.length_append, List.length_take, List.length_drop, Array.length_toList]
    omega
  · have hlen : (cur.toList.take (k * i.size) ++ news).length = (k + m) * i.size := by
      rw [List.length_append, List.length_take, Array.length_toList, Nat.min_eq_left hk, hl, Nat.add_mul]
    rw [← hlen]
    exact List.take_left
/-- make([]T, 0, c), as a row with room for c. -/
theorem ow_makeRoom {E sz bytes t c : Nat} {x y : Operand} (hs : St w0 I0 X0 I L w) (hE : elT P t E sz bytes = true) (hx : okO n x = true) (hy : okO n y = true) (hxv : ev f x = .int .i64 0) (hyv : ev f y = .int .i64 (c : Int))
    (hc : c * bytes ≤ 281474976710656) (hc2 : c ≤ maxLen) (hd : Nat.blt d n.k = true)
    (h : ∀ gb cur w', cur.size = c * sz → w0.heap.size ≤ gb → St w0 I0 X0 I ([⟨gb, cur, E⟩] ++ L) w' → K (FA (upd f d (.slice (some ⟨gb, 0, none⟩) 0 c)) n) w') :
    OW P ⟨some d, .makeSlice t x y, ty, pos, af, g⟩ f n w K Q := by
  obtain ⟨i, z, hu, hi, hz, rfl, rfl, hzs⟩ := elT_spec hE
  have hb' : (i.bytes : Int) * (c : Int) ≤ 281474976710656 := by
    have h : ((i.bytes * c : Nat) : Int) ≤ 281474976710656 := by rw [Nat.mul_comm]; omega
    rwa [Int.natCast_mul] at h
  have hr := run_make (P := P) w t E i z hu hi hz .i64 .i64 0 c (Int.le_refl _) (by omega) hb' (by simp only [maxLen] at hc2; omega)
  simp only [Int.toNat_zero, Int.toNat_natCast] at hr
  have hr' : (execOp (FA f n).eval ⟨some d, .makeSlice t x y, ty, pos, af, g⟩).run P w = .ok (.value (.slice (some ⟨w.heap.size, 0, none⟩) 0 c)) (w.alloc (.cells (madeCells z.cells (c * i.size)) E (0, 0))) := by
    simp [execOp, FA_eval hx, FA_eval hy, hxv, hyv, hr]
  exact ow_val hr' hd (h _ _ _ (size_madeCells _ _) hs.fr.size (hs.alloc _ E))
end
/-- A frame laid flat: only what is still needed is named. -/
theorem nrm {P : Program} {c : Code} {Q : Exit → Act → World → Prop} {f : Nat → Value} {n : Fr} {w : World} {vals : List (Nat × Value)} (he : Eqs f vals) (h : ∀ g, c.wp P Q (FA (updL g vals) n) w) : c.wp P Q (FA f n) w := by
  rw [updL_self he]; exact h f
/-! A joint of a drawn region: what stands there is shown once. -/
section
variable {P : Program} {ops : Array Oper} {Q : Exit → Act → World → Prop} {S : World → Prop} {listed : Array Bool} {f : Nat → Value} {n : Fr} {w : World}
theorem nrmD {vals : List (Nat × Value)} (he : Eqs f vals) (h : ∀ g, Draw P ops Q S listed (FA (updL g vals) n) w) : Draw P ops Q S listed (FA f n) w := by
  rw [updL_self he]; exact h f
end
end Go.Proofs.YtlnlodfnplkckaaDoor
/- Plain words: the trees of package tree, as functions. No program is in sight. -/
namespace Go.Proofs.YtlnlodfnplkckaaDoor
def evenB (l r : Nat) : Bool := decide (l + 1 ≤ 3 * (r + 1)) && decide (r + 1 ≤ 3 * (l + 1))
def singleB (l i o : Nat) : Bool := evenB l i && evenB (l + i + 1) o
namespace T
def toList : T → List (Bs × Bs)
  | .nil => []
  | .node l k x r => l.toList ++ (k, x) :: r.toList
theorem length_toList (t : T) : t.toList.length = t.size := by
  induction t with
  | nil => rfl
  | node l k x r ihl ihr => simp only [toList, size, List.length_append, List.length_cons, ihl, ihr]; omega
def fromL : List (Bs × Bs) → T
  | [] => .nil
  | p :: l => .node (fromL ((p :: l).take ((p :: l).length / 2))) ((p :: l)[(p :: l).length / 2]'(by simp only [List.length_cons]; omega)).1 ((p :: l)[(p :: l).length / 2]'(by simp only [List.length_cons]; omega)).2
      (fromL ((p :: l).drop ((p :: l).length / 2 + 1)))
termination_by l => l.length
decreasing_by
  · simp only [List.length_take, List.length_cons]; omega
  · simp only [List.length_drop, List.length_cons]; omega
theorem fromL_ne {l : List (Bs × Bs)} (h : l ≠ []) : fromL l = .node (fromL (l.take (l.length / 2))) (l[l.length / 2]'(by have := List.length_pos_iff.2 h; omega)).1 (l[l.length / 2]'(by have := List.length_pos_iff.2 h; omega)).2 (fromL (l.drop (l.length / 2 + 1))) := by
  cases l with
  | nil => exact absurd rfl h
  | cons p l => rw [fromL]
theorem toList_fromL (l : List (Bs × Bs)) : (fromL l).toList = l := by
  induction hn : l.length using Nat.strongRecOn generalizing l with
  | _ n ih =>
    by_cases h : l = []
    · subst h; rw [fromL]; rfl
    · have hp := List.length_pos_iff.2 h
      rw [fromL_ne h, toList, ih _ (by simp only [List.length_take]; omega) _ rfl, ih _ (by simp only [List.length_drop]; omega) _ rfl]
      have : (l[l.length / 2]'(by omega)) :: l.drop (l.length / 2 + 1) = l.drop (l.length / 2) := (List.drop_eq_getElem_cons (by omega)).symm
      rw [show ((l[l.length / 2]'(by omega)).1, (l[l.length / 2]'(by omega)).2) = l[l.length / 2]'(by omega) from rfl, this, List.take_append_drop]
theorem size_fromL (l : List (Bs × Bs)) : (fromL l).size = l.length := by rw [← length_toList, toList_fromL]

def turnL (l : T) (k x : Bs) : T → Option T
  | .nil => none
  | .node i k2 x2 o =>
    if singleB l.size i.size o.size then some (.node (.node l k x i) k2 x2 o)
    else match i with
      | .nil => none
      | .node il k3 x3 ir =>
        if evenB l.size il.size && evenB ir.size o.size && evenB (l.size + 1 + il.size) (ir.size + 1 + o.size) then some (.node (.node l k x il) k3 x3 (.node ir k2 x2 o)) else none
def turnR (r : T) (k x : Bs) : T → Option T
  | .nil => none
  | .node o k2 x2 i =>
    if singleB r.size i.size o.size then some (.node o k2 x2 (.node i k x r))
    else match i with
      | .nil => none
      | .node il k3 x3 ir =>
        if evenB r.size ir.size && evenB il.size o.size && evenB (r.size + 1 + ir.size) (il.size + 1 + o.size) then some (.node (.node o k2 x2 il) k3 x3 (.node ir k x r)) else none
def even (l : T) (k x : Bs) (r : T) : T :=
  if evenB l.size r.size then .node l k x r
  else if l.size < r.size then (turnL l k x r).getD (fromL (l.toList ++ (k, x) :: r.toList))
  else (turnR r k x l).getD (fromL (l.toList ++ (k, x) :: r.toList))

theorem toList_turnL {l : T} {k x : Bs} {r t : T} (h : turnL l k x r = some t) : t.toList = l.toList ++ (k, x) :: r.toList := by
  cases r with
  | nil => cases h
  | node i k2 x2 o =>
    simp only [turnL] at h
    split at h
    · cases h; simp [toList]
    · cases i with
      | nil => cases h
      | node il k3 x3 ir =>
        simp only at h
        split at h
        · cases h; simp [toList]
        · cases h
theorem toList_turnR {l : T} {k x : Bs} {r t : T} (h : turnR r k x l = some t) : t.toList = l.toList ++ (k, x) :: r.toList := by
  cases l with
  | nil => cases h
  | node o k2 x2 i =>
    simp only [turnR] at h
    split at h
    · cases h; simp [toList]
    · cases i with
      | nil => cases h
      | node il k3 x3 ir =>
        simp only at h
        split at h
        · cases h; simp [toList]
        · cases h
theorem toList_even (l : T) (k x : Bs) (r : T) : (even l k x r).toList = l.toList ++ (k, x) :: r.toList := by
  unfold even
  split
  · rfl
  · split
    · cases h : turnL l k x r with
      | none => simp [toList_fromL]
      | some t => simpa using toList_turnL h
    · cases h : turnR r k x l with
      | none => simp [toList_fromL]
      | some t => simpa using toList_turnR h
def join (l : T) (k x : Bs) (r : T) : T :=
  if evenB l.size r.size then .node l k x r
  else if r.size < l.size then
    match l with
    | .nil => .node .nil k x r
    | .node ll lk lx lr => even ll lk lx (join lr k x r)
  else
    match r with
    | .nil => .node l k x .nil
    | .node rl rk rx rr => even (join l k x rl) rk rx rr
termination_by l.size + r.size
decreasing_by
  · simp only [size]; omega
  · simp only [size]; omega
theorem toList_join (l : T) (k x : Bs) (r : T) : (join l k x r).toList = l.toList ++ (k, x) :: r.toList := by
  induction hn : l.size + r.size using Nat.strongRecOn generalizing l r with
  | _ n ih =>
    rw [join.eq_def]
    split
    · rfl
    · split
      · cases l with
        | nil => rfl
        | node ll lk lx lr =>
          simp only
          rw [toList_even, ih _ (by simp only [size] at hn; omega) _ _ rfl]
          simp [toList]
      · cases r with
        | nil => rfl
        | node rl rk rx rr =>
          simp only
          rw [toList_even, ih _ (by simp only [size] at hn; omega) _ _ rfl]
          simp [toList]
/-- The first pair, all others, and how many nodes were visited. -/
def first : T → Bs → Bs → T → Bs × Bs × T × Nat
  | .nil, k, x, r => (k, x, r, 1)
  | .node ll lk lx lr, k, x, r => let q := first ll lk lx lr; (q.1, q.2.1, even q.2.2.1 k x r, q.2.2.2 + 1)
theorem toList_first : ∀ (l : T) (k x : Bs) (r : T), ((first l k x r).1, (first l k x r).2.1) :: (first l k x r).2.2.1.toList = l.toList ++ (k, x) :: r.toList := by
  intro l
  induction l with
  | nil => intro k x r; rfl
  | node ll lk lx lr ihl _ =>
    intro k x r
    simp only [first, toList_even]
    rw [← List.cons_append, ihl]
    rfl
def pair : T → T → T × Nat
  | .nil, r => (r, 0)
  | l, .nil => (l, 0)
  | l, .node rl rk rx rr => let q := first rl rk rx rr; (join l q.1 q.2.1 q.2.2.1, q.2.2.2)
theorem toList_pair (l r : T) : (pair l r).1.toList = l.toList ++ r.toList := by
  cases l with
  | nil => rfl
  | node ll lk lx lr =>
    cases r with
    | nil => simp [pair, toList]
    | node rl rk rx rr => simp only [pair]; rw [toList_join, toList_first]; rfl
def put : T → Bs → Bs → T
  | .nil, k, x => .node .nil k x .nil
  | .node l tk tx r, k, x => if cmpB k tk = 0 then .node l k x r else if cmpB k tk = 1 then even l tk tx (put r k x) else even (put l k x) tk tx r
/-- How many nodes lie on a key's way. -/
def path : T → Bs → Nat
  | .nil, _ => 0
  | .node l tk _ r, k => if cmpB k tk = 0 then 1 else if cmpB k tk = 1 then path r k + 1 else path l k + 1
def get : T → Bs → Option Bs
  | .nil, _ => none
  | .node l tk tx r, k => if cmpB k tk = 0 then some tx else if cmpB k tk = 1 then get r k else get l k
def del : T → Bs → Option T
  | .nil, _ => none
  | .node l tk tx r, k => if cmpB k tk = 0 then some (pair l r).1 else if cmpB k tk = 1 then (del r k).map fun r' => even l tk tx r' else (del l k).map fun l' => even l' tk tx r
/-- Keys and values that are small enough to be copied. -/
def Sm (l : List (Bs × Bs)) : Prop := ∀ p ∈ l, p.1.length ≤ 1000000 ∧ p.2.length ≤ 1000000
theorem Sm.app {l m : List (Bs × Bs)} (h : Sm l) (k : Sm m) : Sm (l ++ m) := fun p hp => (List.mem_append.1 hp).elim (h p) (k p)
theorem Sm.left {l m : List (Bs × Bs)} (h : Sm (l ++ m)) : Sm l := fun p hp => h p (List.mem_append_left _ hp)
theorem Sm.right {l m : List (Bs × Bs)} (h : Sm (l ++ m)) : Sm m := fun p hp => h p (List.mem_append_right _ hp)
theorem Sm.cons {p : Bs × Bs} {l : List (Bs × Bs)} (h1 : p.1.length ≤ 1000000) (h2 : p.2.length ≤ 1000000) (h : Sm l) : Sm (p :: l) := fun q hq => by
  cases hq with
  | head => exact ⟨h1, h2⟩
  | tail _ hq => exact h q hq
theorem Sm.head {p : Bs × Bs} {l : List (Bs × Bs)} (h : Sm (p :: l)) : p.1.length ≤ 1000000 ∧ p.2.length ≤ 1000000 := h p (.head _)
theorem Sm.tail {p : Bs × Bs} {l : List (Bs × Bs)} (h : Sm (p :: l)) : Sm l := fun q hq => h q (.tail _ hq)
theorem Sm.take {l : List (Bs × Bs)} (h : Sm l) (n : Nat) : Sm (l.take n) := fun p hp => h p (List.mem_of_mem_take hp)
theorem Sm.drop {l : List (Bs × Bs)} (h : Sm l) (n : Nat) : Sm (l.drop n) := fun p hp => h p (List.mem_of_mem_drop hp)
theorem Sm.nil : Sm [] := fun p hp => by cases hp
theorem Sm.node {l : T} {k x : Bs} {r : T} (h : Sm (node l k x r).toList) : Sm l.toList ∧ k.length ≤ 1000000 ∧ x.length ≤ 1000000 ∧ Sm r.toList :=
  ⟨Sm.left h, (Sm.right h).head.1, (Sm.right h).head.2, (Sm.right h).tail⟩
theorem Sm.mk {l : T} {k x : Bs} {r : T} (h1 : Sm l.toList) (h2 : k.length ≤ 1000000) (h3 : x.length ≤ 1000000) (h4 : Sm r.toList) : Sm (l.toList ++ (k, x) :: r.toList) := h1.app (.cons h2 h3 h4)
theorem Sm.even {l : T} {k x : Bs} {r : T} (h1 : Sm l.toList) (h2 : k.length ≤ 1000000) (h3 : x.length ≤ 1000000) (h4 : Sm r.toList) : Sm (T.even l k x r).toList := by
  rw [toList_even]; exact Sm.mk h1 h2 h3 h4
theorem Sm.join {l : T} {k x : Bs} {r : T} (h1 : Sm l.toList) (h2 : k.length ≤ 1000000) (h3 : x.length ≤ 1000000) (h4 : Sm r.toList) : Sm (T.join l k x r).toList := by
  rw [toList_join]; exact Sm.mk h1 h2 h3 h4
theorem Sm.put {t : T} {k x : Bs} (h : Sm t.toList) (h2 : k.length ≤ 1000000) (h3 : x.length ≤ 1000000) : Sm (t.put k x).toList := by
  induction t with
  | nil => exact Sm.mk (l := .nil) (r := .nil) Sm.nil h2 h3 Sm.nil
  | node l tk tx r ihl ihr =>
    obtain ⟨a, b, c, d⟩ := Sm.node h
    simp only [T.put]
    split
    · exact Sm.mk a h2 h3 d
    · split
      · exact Sm.even a b c (ihr d)
      · exact Sm.even (ihl a) b c d
theorem Sm.first {l : T} {k x : Bs} {r : T} (h : Sm (T.node l k x r).toList) : (T.first l k x r).1.length ≤ 1000000 ∧ (T.first l k x r).2.1.length ≤ 1000000 ∧ Sm (T.first l k x r).2.2.1.toList := by
  have h' : Sm (((T.first l k x r).1, (T.first l k x r).2.1) :: (T.first l k x r).2.2.1.toList) := by rw [toList_first]; exact h
  exact ⟨h'.head.1, h'.head.2, h'.tail⟩
theorem Sm.del {t t' : T} {k : Bs} (h : Sm t.toList) (hd : t.del k = some t') : Sm t'.toList := by
  induction t generalizing t' with
  | nil => cases hd
  | node l tk tx r ihl ihr =>
    obtain ⟨a, b, c, d⟩ := Sm.node h
    simp only [T.del] at hd
    split at hd
    · cases hd; rw [toList_pair]; exact a.app d
    · split at hd
      · cases hr : r.del k with
        | none => rw [hr] at hd; cases hd
        | some u => rw [hr] at hd; cases hd; exact Sm.even a b c (ihr d hr)
      · cases hl : l.del k with
        | none => rw [hl] at hd; cases hd
        | some u => rw [hl] at hd; cases hd; exact Sm.even (ihl a hl) b c d
end T
attribute [irreducible] evenB singleB
end Go.Proofs.YtlnlodfnplkckaaDoor
/- The contracts of the small functions: sizes, evenness, comparison, meters, copies of bytes, a tree node. -/
namespace Go.Proofs.YtlnlodfnplkckaaDoor

theorem TreeAt.nil (I : GH) : TreeAt I none T.nil := rfl
set_option maxRecDepth 100000 in
theorem tsize_nil (I : GH) : Fn Tryd.prog 97 #[.pointer none] I [] (fun v J _ => v = .int .i64 ((0 : Nat) : Int) ∧ I = J) := by
  refine enter (args := [.pointer none]) Tryd.func97 rfl rfl fun w0 hs0 => ?_
  refine wp_seq_k fun K1 hK2 => ?_
  refine wl_begin ?_
  refine sq (r_assign rfl) rfl ?_
  refine wl_nil ?_
  refine hK2 _ _ ?_; clear hK2 K1
  refine wp_seq_k fun K3 hK4 => ?_
  refine wp_seq_k fun K5 hK6 => ?_
  refine wl_begin ?_
  refine sq (r_move rfl) rfl ?_
  refine sq (r_eqp rfl rfl (by kernel_rfl) rfl rfl) rfl ?_
  refine wl_nil ?_
  refine hK6 _ _ ?_; clear hK6 K5
  refine condT rfl rfl ?_
  refine wp_seq_k fun K7 hK8 => ?_
  refine wl_begin ?_
  refine sq (r_assign rfl) rfl ?_
  refine wl_nil ?_
  refine hK8 _ _ ?_; clear hK8 K7
  refine wp_ret ?_
  exact leave (X' := []) (L := []) hs0 rfl (res_one (v := .int .i64 0) rfl (.tmp rfl rfl .nil)) ⟨rfl, rfl⟩
set_option maxRecDepth 100000 in
theorem tsize_ok {I : GH} {p : Option Addr} {t : T} (h : TreeAt I p t) : Fn Tryd.prog 97 #[.pointer p] I [] (fun v J _ => v = .int .i64 (t.size : Int) ∧ I = J) := by
  cases t with
  | nil =>
    obtain rfl : p = none := h
    exact tsize_nil I
  | node l k x r =>
    obtain ⟨b, kv, xv, lp, rp, rfl, hb, hk, hx, hl, hr⟩ := h
    refine enter (args := [.pointer (some ⟨b, 0, none⟩)]) Tryd.func97 rfl rfl fun w0 hs0 => ?_
    refine wp_seq_k fun K1 hK2 => ?_
    refine wl_begin ?_
    refine sq (r_assign rfl) rfl ?_
    refine wl_nil ?_
    refine hK2 _ _ ?_; clear hK2 K1
    refine wp_seq_k fun K3 hK4 => ?_
    refine wp_seq_k fun K5 hK6 => ?_
    refine wl_begin ?_
    refine sq (r_move rfl) rfl ?_
    refine sq (r_eqp rfl rfl (by kernel_rfl) rfl rfl) rfl ?_
    refine wl_nil ?_
    refine hK6 _ _ ?_; clear hK6 K5
    refine condF rfl rfl ?_
    refine wp_skip ?_
    refine hK4 _ _ ?_; clear hK4 K3
    refine wp_seq_k fun K7 hK8 => ?_
    refine wl_begin ?_
    refine sq (r_move rfl) rfl ?_
    refine sq (r_nilCheck rfl rfl) rfl ?_
    refine sq (r_fieldAddr (off := 4) rfl (by kernel_rfl) rfl) rfl ?_
    refine sq (r_load rfl (by kernel_rfl) rfl (hs0.imm hb) rfl) rfl ?_
    refine sq (r_assign rfl) rfl ?_
    refine wl_nil ?_
    refine hK8 _ _ ?_; clear hK8 K7
    refine wp_ret ?_
    exact leave (X' := []) (L := []) hs0 rfl (res_one (v := .int .i64 ((l.size + 1 + r.size : Nat) : Int)) rfl (.tmp rfl rfl .nil)) ⟨rfl, rfl⟩
set_option maxRecDepth 100000 in
theorem bcmp_ok {I : GH} {u v : Value} {k m : Bs} (hk : BytesAt I u k) (hm : BytesAt I v m) : Fn Tryd.prog 90 #[u, v] I [] (fun x J _ => x = .int .i64 (cmpB k m) ∧ I = J) := by
  refine enter (args := [u, v]) Tryd.func90 rfl rfl fun w0 hs0 => ?_
  refine wp_seq_k fun K1 hK2 => ?_
  refine wl_begin ?_
  refine sq (r_assign rfl) rfl ?_
  refine wl_nil ?_
  refine hK2 _ _ ?_; clear hK2 K1
  refine wp_seq_k fun K3 hK4 => ?_
  refine wl_begin ?_
  refine sq (r_move rfl) rfl ?_
  refine sq (r_move rfl) rfl ?_
  refine sq (r_cmp rfl rfl rfl rfl hk hm (fun _ _ h => hs0.imm h)) rfl ?_
  refine sq (r_assign rfl) rfl ?_
  refine wl_nil ?_
  refine hK4 _ _ ?_; clear hK4 K3
  refine wp_ret ?_
  exact leave (X' := []) (L := []) hs0 rfl (res_one (v := .int .i64 (cmpB k m)) rfl (.tmp rfl rfl .nil)) ⟨rfl, rfl⟩
set_option maxRecDepth 100000 in
theorem kcmp_ok {I : GH} {u v : Value} {k m : Bs} (hk : BytesAt I u k) (hm : BytesAt I v m) : Fn Tryd.prog 56 #[u, v] I [] (fun x J _ => x = .int .i64 (cmpB k m) ∧ I = J) := by
  refine enter (args := [u, v]) Tryd.func56 rfl rfl fun w0 hs0 => ?_
  refine wp_seq_k fun K1 hK2 => ?_
  refine wl_begin ?_
  refine sq (r_assign rfl) rfl ?_
  refine wl_nil ?_
  refine hK2 _ _ ?_; clear hK2 K1
  refine wp_seq_k fun K3 hK4 => ?_
  refine wl_begin ?_
  refine sq (r_move rfl) rfl ?_
  refine sq (r_move rfl) rfl ?_
  refine sqo rfl fun K5 hK6 => ow_call (X := []) (L := []) (lb := []) hs0 (bcmp_ok hk hm) (by kernel_rfl) rfl rfl rfl rfl rfl ?_
  rintro _ _ X1 w7 ⟨rfl, rfl⟩ - hs8 hid9
  obtain rfl : X1 = [] := List.map_eq_nil_iff.1 hid9
  replace hs8 : St w0 I (ids []) I [] w7 := hs8
  clear hs0 hid9
  refine hK6 _ _ ?_; clear hK6 K5
  refine sq (r_assign rfl) rfl ?_
  refine wl_nil ?_
  refine hK4 _ _ ?_; clear hK4 K3
  refine wp_ret ?_
  exact leave (X' := []) (L := []) hs8 rfl (res_one (v := .int .i64 (cmpB k m)) rfl (.tmp rfl rfl .nil)) ⟨rfl, rfl⟩
set_option maxRecDepth 100000 in
theorem visit_nil {I : GH} : Fn Tryd.prog 59 #[.pointer none] I [] (fun _ J _ => I = J) := by
  refine enter (args := [.pointer none]) Tryd.func59 rfl rfl fun w0 hs0 => ?_
  refine wp_seq_k fun K1 hK2 => ?_
  refine wl_begin ?_
  refine sq (r_move rfl) rfl ?_
  refine sq (r_nep rfl rfl (by kernel_rfl) rfl rfl) rfl ?_
  refine wl_nil ?_
  refine hK2 _ _ ?_; clear hK2 K1
  refine condF rfl rfl ?_
  refine wp_skip ?_
  exact leaveN (X' := []) (L := []) hs0 rfl (res_many (vs := []) rfl .nil rfl) rfl
set_option maxRecDepth 100000 in
theorem visit_ok {I : GH} {m : Option Nat} {v c : Nat} : Fn Tryd.prog 59 #[mV m] I (mX m v c) (fun _ J X => I = J ∧ X = mX m (v + 1) c) := by
  cases m with
  | none => exact visit_nil.mono' fun _ _ X hi h => ⟨h, ids_nil hi⟩
  | some b =>
    refine enter (args := [.pointer (some ⟨b, 0, none⟩)]) Tryd.func59 rfl rfl fun w0 hs0 => ?_
    refine wp_seq_k fun K1 hK2 => ?_
    refine wl_begin ?_
    refine sq (r_move rfl) rfl ?_
    refine sq (r_nep rfl rfl (by kernel_rfl) rfl rfl) rfl ?_
    refine wl_nil ?_
    refine hK2 _ _ ?_; clear hK2 K1
    refine condT rfl rfl ?_
    refine wl_begin ?_
    refine sq (r_move rfl) rfl ?_
    refine sq (r_nilCheck rfl rfl) rfl ?_
    refine sq (r_fieldAddr (off := 0) rfl (by kernel_rfl) rfl) rfl ?_
    refine sq (r_load rfl (by kernel_rfl) rfl (hs0.box (.head _)) rfl) rfl ?_
    refine sq ((r_add rfl rfl rfl rfl).trans (by rw [wz_add])) rfl ?_
    refine sq (r_nilCheck rfl rfl) rfl ?_
    refine sq (r_fieldAddr (off := 0) rfl (by kernel_rfl) rfl) rfl ?_
    refine sqo rfl fun K3 hK4 => ow_store (vs := [.int .i64 (wz (v + 1))]) hs0 rfl rfl (by kernel_rfl) rfl rfl (.cons trivial .nil) rfl ?_
    rintro w5 (hs6 : St w0 I (ids [⟨b, #[.int .i64 (wz v), .int .i64 (wz c)], 37⟩]) I [⟨b, #[.int .i64 (wz (v + 1)), .int .i64 (wz c)], 37⟩] w5)
    clear hs0
    refine hK4 _ _ ?_; clear hK4 K3
    refine wl_nil ?_
    exact leaveN (X' := [⟨b, #[.int .i64 (wz (v + 1)), .int .i64 (wz c)], 37⟩]) (L := []) hs6 rfl (res_many (vs := []) rfl .nil rfl) ⟨rfl, rfl⟩
set_option maxRecDepth 100000 in
theorem mcmp_nil {I : GH} {x y : Value} {k l : Bs} (hk : BytesAt I x k) (hl : BytesAt I y l) : Fn Tryd.prog 60 #[.pointer none, x, y] I [] (fun z J _ => z = .int .i64 (cmpB k l) ∧ I = J) := by
  refine enter (args := [.pointer none, x, y]) Tryd.func60 rfl rfl fun w0 hs0 => ?_
  refine wp_seq_k fun K1 hK2 => ?_
  refine wl_begin ?_
  refine sq (r_assign rfl) rfl ?_
  refine wl_nil ?_
  refine hK2 _ _ ?_; clear hK2 K1
  refine wp_seq_k fun K3 hK4 => ?_
  refine wp_seq_k fun K5 hK6 => ?_
  refine wl_begin ?_
  refine sq (r_move rfl) rfl ?_
  refine sq (r_nep rfl rfl (by kernel_rfl) rfl rfl) rfl ?_
  refine wl_nil ?_
  refine hK6 _ _ ?_; clear hK6 K5
  refine condF rfl rfl ?_
  refine wp_skip ?_
  refine hK4 _ _ ?_; clear hK4 K3
  refine wp_seq_k fun K7 hK8 => ?_
  refine wl_begin ?_
  refine sq (r_move rfl) rfl ?_
  refine sq (r_move rfl) rfl ?_
  refine sqo rfl fun K9 hK10 => ow_call (X := []) (L := []) (lb := []) hs0 (kcmp_ok hk hl) (by kernel_rfl) rfl rfl rfl rfl rfl ?_
  rintro _ _ X1 w11 ⟨rfl, rfl⟩ - hs12 hid13
  obtain rfl : X1 = [] := List.map_eq_nil_iff.1 hid13
  replace hs12 : St w0 I (ids []) I [] w11 := hs12
  clear hs0 hid13
  refine hK10 _ _ ?_; clear hK10 K9
  refine sq (r_assign rfl) rfl ?_
  refine wl_nil ?_
  refine hK8 _ _ ?_; clear hK8 K7
  refine wp_ret ?_
  exact leave (X' := []) (L := []) hs12 rfl (res_one (v := .int .i64 (cmpB k l)) rfl (.tmp rfl rfl .nil)) ⟨rfl, rfl⟩
set_option maxRecDepth 100000 in
theorem mcmp_ok {I : GH} {m : Option Nat} {v c : Nat} {x y : Value} {k l : Bs} (hk : BytesAt I x k) (hl : BytesAt I y l) : Fn Tryd.prog 60 #[mV m, x, y] I (mX m v c) (fun z J X => z = .int .i64 (cmpB k l) ∧ I = J ∧ X = mX m v (c + 1)) := by
  cases m with
  | none => exact (mcmp_nil hk hl).mono' fun _ _ X hi h => ⟨h.1, h.2, ids_nil hi⟩
  | some b =>
    refine enter (args := [.pointer (some ⟨b, 0, none⟩), x, y]) Tryd.func60 rfl rfl fun w0 hs0 => ?_
    refine wp_seq_k fun K1 hK2 => ?_
    refine wl_begin ?_
    refine sq (r_assign rfl) rfl ?_
    refine wl_nil ?_
    refine hK2 _ _ ?_; clear hK2 K1
    refine wp_seq_k fun K3 hK4 => ?_
    refine wp_seq_k fun K5 hK6 => ?_
    refine wl_begin ?_
    refine sq (r_move rfl) rfl ?_
    refine sq (r_nep rfl rfl (by kernel_rfl) rfl rfl) rfl ?_
    refine wl_nil ?_
    refine hK6 _ _ ?_; clear hK6 K5
    refine condT rfl rfl ?_
    refine wl_begin ?_
    refine sq (r_move rfl) rfl ?_
    refine sq (r_nilCheck rfl rfl) rfl ?_
    refine sq (r_fieldAddr (off := 1) rfl (by kernel_rfl) rfl) rfl ?_
    refine sq (r_load rfl (by kernel_rfl) rfl (hs0.box (.head _)) rfl) rfl ?_
    refine sq ((r_add rfl rfl rfl rfl).trans (by rw [wz_add])) rfl ?_
    refine sq (r_nilCheck rfl rfl) rfl ?_
    refine sq (r_fieldAddr (off := 1) rfl (by kernel_rfl) rfl) rfl ?_
    refine sqo rfl fun K7 hK8 => ow_store (vs := [.int .i64 (wz (c + 1))]) hs0 rfl rfl (by kernel_rfl) rfl rfl (.cons trivial .nil) rfl ?_
    rintro w9 (hs10 : St w0 I (ids [⟨b, #[.int .i64 (wz v), .int .i64 (wz c)], 37⟩]) I [⟨b, #[.int .i64 (wz v), .int .i64 (wz (c + 1))], 37⟩] w9)
    clear hs0
    refine hK8 _ _ ?_; clear hK8 K7
    refine wl_nil ?_
    refine hK4 _ _ ?_; clear hK4 K3
    refine wp_seq_k fun K11 hK12 => ?_
    refine wl_begin ?_
    refine sq (r_move rfl) rfl ?_
    refine sq (r_move rfl) rfl ?_
    refine sqo rfl fun K13 hK14 => ow_call (X := []) (L := [⟨b, #[.int .i64 (wz v), .int .i64 (wz (c + 1))], 37⟩]) (lb := []) hs10 (kcmp_ok hk hl) (by kernel_rfl) rfl rfl rfl rfl rfl ?_
    rintro _ _ X1 w15 ⟨rfl, rfl⟩ - hs16 hid17
    obtain rfl : X1 = [] := List.map_eq_nil_iff.1 hid17
    replace hs16 : St w0 I (ids [⟨b, #[.int .i64 (wz v), .int .i64 (wz c)], 37⟩]) I [⟨b, #[.int .i64 (wz v), .int .i64 (wz (c + 1))], 37⟩] w15 := hs16
    clear hs10 hid17
    refine hK14 _ _ ?_; clear hK14 K13
    refine sq (r_assign rfl) rfl ?_
    refine wl_nil ?_
    refine hK12 _ _ ?_; clear hK12 K11
    refine wp_ret ?_
    exact leave (X' := [⟨b, #[.int .i64 (wz v), .int .i64 (wz (c + 1))], 37⟩]) (L := []) hs16 rfl (res_one (v := .int .i64 (cmpB k l)) rfl (.tmp rfl rfl .nil)) ⟨rfl, rfl, rfl⟩
theorem clone_nil {I : GH} : Fn Tryd.prog 79 #[.slice none 0 0] I [] (fun v J _ => v = .slice none 0 0 ∧ I = J) := by
  refine enter (args := [.slice none 0 0]) Tryd.func79 rfl rfl fun w0 hs0 => ?_
  refine wp_seq_k fun K1 hK2 => ?_
  refine wl_begin ?_
  refine sq (r_assign rfl) rfl ?_
  refine wl_nil ?_
  refine hK2 _ _ ?_; clear hK2 K1
  refine wp_seq_k fun K3 hK4 => ?_
  refine wp_seq_k fun K5 hK6 => ?_
  refine wl_begin ?_
  refine sq (r_move rfl) rfl ?_
  refine sq (r_eqs rfl rfl (by kernel_rfl) rfl rfl) rfl ?_
  refine wl_nil ?_
  refine hK6 _ _ ?_; clear hK6 K5
  refine condT rfl rfl ?_
  refine wp_seq_k fun K7 hK8 => ?_
  refine wl_begin ?_
  refine sq (r_assign rfl) rfl ?_
  refine wl_nil ?_
  refine hK8 _ _ ?_; clear hK8 K7
  refine wp_ret ?_
  exact leave (X' := []) (L := []) hs0 rfl (res_one (v := .slice none 0 0) rfl (.tmp rfl rfl .nil)) ⟨rfl, rfl⟩
set_option maxRecDepth 100000 in
theorem clone_ok {I : GH} {v : Value} {k : Bs} (h : BytesAt I v k) (hl : k.length ≤ 1000000) : Fn Tryd.prog 79 #[v] I [] (fun x J _ => BytesAt J x k) := by
  obtain ⟨a, cap, rfl, hnc, hna, hlen, ho⟩ := h
  by_cases hk : k = []
  · subst hk
    cases a with
    | none =>
      have : cap = 0 := hna rfl
      subst this
      exact clone_nil.mono fun x J _ h => by rw [h.1]; exact BytesAt.nil J
    | some ad =>
      refine enter (args := [.slice (some ad) 0 cap]) Tryd.func79 rfl rfl fun w0 hs0 => ?_
      refine wp_seq_k fun K1 hK2 => ?_
      refine wl_begin ?_
      refine sq (r_assign rfl) rfl ?_
      refine wl_nil ?_
      refine hK2 _ _ ?_; clear hK2 K1
      refine wp_seq_k fun K3 hK4 => ?_
      refine wp_seq_k fun K5 hK6 => ?_
      refine wl_begin ?_
      refine sq (r_move rfl) rfl ?_
      refine sq (r_eqs rfl rfl (by kernel_rfl) rfl rfl) rfl ?_
      refine wl_nil ?_
      refine hK6 _ _ ?_; clear hK6 K5
      refine condF rfl rfl ?_
      refine wp_skip ?_
      refine hK4 _ _ ?_; clear hK4 K3
      refine wp_seq_k fun K7 hK8 => ?_
      refine wl_begin ?_
      refine sqo rfl fun K9 hK10 => ow_empty (E := 5) (sz := 1) (bytes := 1) hs0 (by kernel_rfl) rfl ?_
      rintro v11 R12 w13 hr14 hs15 hf16
      replace hs15 : St w0 I (ids []) I (R12 ++ []) w13 := hs15; clear hs0 hf16
      refine hK10 _ _ ?_; clear hK10 K9
      refine sq (r_move rfl) rfl ?_
      refine sqo rfl fun K17 hK18 => ow_append (R := R12) (L := []) (E := 5) (sz := 1) (bytes := 1) (news := []) hs15 hr14 (by kernel_rfl) rfl rfl rfl rfl rfl (by simp) (fun _ _ h => by cases h) (by simp) (by simp only [maxLen]; omega) (by omega) rfl ?_
      rintro v19 R20 w21 hr22 hs23 hf24
      replace hs23 : St w0 I (ids []) I (R20 ++ []) w21 := hs23; clear hs15 hf24
      refine hK18 _ _ ?_; clear hK18 K17
      refine sq (r_assign rfl) rfl ?_
      refine wl_nil ?_
      refine hK8 _ _ ?_; clear hK8 K7
      refine wp_ret ?_
      obtain ⟨G1, le25, hs26, hz27⟩ := hs23.freezeRow (R := R20) (L := []) hr22 (fun _ h => by cases h); clear hs23
      replace hs26 : St w0 I (ids []) G1 [] w21 := hs26
      exact leave (X' := []) (L := []) hs26 rfl (res_one (v := v19) rfl (.tmp rfl rfl .nil)) (by simpa [BytesAt] using hz27)
  · obtain ⟨b, off, cs, T, fz, rfl, hb, ht⟩ := ho (by simpa using hk)
    refine enter (args := [.slice (some ⟨b, off, none⟩) k.length cap]) Tryd.func79 rfl rfl fun w0 hs0 => ?_
    refine wp_seq_k fun K1 hK2 => ?_
    refine wl_begin ?_
    refine sq (r_assign rfl) rfl ?_
    refine wl_nil ?_
    refine hK2 _ _ ?_; clear hK2 K1
    refine wp_seq_k fun K3 hK4 => ?_
    refine wp_seq_k fun K5 hK6 => ?_
    refine wl_begin ?_
    refine sq (r_move rfl) rfl ?_
    refine sq (r_eqs rfl rfl (by kernel_rfl) rfl rfl) rfl ?_
    refine wl_nil ?_
    refine hK6 _ _ ?_; clear hK6 K5
    refine condF rfl rfl ?_
    refine wp_skip ?_
    refine hK4 _ _ ?_; clear hK4 K3
    refine wp_seq_k fun K7 hK8 => ?_
    refine wl_begin ?_
    refine sqo rfl fun K9 hK10 => ow_empty (E := 5) (sz := 1) (bytes := 1) hs0 (by kernel_rfl) rfl ?_
    rintro v11 R12 w13 hr14 hs15 hf16
    replace hs15 : St w0 I (ids []) I (R12 ++ []) w13 := hs15; clear hs0 hf16
    refine hK10 _ _ ?_; clear hK10 K9
    refine sq (r_move rfl) rfl ?_
    refine sqo rfl fun K17 hK18 => ow_append (R := R12) (L := []) (E := 5) (sz := 1) (bytes := 1) (news := k.map bV) hs15 hr14 (by kernel_rfl) rfl rfl rfl rfl rfl (by simp) (SliceAt.news (hs15.imm hb) ht) (bV_old _) (by simp only [maxLen]; omega) (by omega) rfl ?_
    rintro v19 R20 w21 hr22 hs23 hf24
    replace hs23 : St w0 I (ids []) I (R20 ++ []) w21 := hs23; clear hs15 hf24
    refine hK18 _ _ ?_; clear hK18 K17
    refine sq (r_assign rfl) rfl ?_
    refine wl_nil ?_
    refine hK8 _ _ ?_; clear hK8 K7
    refine wp_ret ?_
    obtain ⟨G1, le25, hs26, hz27⟩ := hs23.freezeRow (R := R20) (L := []) hr22 (fun _ h => by cases h); clear hs23
    replace hs26 : St w0 I (ids []) G1 [] w21 := hs26
    exact leave (X' := []) (L := []) hs26 rfl (res_one (v := v19) rfl (.tmp rfl rfl .nil)) (by simpa [BytesAt] using hz27)
set_option maxRecDepth 100000 in
theorem own_ok {I : GH} {kv xv : Value} {k x : Bs} (hk : BytesAt I kv k) (hx : BytesAt I xv x) (hl : k.length ≤ 1000000) (hl2 : x.length ≤ 1000000) : Fn Tryd.prog 100 #[.agg #[kv, xv]] I [] (fun v J _ => ∃ kv' xv', v = .agg #[kv', xv'] ∧ BytesAt J kv' k ∧ BytesAt J xv' x) := by
  refine enter (args := [.agg #[kv, xv]]) Tryd.func100 rfl rfl fun w0 hs0 => ?_
  refine wp_seq_k fun K1 hK2 => ?_
  refine wl_begin ?_
  refine sqo rfl fun K3 hK4 => ow_newbox (mk := fun b => .pointer (some ⟨b, 0, none⟩)) hs0 (r_box rfl rfl) rfl ?_
  rintro b5 w6 (hs7 : St w0 I (ids []) I [⟨b5, #[kv, xv], 56⟩] w6)
  clear hs0
  refine hK4 _ _ ?_; clear hK4 K3
  refine sqo rfl fun K8 hK9 => ow_newbox (mk := fun b => .pointer (some ⟨b, 0, none⟩)) hs7 (r_alloc (cs := [.slice none 0 0, .slice none 0 0]) (by kernel_rfl)) rfl ?_
  rintro b10 w11 (hs12 : St w0 I (ids []) I [⟨b10, #[.slice none 0 0, .slice none 0 0], 56⟩, ⟨b5, #[kv, xv], 56⟩] w11)
  clear hs7
  refine hK9 _ _ ?_; clear hK9 K8
  refine wl_nil ?_
  refine hK2 _ _ ?_; clear hK2 K1
  refine wp_seq_k fun K13 hK14 => ?_
  refine draw_begin (S := SS I [⟨b5, #[kv, xv], 56⟩]) (by kernel_rfl) ?_
  have hs15 := hs12.drew; clear hs12
  have hss := hs15.ss (I := I) (GH.le.refl _) (SubL.sub (.cons (.tail _ (.head _)) .nil))
  refine dt 0 rfl (by kernel_rfl) (fun _ _ _ h => h) hss (fun _ h => (r_fieldAddr (off := 0) rfl (by kernel_rfl) rfl)) rfl ?_
  refine dt 1 rfl (by kernel_rfl) (fun _ _ _ h => h) hss (fun _ h => r_load rfl (by kernel_rfl) rfl (h.box (.head _)) rfl) rfl ?_
  refine dt 3 rfl (by kernel_rfl) (fun _ _ _ h => h) hss (fun _ h => (r_fieldAddr (off := 1) rfl (by kernel_rfl) rfl)) rfl ?_
  refine dt 4 rfl (by kernel_rfl) (fun _ _ _ h => h) hss (fun _ h => r_load rfl (by kernel_rfl) rfl (h.box (.head _)) rfl) rfl ?_
  refine dro 2 (by kernel_rfl) rfl (ow_call (X := []) (L := [⟨b10, #[.slice none 0 0, .slice none 0 0], 56⟩, ⟨b5, #[kv, xv], 56⟩]) (lb := []) hs15 (clone_ok hk (by omega)) (by kernel_rfl) rfl rfl rfl rfl rfl ?_)
  rintro cv16 G1 X1 w18 hc17 le21 hs19 hid20
  obtain rfl : X1 = [] := List.map_eq_nil_iff.1 hid20
  replace hs19 : St w0 I (ids []) G1 [⟨b10, #[.slice none 0 0, .slice none 0 0], 56⟩, ⟨b5, #[kv, xv], 56⟩] w18 := hs19
  clear hs15 hid20
  replace hss := hs19.ss (I := I) le21 (SubL.sub (.cons (.tail _ (.head _)) .nil))
  refine ⟨hss, ?_⟩
  refine dro 5 (by kernel_rfl) rfl (ow_call (X := []) (L := [⟨b10, #[.slice none 0 0, .slice none 0 0], 56⟩, ⟨b5, #[kv, xv], 56⟩]) (lb := []) hs19 (clone_ok (hx.up le21) (by omega)) (by kernel_rfl) rfl rfl rfl rfl rfl ?_)
  rintro cv22 G2 X1 w24 hc23 le27 hs25 hid26
  obtain rfl : X1 = [] := List.map_eq_nil_iff.1 hid26
  replace hs25 : St w0 I (ids []) G2 [⟨b10, #[.slice none 0 0, .slice none 0 0], 56⟩, ⟨b5, #[kv, xv], 56⟩] w24 := hs25
  clear hs19 hid26
  replace hss := hs25.ss (I := I) (le21.trans le27) (SubL.sub (.cons (.tail _ (.head _)) .nil))
  refine ⟨hss, ?_⟩
  refine dt 6 rfl (by kernel_rfl) (fun _ _ _ h => h) hss (fun _ h => (r_build (.cons rfl (One.cells hc17.one) (.cons rfl (One.cells hc23.one) .nil)) (cells := #[cv16, cv22]) (by kernel_rfl))) rfl ?_
  refine dro 7 (by kernel_rfl) rfl (ow_store (vs := [cv16, cv22]) hs25 rfl rfl (by kernel_rfl) rfl rfl (.cons hc17.one (.cons hc23.one .nil)) rfl ?_)
  rintro w28 (hs29 : St w0 I (ids []) G2 [⟨b10, #[cv16, cv22], 56⟩, ⟨b5, #[kv, xv], 56⟩] w28)
  clear hs25
  replace hss := hs29.ss (I := I) (le21.trans le27) (SubL.sub (.cons (.tail _ (.head _)) .nil))
  refine ⟨hss, ?_⟩
  refine draw_done (by kernel_rfl) ?_
  refine hK14 _ _ ?_; clear hK14 K13
  refine wp_ret ?_
  exact leave (X' := []) (L := [⟨b10, #[cv16, cv22], 56⟩, ⟨b5, #[kv, xv], 56⟩]) hs29 rfl (res_one (v := .agg #[cv16, cv22]) rfl (.agg (m := 2) rfl rfl (by kernel_rfl) (hs29.box (.head _)) rfl rfl .nil)) ⟨cv16, cv22, rfl, (hc17.up le27), hc23⟩
set_option maxRecDepth 100000 in
theorem node_ok {I : GH} {lp rp : Option Addr} {l r : T} {kv xv : Value} {k x : Bs} (hl : TreeAt I lp l) (hr : TreeAt I rp r) (hk : BytesAt I kv k) (hx : BytesAt I xv x) (hsz : l.size + 1 + r.size ≤ 1000000) :
    Fn Tryd.prog 140 #[.pointer lp, .agg #[kv, xv], .pointer rp] I [] (fun v J _ => ∃ p, v = .pointer p ∧ TreeAt J p (.node l k x r)) := by
  refine enter (args := [.pointer lp, .agg #[kv, xv], .pointer rp]) Tryd.func140 rfl rfl fun w0 hs0 => ?_
  refine wp_seq_k fun K1 hK2 => ?_
  refine wl_begin ?_
  refine sqo rfl fun K3 hK4 => ow_newbox (mk := fun b => .pointer (some ⟨b, 0, none⟩)) hs0 (r_box rfl rfl) rfl ?_
  rintro b5 w6 (hs7 : St w0 I (ids []) I [⟨b5, #[kv, xv], 56⟩] w6)
  clear hs0
  refine hK4 _ _ ?_; clear hK4 K3
  refine sq (r_assign rfl) rfl ?_
  refine wl_nil ?_
  refine hK2 _ _ ?_; clear hK2 K1
  refine wp_seq_k fun K8 hK9 => ?_
  refine draw_begin (S := SS I [⟨b5, #[kv, xv], 56⟩]) (by kernel_rfl) ?_
  have hs10 := hs7.drew; clear hs7
  have hss := hs10.ss (I := I) (GH.le.refl _) (fun _ h => h)
  refine dt 0 rfl (by kernel_rfl) (fun _ _ _ h => h) hss (fun _ h => r_loadN (m := 2) rfl (by kernel_rfl) rfl (h.box (.head _)) rfl rfl) rfl ?_
  refine dt 1 rfl (by kernel_rfl) (fun _ _ _ h => h) hss (fun _ h => r_move rfl) rfl ?_
  refine dt 2 rfl (by kernel_rfl) (fun _ _ _ h => h) hss (fun _ h => r_move rfl) rfl ?_
  refine dt 3 rfl (by kernel_rfl) (fun _ _ _ h => h) hss (fun _ h => r_move rfl) rfl ?_
  refine dt 6 rfl (by kernel_rfl) (fun _ _ _ h => h) hss (fun _ h => r_move rfl) rfl ?_
  refine dro 4 (by kernel_rfl) rfl (ow_call (X := []) (L := [⟨b5, #[kv, xv], 56⟩]) (lb := []) hs10 (tsize_ok hl) (by kernel_rfl) rfl rfl rfl rfl rfl ?_)
  rintro _ _ X1 w11 ⟨rfl, rfl⟩ - hs12 hid13
  obtain rfl : X1 = [] := List.map_eq_nil_iff.1 hid13
  replace hs12 : St w0 I (ids []) I [⟨b5, #[kv, xv], 56⟩] w11 := hs12
  clear hs10 hid13
  replace hss := hs12.ss (I := I) (GH.le.refl _) (fun _ h => h)
  refine ⟨hss, ?_⟩
  refine dt 5 rfl (by kernel_rfl) (fun _ _ _ h => h) hss (fun _ h => (r_addi rfl rfl rfl rfl (by omega))) rfl ?_
  refine dro 7 (by kernel_rfl) rfl (ow_call (X := []) (L := [⟨b5, #[kv, xv], 56⟩]) (lb := []) hs12 (tsize_ok hr) (by kernel_rfl) rfl rfl rfl rfl rfl ?_)
  rintro _ _ X1 w14 ⟨rfl, rfl⟩ - hs15 hid16
  obtain rfl : X1 = [] := List.map_eq_nil_iff.1 hid16
  replace hs15 : St w0 I (ids []) I [⟨b5, #[kv, xv], 56⟩] w14 := hs15
  clear hs12 hid16
  replace hss := hs15.ss (I := I) (GH.le.refl _) (fun _ h => h)
  refine ⟨hss, ?_⟩
  refine dt 8 rfl (by kernel_rfl) (fun _ _ _ h => h) hss (fun _ h => (r_addi rfl rfl rfl rfl (by omega))) rfl ?_
  refine dt 9 rfl (by kernel_rfl) (fun _ _ _ h => h) hss (fun _ h => (r_build (.cons rfl rfl (.cons rfl rfl (.cons rfl rfl (.cons rfl rfl .nil)))) (cells := #[kv, xv, .pointer lp, .pointer rp, .int .i64 (((((l).size : Nat) : Int) + 1) + (((r).size : Nat) : Int))]) (by kernel_rfl))) rfl ?_
  refine dro 10 (by kernel_rfl) rfl (ow_newimm (mk := fun b => .pointer (some ⟨b, 0, none⟩)) hs15 (r_box rfl rfl) rfl ?_)
  rintro b17 G1 w18 hb19 le20 hs21 ge22
  clear hs15
  replace hb19 : G1 b17 = some (.cells #[kv, xv, .pointer lp, .pointer rp, .int .i64 (((((l).size : Nat) : Int) + 1) + (((r).size : Nat) : Int))] 169 (0, 0)) := hb19
  replace hss := hs21.ss (I := I) le20 (fun _ h => h)
  refine ⟨hss, ?_⟩
  refine dt 11 rfl (by kernel_rfl) (fun _ _ _ h => h) hss (fun _ h => r_assign rfl) rfl ?_
  refine draw_done (by kernel_rfl) ?_
  refine hK9 _ _ ?_; clear hK9 K8
  refine wp_ret ?_
  exact leave (X' := []) (L := [⟨b5, #[kv, xv], 56⟩]) hs21 rfl (res_one (v := .pointer (some ⟨b17, 0, none⟩)) rfl (.tmp rfl rfl .nil)) ⟨some ⟨b17, 0, none⟩, rfl, b17, kv, xv, lp, rp, rfl, hb19, (hk.up le20), (hx.up le20), (hl.up le20), (hr.up le20)⟩
end Go.Proofs.YtlnlodfnplkckaaDoor
/- The contracts of the trees that are made from lists, and of the turns. -/
namespace Go.Proofs.YtlnlodfnplkckaaDoor
open T (Sm)
set_option linter.unusedVariables false
set_option linter.unusedSimpArgs false
set_option maxRecDepth 100000 in
theorem from_ok {I : GH} {v : Value} {l : List (Bs × Bs)} (hl : PairsAt I v l) (hsm : T.Sm l) (hsz : l.length ≤ 1000000) : Fn Tryd.prog 114 #[v] I [] (fun v J _ => ∃ p, v = .pointer p ∧ TreeAt J p (T.fromL l)) := by
  have key : ∀ (n : Nat) {I : GH} {v : Value} {l : List (Bs × Bs)}, PairsAt I v l → T.Sm l → l.length = n → n ≤ 1000000 → Fn Tryd.prog 114 #[v] I [] (fun v J _ => ∃ p, v = .pointer p ∧ TreeAt J p (T.fromL l)) := by
    clear hl hsm hsz
    intro n
    induction n using Nat.strongRecOn with
    | _ n ih =>
    intro I v l hl hsm hn hsz
    obtain ⟨ad, cap, rfl⟩ := hl.slc
    have hcap : l.length ≤ cap := by
      obtain ⟨_, ⟨_, _, e, h2, _⟩, _⟩ := hl
      cases e; exact h2
    refine enter (args := [.slice ad l.length cap]) Tryd.func114 rfl rfl fun w0 hs0 => ?_
    refine wp_seq_k fun K1 hK2 => ?_
    refine wl_begin ?_
    refine sq (r_assign rfl) rfl ?_
    refine wl_nil ?_
    refine hK2 _ _ ?_; clear hK2 K1
    refine wp_seq_k fun K3 hK4 => ?_
    refine wp_seq_k fun K5 hK6 => ?_
    refine wl_begin ?_
    refine sq (r_move rfl) rfl ?_
    refine sq (r_lens rfl (by kernel_rfl) rfl) rfl ?_
    refine sq (r_eqi rfl rfl rfl rfl) rfl ?_
    refine wl_nil ?_
    refine hK6 _ _ ?_; clear hK6 K5
    refine condS rfl rfl (fun h7 => ?_) (fun h7 => ?_)
    ·
      have p8 := of_decide_eq_true h7
      refine wp_seq_k fun K9 hK10 => ?_
      refine wl_begin ?_
      refine sq (r_assign rfl) rfl ?_
      refine wl_nil ?_
      refine hK10 _ _ ?_; clear hK10 K9
      refine wp_ret ?_
      exact leave (X' := []) (L := []) hs0 rfl (res_one (v := .pointer none) rfl (.tmp rfl rfl .nil)) ⟨none, rfl, by rw [show l = [] from List.length_eq_zero_iff.1 (by omega), T.fromL]; rfl⟩
    ·
      have p11 := of_decide_eq_false h7
      have hlt : l.length / 2 < l.length := by omega
      obtain ⟨b, off, cs, T0, fz, kv, xv, rfl, hb, hcs, hk, hx⟩ := PairsAt.at hl hlt
      have hsm1 := hsm l[l.length / 2] (List.getElem_mem hlt)
      refine wp_skip ?_
      refine hK4 _ _ ?_; clear hK4 K3
      refine wp_seq_k fun K12 hK13 => ?_
      refine wl_begin ?_
      refine sq (r_move rfl) rfl ?_
      refine sq (r_lens rfl (by kernel_rfl) rfl) rfl ?_
      refine sq (r_quoN (a := l.length) (b := 2) rfl rfl rfl rfl ⟨by omega, by omega⟩) rfl ?_
      refine sq (r_assign rfl) rfl ?_
      refine wl_nil ?_
      refine hK13 _ _ ?_; clear hK13 K12
      refine wp_seq_k fun K14 hK15 => ?_
      refine draw_begin (S := SS I []) (by kernel_rfl) ?_
      have hs16 := hs0.drew; clear hs0
      have hss := hs16.ss (I := I) (GH.le.refl _) (fun _ h => h)
      refine dt 0 rfl (by kernel_rfl) (fun _ _ _ h => h) hss (fun _ h => r_move rfl) rfl ?_
      refine dt 1 rfl (by kernel_rfl) (fun _ _ _ h => h) hss (fun _ h => r_move rfl) rfl ?_
      refine dt 2 rfl (by kernel_rfl) (fun _ _ _ h => h) hss (fun _ h => (r_sliceH (e := 56) (sz := 2) rfl rfl (by kernel_rfl) rfl rfl (by omega))) rfl ?_
      refine dt 4 rfl (by kernel_rfl) (fun _ _ _ h => h) hss (fun _ h => r_move rfl) rfl ?_
      refine dt 5 rfl (by kernel_rfl) (fun _ _ _ h => h) hss (fun _ h => r_move rfl) rfl ?_
      refine nrmD (vals := [(0, .slice (some ⟨b, off, none⟩) l.length cap), (2, .pointer none), (3, .int .i64 (((l.length / 2) : Nat) : Int)), (6, .bool (decide (((l.length : Nat) : Int) = 0))), (12, (sliced (some ⟨b, off, none⟩) 0 ((l.length / 2)) cap 2)), (14, .slice (some ⟨b, off, none⟩) l.length cap), (15, .int .i64 (((l.length / 2) : Nat) : Int))]) (.cons rfl (.cons rfl (.cons rfl (.cons rfl (.cons rfl (.cons rfl (.cons rfl .nil))))))) fun g17 => ?_
      refine dt 6 rfl (by kernel_rfl) (fun _ _ _ h => h) hss (fun _ h => (r_index (e := 56) (sz := 2) (i := (l.length / 2)) rfl rfl (by kernel_rfl) rfl rfl (by omega))) rfl ?_
      refine dt 7 rfl (by kernel_rfl) (fun _ _ _ h => h) hss (fun _ h => (r_loadN (m := 2) rfl (by kernel_rfl) rfl (h.imm hb) hcs rfl)) rfl ?_
      refine dt 9 rfl (by kernel_rfl) (fun _ _ _ h => h) hss (fun _ h => r_move rfl) rfl ?_
      refine dt 10 rfl (by kernel_rfl) (fun _ _ _ h => h) hss (fun _ h => r_move rfl) rfl ?_
      refine dt 11 rfl (by kernel_rfl) (fun _ _ _ h => h) hss (fun _ h => (r_addi rfl rfl rfl rfl (by omega))) rfl ?_
      refine dt 12 rfl (by kernel_rfl) (fun _ _ _ h => h) hss (fun _ h => (r_sliceL (e := 56) (sz := 2) (l := ((l.length / 2) + 1)) rfl rfl (by kernel_rfl) rfl rfl (by omega))) rfl ?_
      refine dro 3 (by kernel_rfl) rfl (ow_call (X := []) (L := []) (lb := []) hs16 (ih _ (by simp only [List.length_take, List.length_drop]; omega) (PairsAt.front (h := (l.length / 2)) hl (by omega)) (T.Sm.take hsm _) rfl (by simp only [List.length_take, List.length_drop]; omega)) (by kernel_rfl) rfl rfl rfl rfl rfl ?_)
      rintro _ G1 X1 w20 ⟨p18, rfl, ht19⟩ le23 hs21 hid22
      obtain rfl : X1 = [] := List.map_eq_nil_iff.1 hid22
      replace hs21 : St w0 I (ids []) G1 [] w20 := hs21
      clear hs16 hid22
      replace hss := hs21.ss (I := I) le23 (fun _ h => h)
      refine ⟨hss, ?_⟩
      refine dro 8 (by kernel_rfl) rfl (ow_call (X := []) (L := []) (lb := []) hs21 (own_ok (hk.up le23) (hx.up le23) hsm1.1 hsm1.2) (by kernel_rfl) rfl rfl rfl rfl rfl ?_)
      rintro _ G2 X1 w28 ⟨kv24, xv25, rfl, hk26, hx27⟩ le31 hs29 hid30
      obtain rfl : X1 = [] := List.map_eq_nil_iff.1 hid30
      replace hs29 : St w0 I (ids []) G2 [] w28 := hs29
      clear hs21 hid30
      replace hss := hs29.ss (I := I) (le23.trans le31) (fun _ h => h)
      refine ⟨hss, ?_⟩
      refine dro 13 (by kernel_rfl) rfl (ow_call (X := []) (L := []) (lb := []) hs29 (ih _ (by simp only [List.length_take, List.length_drop]; omega) ((PairsAt.back (h := ((l.length / 2) + 1)) hl (by omega)).up (le23.trans le31)) (T.Sm.drop hsm _) rfl (by simp only [List.length_take, List.length_drop]; omega)) (by kernel_rfl) rfl rfl rfl rfl rfl ?_)
      rintro _ G3 X1 w34 ⟨p32, rfl, ht33⟩ le37 hs35 hid36
      obtain rfl : X1 = [] := List.map_eq_nil_iff.1 hid36
      replace hs35 : St w0 I (ids []) G3 [] w34 := hs35
      clear hs29 hid36
      replace hss := hs35.ss (I := I) ((le23.trans le31).trans le37) (fun _ h => h)
      refine ⟨hss, ?_⟩
      refine dro 14 (by kernel_rfl) rfl (ow_call (X := []) (L := []) (lb := []) hs35 (node_ok (ht19.up (le31.trans le37)) ht33 (hk26.up le37) (hx27.up le37) (by simp only [T.size_fromL, List.length_take, List.length_drop]; omega)) (by kernel_rfl) rfl rfl rfl rfl rfl ?_)
      rintro _ G4 X1 w40 ⟨p38, rfl, ht39⟩ le43 hs41 hid42
      obtain rfl : X1 = [] := List.map_eq_nil_iff.1 hid42
      replace hs41 : St w0 I (ids []) G4 [] w40 := hs41
      clear hs35 hid42
      replace hss := hs41.ss (I := I) (((le23.trans le31).trans le37).trans le43) (fun _ h => h)
      refine ⟨hss, ?_⟩
      refine dt 15 rfl (by kernel_rfl) (fun _ _ _ h => h) hss (fun _ h => r_assign rfl) rfl ?_
      refine draw_done (by kernel_rfl) ?_
      refine hK15 _ _ ?_; clear hK15 K14
      refine wp_ret ?_
      exact leave (X' := []) (L := []) hs41 rfl (res_one (v := .pointer p38) rfl (.tmp rfl rfl .nil)) ⟨_, rfl, by rw [T.fromL_ne (by intro e; subst e; simp at hlt)]; exact ht39⟩
  exact key _ hl hsm rfl hsz
end Go.Proofs.YtlnlodfnplkckaaDoor
/- The contracts of the trees: their lists. -/
namespace Go.Proofs.YtlnlodfnplkckaaDoor
open T (Sm)
set_option linter.unusedVariables false
set_option linter.unusedSimpArgs false
structure LQ (I : GH) (cap : Nat) (cur : Array Value) (l : List (Bs × Bs)) : Prop where
  sz : cur.size = cap * 2
  cells : PairCells I (cur.toList.take (l.length * 2)) l
theorem LQ.up {I J : GH} {cap : Nat} {cur : Array Value} {l : List (Bs × Bs)} (h : LQ I cap cur l) (hle : I.le J) : LQ J cap cur l := ⟨h.sz, h.cells.up hle⟩
end Go.Proofs.YtlnlodfnplkckaaDoor
/- The contracts of the trees: even, join, first, Pair. -/
namespace Go.Proofs.YtlnlodfnplkckaaDoor
open T (Sm)
set_option linter.unusedVariables false
set_option linter.unusedSimpArgs false
theorem T.of_ne {t : T} (h : t ≠ .nil) : ∃ l k x r, t = .node l k x r := by
  cases t with
  | nil => exact absurd rfl h
  | node l k x r => exact ⟨l, k, x, r, rfl⟩
end Go.Proofs.YtlnlodfnplkckaaDoor
/- The contracts of the trees: join, first, Pair, put, Put. -/
namespace Go.Proofs.YtlnlodfnplkckaaDoor
open T (Sm)
set_option linter.unusedVariables false
set_option linter.unusedSimpArgs false
theorem mX_congr {m : Option Nat} {v v' c c' : Nat} (h1 : v = v') (h2 : c = c') : mX m v c = mX m v' c' := by rw [h1, h2]
end Go.Proofs.YtlnlodfnplkckaaDoor
/- The contracts of the trees: Delete, Get, Root. -/
namespace Go.Proofs.YtlnlodfnplkckaaDoor
open T (Sm)
set_option linter.unusedVariables false
set_option linter.unusedSimpArgs false
theorem T.Sm.getD {t : T} {k : Bs} (h : Sm t.toList) : Sm ((t.del k).getD t).toList := by
  cases hd : t.del k with
  | none => exact h
  | some u => exact T.Sm.del h hd
set_option maxRecDepth 100000 in
theorem root_ok {I : GH} {p : Option Addr} {l r : T} {k x : Bs} (ht : TreeAt I p (.node l k x r)) (h1 : k.length ≤ 1000000) (h2 : x.length ≤ 1000000) :
    Fn Tryd.prog 112 #[.pointer p] I [] (fun u J _ => ∃ kv xv, u = .agg #[kv, xv] ∧ BytesAt J kv k ∧ BytesAt J xv x) := by
  obtain ⟨b, tkv, txv, lp, rp, rfl, hb, htk, htx, hl, hr⟩ := ht
  refine enter (args := [.pointer (some ⟨b, 0, none⟩)]) Tryd.func112 rfl rfl fun w0 hs0 => ?_
  refine wp_seq_k fun K1 hK2 => ?_
  refine wl_begin ?_
  refine sqo rfl fun K3 hK4 => ow_newbox (mk := fun b => .pointer (some ⟨b, 0, none⟩)) hs0 (r_alloc (cs := [.slice none 0 0, .slice none 0 0]) (by kernel_rfl)) rfl ?_
  rintro b5 w6 (hs7 : St w0 I (ids []) I [⟨b5, #[.slice none 0 0, .slice none 0 0], 56⟩] w6)
  clear hs0
  refine hK4 _ _ ?_; clear hK4 K3
  refine wl_nil ?_
  refine hK2 _ _ ?_; clear hK2 K1
  refine wp_seq_k fun K8 hK9 => ?_
  refine wp_seq_k fun K10 hK11 => ?_
  refine wl_begin ?_
  refine sq (r_move rfl) rfl ?_
  refine sq (r_eqp rfl rfl (by kernel_rfl) rfl rfl) rfl ?_
  refine wl_nil ?_
  refine hK11 _ _ ?_; clear hK11 K10
  refine condF rfl rfl ?_
  refine wp_skip ?_
  refine hK9 _ _ ?_; clear hK9 K8
  refine wp_seq_k fun K12 hK13 => ?_
  refine wl_begin ?_
  refine sq (r_move rfl) rfl ?_
  refine sq (r_nilCheck rfl rfl) rfl ?_
  refine sq (r_fieldAddr (off := 0) rfl (by kernel_rfl) rfl) rfl ?_
  refine sq (r_loadN (m := 2) rfl (by kernel_rfl) rfl (hs7.imm hb) rfl rfl) rfl ?_
  refine sqo rfl fun K14 hK15 => ow_call (X := []) (L := [⟨b5, #[.slice none 0 0, .slice none 0 0], 56⟩]) (lb := []) hs7 (own_ok htk htx (by omega) (by omega)) (by kernel_rfl) rfl rfl rfl rfl rfl ?_
  rintro _ G1 X1 w20 ⟨kv16, xv17, rfl, hk18, hx19⟩ le23 hs21 hid22
  obtain rfl : X1 = [] := List.map_eq_nil_iff.1 hid22
  replace hs21 : St w0 I (ids []) G1 [⟨b5, #[.slice none 0 0, .slice none 0 0], 56⟩] w20 := hs21
  clear hs7 hid22
  refine hK15 _ _ ?_; clear hK15 K14
  refine sqo rfl fun K24 hK25 => ow_store (vs := [kv16, xv17]) hs21 rfl rfl (by kernel_rfl) rfl rfl (.cons hk18.one (.cons hx19.one .nil)) rfl ?_
  rintro w26 (hs27 : St w0 I (ids []) G1 [⟨b5, #[kv16, xv17], 56⟩] w26)
  clear hs21
  refine hK25 _ _ ?_; clear hK25 K24
  refine wl_nil ?_
  refine hK13 _ _ ?_; clear hK13 K12
  refine wp_ret ?_
  exact leave (X' := []) (L := [⟨b5, #[kv16, xv17], 56⟩]) hs27 rfl (res_one (v := .agg #[kv16, xv17]) rfl (.agg (m := 2) rfl rfl (by kernel_rfl) (hs27.box (.head _)) rfl rfl .nil)) ⟨_, _, rfl, hk18, hx19⟩
end Go.Proofs.YtlnlodfnplkckaaDoor
/- The contracts of the trees: Get. -/
namespace Go.Proofs.YtlnlodfnplkckaaDoor
open T (Sm)
set_option linter.unusedVariables false
set_option linter.unusedSimpArgs false
theorem T.nil_of {I : GH} {u : T} (h : TreeAt I none u) : u = .nil := by
  cases u with
  | nil => rfl
  | node l k x r => obtain ⟨_, _, _, _, _, e, _⟩ := h; cases e
theorem T.ne_of {I : GH} {q : Option Addr} {u : T} (h : TreeAt I q u) (hq : q.isNone = false) : u ≠ .nil := by
  intro e; subst e
  have : q = none := h
  subst this; cases hq
set_option maxRecDepth 100000 in
theorem get_ok {I : GH} {m : Option Nat} {t : T} {kv : Value} {k : Bs} {p : Option Addr} {v c : Nat} (ht : TreeAt I p t) (hk : BytesAt I kv k) (hsm : Sm t.toList) :
    Fn Tryd.prog 62 #[.pointer p, kv, mV m] I (mX m v c) (fun w J X => ∃ xv, w = .tuple #[xv, .bool (t.get k).isSome] ∧ BytesAt J xv ((t.get k).getD []) ∧ X = mX m (v + t.path k) (c + t.path k)) := by
  refine enter (args := [.pointer p, kv, (mV m)]) Tryd.func62 rfl rfl fun w0 hs0 => ?_
  replace hs0 : St w0 I (ids (mX m (v) (c))) I (mX m (v) (c) ++ []) w0 := by simpa using hs0
  refine wp_seq_k fun K1 hK2 => ?_
  refine wl_begin ?_
  refine sq (r_assign rfl) rfl ?_
  refine sq (r_assign rfl) rfl ?_
  refine wl_nil ?_
  refine hK2 _ _ ?_; (try clear hK2 K1)
  refine wp_seq_k fun K3 hK4 => ?_
  refine wp_block ?_
  refine lp (σ := Nat) (fun m6 f7 w8 => ∃ (g5 : Nat → Value) (q : Option Addr) (u : T) (vv : Nat) (cc : Nat), m6 = T.size u ∧ f7 = updL g5 [(0, .pointer q), (1, kv), (2, (mV m))] ∧ (TreeAt I q u) ∧ (Sm u.toList) ∧ (T.get u k = T.get t k) ∧ (vv + T.path u k = v + T.path t k) ∧ (cc + T.path u k = c + T.path t k) ∧ St w0 I (ids (mX m (v) (c))) I (mX m (vv) (cc) ++ []) w8) (fun m => m) (T.size t) ⟨_, p, t, v, c, rfl, updL_self (.cons rfl (.cons rfl (.cons rfl .nil))), ht, hsm, rfl, rfl, rfl, hs0⟩ ?_
  clear hs0
  rintro m6 f7 w8 ⟨g5, q, u, vv, cc, rfl, rfl, hu, su, eg, ev, ec, hs9⟩
  refine wp_seq_k fun K10 hK11 => ?_
  refine wp_seq_k fun K12 hK13 => ?_
  refine wl_begin ?_
  refine sq (r_move rfl) rfl ?_
  refine sq (r_nep rfl rfl (by kernel_rfl) rfl rfl) rfl ?_
  refine wl_nil ?_
  refine hK13 _ _ ?_; (try clear hK13 K12)
  refine condS rfl rfl (fun h14 => ?_) (fun h14 => ?_)
  ·
    have h15 : q.isNone = false := by simpa using h14
    obtain ⟨al, ak, ax, ar, ea⟩ := T.of_ne (t := u) (T.ne_of hu h15)
    have ha' := hu; rw [ea] at ha'
    obtain ⟨ab, akv, axv, alp, arp, rfl, hab, hak, hax, hal, har⟩ := ha'
    have sa' := su; rw [ea] at sa'; obtain ⟨sal, sak, sax, sar⟩ := T.Sm.node sa'
    have za : u.size = al.size + 1 + ar.size := by rw [ea]; rfl
    refine wp_skip ?_
    refine hK11 _ _ ?_; (try clear hK11 K10)
    refine wp_block ?_
    refine wp_seq_k fun K16 hK17 => ?_
    refine wl_begin ?_
    refine sq (r_move rfl) rfl ?_
    refine sqo rfl fun K18 hK19 => ow_call (X := mX m (vv) (cc)) (L := []) (lb := []) hs9 (visit_ok) (by kernel_rfl) rfl rfl rfl rfl rfl ?_
    rintro _ _ X1 w20 ⟨rfl, rfl⟩ - hs21 hid22
    replace hs21 : St w0 I (ids (mX m (v) (c))) I (mX m (vv + 1) (cc) ++ []) w20 := hs21
    clear hs9 hid22
    refine hK19 _ _ ?_; clear hK19 K18
    refine wl_nil ?_
    refine hK17 _ _ ?_; (try clear hK17 K16)
    refine wp_seq_k fun K23 hK24 => ?_
    refine wl_begin ?_
    refine sq (r_move rfl) rfl ?_
    refine sq (r_move rfl) rfl ?_
    refine sq (r_move rfl) rfl ?_
    refine sq (r_nilCheck rfl rfl) rfl ?_
    refine sq (r_fieldAddr (off := 0) rfl (by kernel_rfl) rfl) rfl ?_
    refine sq (r_fieldAddr (off := 0) rfl (by kernel_rfl) rfl) rfl ?_
    refine sq (r_load rfl (by kernel_rfl) rfl (hs21.imm hab) rfl) rfl ?_
    refine sqo rfl fun K25 hK26 => ow_call (X := mX m (vv + 1) (cc)) (L := []) (lb := []) hs21 (mcmp_ok hk hak) (by kernel_rfl) rfl rfl rfl rfl rfl ?_
    rintro _ _ X1 w27 ⟨rfl, rfl, rfl⟩ - hs28 hid29
    replace hs28 : St w0 I (ids (mX m (v) (c))) I (mX m (vv + 1) (cc + 1) ++ []) w27 := hs28
    clear hs21 hid29
    refine hK26 _ _ ?_; clear hK26 K25
    refine sq (r_assign rfl) rfl ?_
    refine wl_nil ?_
    refine hK24 _ _ ?_; (try clear hK24 K23)
    refine wp_seq_k fun K30 hK31 => ?_
    refine nrm (vals := [(0, .pointer (some ⟨ab, 0, none⟩)), (1, kv), (2, (mV m)), (8, .int .i64 (cmpB k ak)), (10, .bool true)]) (.cons rfl (.cons rfl (.cons rfl (.cons rfl (.cons rfl .nil))))) fun g32 => ?_
    refine wl_begin ?_
    refine sq (r_move rfl) rfl ?_
    refine wl_nil ?_
    refine hK31 _ _ ?_; (try clear hK31 K30)
    refine wp_block ?_
    refine wp_seq_k fun K33 hK34 => ?_
    refine wl_begin ?_
    refine sq (r_eqi rfl rfl rfl rfl) rfl ?_
    refine sq (r_assign rfl) rfl ?_
    refine wl_nil ?_
    refine hK34 _ _ ?_; (try clear hK34 K33)
    refine condS rfl rfl (fun h35 => ?_) (fun h35 => ?_)
    ·
      have p36 := of_decide_eq_true h35
      have hc1 : cmpB k ak = 0 := by simpa using h35
      refine wp_seq_k fun K37 hK38 => ?_
      refine wl_begin ?_
      refine sq (r_move rfl) rfl ?_
      refine sq (r_nilCheck rfl rfl) rfl ?_
      refine sq (r_fieldAddr (off := 0) rfl (by kernel_rfl) rfl) rfl ?_
      refine sq (r_fieldAddr (off := 1) rfl (by kernel_rfl) rfl) rfl ?_
      refine sq (r_load rfl (by kernel_rfl) rfl (hs28.imm hab) rfl) rfl ?_
      refine sqo rfl fun K39 hK40 => ow_call (X := []) (L := (mX m (vv + 1) (cc + 1) ++ [])) (lb := []) hs28 (clone_ok hax sax) (by kernel_rfl) rfl rfl rfl rfl rfl ?_
      rintro cv41 G1 X1 w43 hc42 le46 hs44 hid45
      obtain rfl : X1 = [] := List.map_eq_nil_iff.1 hid45
      replace hs44 : St w0 I (ids (mX m (v) (c))) G1 (mX m (vv + 1) (cc + 1) ++ []) w43 := hs44
      clear hs28 hid45
      refine hK40 _ _ ?_; clear hK40 K39
      refine sq (r_assign rfl) rfl ?_
      refine sq (r_assign rfl) rfl ?_
      refine wl_nil ?_
      refine hK38 _ _ ?_; (try clear hK38 K37)
      refine wp_ret ?_
      exact leave (X' := mX m (vv + 1) (cc + 1)) (L := []) hs44 (mX_ids _ _ _ _ _) (res_many (vs := [cv41, .bool true]) rfl (.tmp rfl rfl (.tmp rfl rfl .nil)) rfl) ⟨cv41, by rw [← eg, ea]; simp [T.get, hc1], by rw [← eg, ea]; simp only [T.get, hc1, if_true, Option.getD_some]; exact hc42, mX_congr (by rw [← ev, ea]; simp [T.path, hc1]) (by rw [← ec, ea]; simp [T.path, hc1])⟩
    ·
      have p47 := of_decide_eq_false h35
      have hc1 : ¬ cmpB k ak = 0 := by simpa using h35
      refine wp_seq_k fun K48 hK49 => ?_
      refine wl_begin ?_
      refine sq (r_eqi rfl rfl rfl rfl) rfl ?_
      refine sq (r_assign rfl) rfl ?_
      refine wl_nil ?_
      refine hK49 _ _ ?_; (try clear hK49 K48)
      refine condS rfl rfl (fun h50 => ?_) (fun h50 => ?_)
      ·
        have p51 := of_decide_eq_true h50
        have hc2 : cmpB k ak = 1 := by simpa using h50
        refine wl_begin ?_
        refine sq (r_move rfl) rfl ?_
        refine sq (r_nilCheck rfl rfl) rfl ?_
        refine sq (r_fieldAddr (off := 3) rfl (by kernel_rfl) rfl) rfl ?_
        refine sq (r_load rfl (by kernel_rfl) rfl (hs28.imm hab) rfl) rfl ?_
        refine sq (r_assign rfl) rfl ?_
        refine wl_nil ?_
        exact ⟨_, _, rfl, ⟨_, arp, ar, _, _, rfl, updL_self (.cons rfl (.cons rfl (.cons rfl .nil))), har, sar, (by rw [← eg, ea]; simp [T.get, hc1, hc2]), (by rw [← ev]; rw [ea]; simp [T.path, hc1, hc2]; try omega), (by rw [← ec]; rw [ea]; simp [T.path, hc1, hc2]; try omega), hs28⟩, (by show T.size _ < T.size _; rw [za]; omega)⟩
      ·
        have p52 := of_decide_eq_false h50
        have hc2 : ¬ cmpB k ak = 1 := by simpa using h50
        refine wl_begin ?_
        refine sq (r_move rfl) rfl ?_
        refine sq (r_nilCheck rfl rfl) rfl ?_
        refine sq (r_fieldAddr (off := 2) rfl (by kernel_rfl) rfl) rfl ?_
        refine sq (r_load rfl (by kernel_rfl) rfl (hs28.imm hab) rfl) rfl ?_
        refine sq (r_assign rfl) rfl ?_
        refine wl_nil ?_
        exact ⟨_, _, rfl, ⟨_, alp, al, _, _, rfl, updL_self (.cons rfl (.cons rfl (.cons rfl .nil))), hal, sal, (by rw [← eg, ea]; simp [T.get, hc1, hc2]), (by rw [← ev]; rw [ea]; simp [T.path, hc1, hc2]; try omega), (by rw [← ec]; rw [ea]; simp [T.path, hc1, hc2]; try omega), hs28⟩, (by show T.size _ < T.size _; rw [za]; omega)⟩
  ·
    have h53 : q.isNone = true := by simpa using h14
    obtain rfl : q = none := Option.isNone_iff_eq_none.1 h53
    have hnil := T.nil_of hu
    refine wp_exit ?_
    refine hK4 _ _ ?_; (try clear hK4 K3)
    refine wp_seq_k fun K54 hK55 => ?_
    refine wl_begin ?_
    refine sq (r_assign rfl) rfl ?_
    refine sq (r_assign rfl) rfl ?_
    refine wl_nil ?_
    refine hK55 _ _ ?_; (try clear hK55 K54)
    refine wp_ret ?_
    exact leave (X' := mX m (vv) (cc)) (L := []) hs9 (mX_ids _ _ _ _ _) (res_many (vs := [.slice none 0 0, .bool false]) rfl (.tmp rfl rfl (.tmp rfl rfl .nil)) rfl) ⟨_, by rw [← eg, hnil]; rfl, by rw [← eg, hnil]; exact BytesAt.nil _, mX_congr (by rw [← ev, hnil]; rfl) (by rw [← ec, hnil]; rfl)⟩
end Go.Proofs.YtlnlodfnplkckaaDoor
/- The engine: bits of unsigned numbers, written as natural numbers. Each theorem's conditions stand in it. -/
namespace Go.Proofs.YtlnlodfnplkckaaDoor
set_option linter.unusedSimpArgs false
def unsT (k : IntKind) (n : Nat) : Bool := (!k.signed) && Nat.beq k.bits n
theorem wrapM {k : IntKind} {n : Nat} (h : unsT k n = true) (a : Nat) : k.wrap (a : Int) = ((a % 2 ^ n : Nat) : Int) := by
  simp only [unsT, Bool.and_eq_true, Bool.not_eq_true'] at h
  have hb : k.bits = n := Nat.eq_of_beq_eq_true h.2
  simp only [IntKind.wrap, h.1, hb]
  simp
theorem wrapU {k : IntKind} {n : Nat} (h : unsT k n = true) (a : Nat) (ha : a < 2 ^ n) : k.wrap (a : Int) = (a : Int) := by
  rw [wrapM h, Nat.mod_eq_of_lt ha]
section
variable {P : Program} {f : Nat → Value} {n : Fr} {w : World} {d : Option Tmp} {t ty yt : TypeId} {pos : String} {af : Array Edge} {g : Option (Nat × Bool)} {x y : Operand} {k : IntKind} {m a b : Nat}
theorem r_andN (hk : unsT k m = true) (hx : okO n x = true) (hy : okO n y = true) (hxv : ev f x = .int k (a : Int)) (hyv : ev f y = .int k (b : Int)) (ha : a < 2 ^ m) (hb : b < 2 ^ m) :
    (execOp (FA f n).eval ⟨d, .binOp .and t x y yt, ty, pos, af, g⟩).run P w = .ok (.value (.int k ((a &&& b : Nat) : Int))) w := by
  have hb' : k.bits = m := by simp only [unsT, Bool.and_eq_true] at hk; exact Nat.eq_of_beq_eq_true hk.2
  subst hb'
  simp [execOp, FA_eval hx, FA_eval hy, hxv, hyv, eqGuard, binOp, Op.intBits, Nat.mod_eq_of_lt ha, Nat.mod_eq_of_lt hb, wrapU hk _ (Nat.and_lt_two_pow _ hb)]
theorem r_orN (hk : unsT k m = true) (hx : okO n x = true) (hy : okO n y = true) (hxv : ev f x = .int k (a : Int)) (hyv : ev f y = .int k (b : Int)) (ha : a < 2 ^ m) (hb : b < 2 ^ m) :
    (execOp (FA f n).eval ⟨d, .binOp .or t x y yt, ty, pos, af, g⟩).run P w = .ok (.value (.int k ((a ||| b : Nat) : Int))) w := by
  have hb' : k.bits = m := by simp only [unsT, Bool.and_eq_true] at hk; exact Nat.eq_of_beq_eq_true hk.2
  subst hb'
  simp [execOp, FA_eval hx, FA_eval hy, hxv, hyv, eqGuard, binOp, Op.intBits, Nat.mod_eq_of_lt ha, Nat.mod_eq_of_lt hb, wrapU hk _ (Nat.or_lt_two_pow ha hb)]
theorem r_shlN {j : IntKind} (hk : unsT k m = true) (hx : okO n x = true) (hy : okO n y = true) (hxv : ev f x = .int k (a : Int)) (hyv : ev f y = .int j (b : Int)) (hb : b ≤ m) :
    (execOp (FA f n).eval ⟨d, .binOp .shl t x y yt, ty, pos, af, g⟩).run P w = .ok (.value (.int k ((a * 2 ^ b % 2 ^ m : Nat) : Int))) w := by
  have hb' : k.bits = m := by simp only [unsT, Bool.and_eq_true] at hk; exact Nat.eq_of_beq_eq_true hk.2
  have e : k.wrap ((a : Int) * 2 ^ b) = ((a * 2 ^ b % 2 ^ m : Nat) : Int) := by
    rw [show (a : Int) * 2 ^ b = ((a * 2 ^ b : Nat) : Int) by simp, wrapM hk]
  have h0 : ¬ ((b : Int) < 0) := by omega
  simp [execOp, FA_eval hx, FA_eval hy, hxv, hyv, eqGuard, binOp, Op.shift, hb', Nat.min_eq_left hb, h0, e]
theorem r_shrN {j : IntKind} (hk : unsT k m = true) (hx : okO n x = true) (hy : okO n y = true) (hxv : ev f x = .int k (a : Int)) (hyv : ev f y = .int j (b : Int)) (hb : b ≤ m) :
    (execOp (FA f n).eval ⟨d, .binOp .shr t x y yt, ty, pos, af, g⟩).run P w = .ok (.value (.int k ((a / 2 ^ b : Nat) : Int))) w := by
  have hb' : k.bits = m := by simp only [unsT, Bool.and_eq_true] at hk; exact Nat.eq_of_beq_eq_true hk.2
  have h0 : ¬ ((b : Int) < 0) := by omega
  have e : (a : Int).fdiv (2 ^ b) = ((a / 2 ^ b : Nat) : Int) := by
    rw [show ((2 : Int) ^ b) = ((2 ^ b : Nat) : Int) by simp, Int.fdiv_eq_ediv_of_nonneg _ (Int.natCast_nonneg _)]; rfl
  simp [execOp, FA_eval hx, FA_eval hy, hxv, hyv, eqGuard, binOp, Op.shift, hb', Nat.min_eq_left hb, h0, e]
theorem r_addN (hk : unsT k m = true) (hx : okO n x = true) (hy : okO n y = true) (hxv : ev f x = .int k (a : Int)) (hyv : ev f y = .int k (b : Int)) :
    (execOp (FA f n).eval ⟨d, .binOp .add t x y yt, ty, pos, af, g⟩).run P w = .ok (.value (.int k (((a + b) % 2 ^ m : Nat) : Int))) w := by
  have e : k.wrap ((a : Int) + b) = (((a + b) % 2 ^ m : Nat) : Int) := by rw [← Int.natCast_add, wrapM hk]
  rw [r_add hx hy hxv hyv, e]
theorem r_mulN (hk : unsT k m = true) (hx : okO n x = true) (hy : okO n y = true) (hxv : ev f x = .int k (a : Int)) (hyv : ev f y = .int k (b : Int)) :
    (execOp (FA f n).eval ⟨d, .binOp .mul t x y yt, ty, pos, af, g⟩).run P w = .ok (.value (.int k ((a * b % 2 ^ m : Nat) : Int))) w := by
  have e : k.wrap ((a : Int) * b) = ((a * b % 2 ^ m : Nat) : Int) := by rw [← Int.natCast_mul, wrapM hk]
  rw [r_mul hx hy hxv hyv, e]
theorem wrapS {k : IntKind} {m a b : Nat} (hk : unsT k m = true) (hb : b < 2 ^ m) : k.wrap ((a : Int) - b) = (((a + (2 ^ m - b)) % 2 ^ m : Nat) : Int) := by
  rw [← wrapM hk]
  simp only [unsT, Bool.and_eq_true, Bool.not_eq_true'] at hk
  have hb' : k.bits = m := Nat.eq_of_beq_eq_true hk.2
  simp only [IntKind.wrap, hk.1, hb', Bool.false_and, if_false]
  have e : ((a + (2 ^ m - b) : Nat) : Int) = (a : Int) - b + ((2 ^ m : Nat) : Int) := by omega
  have e2 : (2 : Int) ^ m = ((2 ^ m : Nat) : Int) := by simp
  rw [e, e2, Int.add_emod_right]
theorem r_subN (hk : unsT k m = true) (hx : okO n x = true) (hy : okO n y = true) (hxv : ev f x = .int k (a : Int)) (hyv : ev f y = .int k (b : Int)) (hb : b < 2 ^ m) :
    (execOp (FA f n).eval ⟨d, .binOp .sub t x y yt, ty, pos, af, g⟩).run P w = .ok (.value (.int k (((a + (2 ^ m - b)) % 2 ^ m : Nat) : Int))) w := by
  rw [r_sub hx hy hxv hyv, wrapS hk hb]
theorem r_negN (hk : unsT k m = true) (hx : okO n x = true) (hxv : ev f x = .int k (a : Int)) (ha : a < 2 ^ m) :
    (execOp (FA f n).eval ⟨d, .unOp .neg t x, ty, pos, af, g⟩).run P w = .ok (.value (.int k (((2 ^ m - a) % 2 ^ m : Nat) : Int))) w := by
  have e := wrapS (a := 0) hk ha
  simp only [Nat.zero_add] at e
  have e1 : k.wrap (0 - (a : Int)) = (((2 ^ m - a) % 2 ^ m : Nat) : Int) := by rw [← e]; simp
  have hr : (Op.unary .neg (.int k (a : Int))).run P w = .ok (.int k (((2 ^ m - a) % 2 ^ m : Nat) : Int)) w := by
    rw [← e1]; rfl
  simp only [execOp, FA_eval hx, hxv, Sem.run_bind, hr, Result.andThen_ok, Sem.run_pure]
theorem r_eqN {j : IntKind} (hx : okO n x = true) (hy : okO n y = true) (hxv : ev f x = .int j (a : Int)) (hyv : ev f y = .int j (b : Int)) :
    (execOp (FA f n).eval ⟨d, .binOp .eql t x y yt, ty, pos, af, g⟩).run P w = .ok (.value (.bool (decide (a = b)))) w := by
  rw [r_eqi hx hy hxv hyv]
  have e : decide ((a : Int) = (b : Int)) = decide (a = b) := decide_eq_decide.2 Int.ofNat_inj
  rw [e]
theorem r_neN {j : IntKind} (hx : okO n x = true) (hy : okO n y = true) (hxv : ev f x = .int j (a : Int)) (hyv : ev f y = .int j (b : Int)) :
    (execOp (FA f n).eval ⟨d, .binOp .neq t x y yt, ty, pos, af, g⟩).run P w = .ok (.value (.bool (!decide (a = b)))) w := by
  rw [r_nei hx hy hxv hyv]
  have e : decide ((a : Int) = (b : Int)) = decide (a = b) := decide_eq_decide.2 Int.ofNat_inj
  rw [e]
/-- A conversion that keeps the number. -/
theorem r_convN {src dst : TypeId} {j : IntKind} (hr : (execOp (FA f n).eval ⟨d, .convert src dst x, ty, pos, af, g⟩).run P w = .ok (.value (.int j (j.wrap (a : Int)))) w) (hk : unsT j m = true) (ha : a < 2 ^ m) :
    (execOp (FA f n).eval ⟨d, .convert src dst x, ty, pos, af, g⟩).run P w = .ok (.value (.int j (a : Int))) w := by rw [hr, wrapU hk a ha]
theorem r_convI {src dst : TypeId} (hr : (execOp (FA f n).eval ⟨d, .convert src dst x, ty, pos, af, g⟩).run P w = .ok (.value (.int .i64 (IntKind.i64.wrap (a : Int)))) w) (ha : a < 2 ^ 63) :
    (execOp (FA f n).eval ⟨d, .convert src dst x, ty, pos, af, g⟩).run P w = .ok (.value (.int .i64 (a : Int))) w := by rw [hr, Go.IntWalk.i64_in _ (by omega)]
end
end Go.Proofs.YtlnlodfnplkckaaDoor
/- The engine: natural numbers as int's: least, greatest, differences. Each theorem's conditions stand in it. -/
namespace Go.Proofs.YtlnlodfnplkckaaDoor
section
variable {P : Program} {f : Nat → Value} {n : Fr} {w : World} {d : Option Tmp} {t ty yt : TypeId} {pos : String} {af : Array Edge} {g : Option (Nat × Bool)} {x y : Operand} {k : IntKind} {a b : Nat} {ats : Array TypeId}
theorem r_maxN (hx : okO n x = true) (hy : okO n y = true) (ha : ev f x = .int k (a : Int)) (hb : ev f y = .int k (b : Int)) :
    (execOp (FA f n).eval ⟨d, .call ⟨.builtin .max, #[x, y], ats⟩, ty, pos, af, g⟩).run P w = .ok (.value (.int k ((max a b : Nat) : Int))) w := by
  rw [r_max hx hy ha hb]
  have e : max (a : Int) (b : Int) = ((max a b : Nat) : Int) := by omega
  rw [e]
theorem r_minN (hx : okO n x = true) (hy : okO n y = true) (ha : ev f x = .int k (a : Int)) (hb : ev f y = .int k (b : Int)) :
    (execOp (FA f n).eval ⟨d, .call ⟨.builtin .min, #[x, y], ats⟩, ty, pos, af, g⟩).run P w = .ok (.value (.int k ((min a b : Nat) : Int))) w := by
  rw [r_min hx hy ha hb]
  have e : min (a : Int) (b : Int) = ((min a b : Nat) : Int) := by omega
  rw [e]
theorem r_subNi (hx : okO n x = true) (hy : okO n y = true) (ha : ev f x = .int .i64 (a : Int)) (hb : ev f y = .int .i64 (b : Int)) (h : b ≤ a) (h2 : a ≤ 9223372036854775807) :
    (execOp (FA f n).eval ⟨d, .binOp .sub t x y yt, ty, pos, af, g⟩).run P w = .ok (.value (.int .i64 ((a - b : Nat) : Int))) w := by
  rw [r_subi hx hy ha hb (by omega)]
  have e : (a : Int) - (b : Int) = ((a - b : Nat) : Int) := by omega
  rw [e]
theorem r_mulNi (hx : okO n x = true) (hy : okO n y = true) (ha : ev f x = .int .i64 (a : Int)) (hb : ev f y = .int .i64 (b : Int)) (h2 : a * b ≤ 9223372036854775807) :
    (execOp (FA f n).eval ⟨d, .binOp .mul t x y yt, ty, pos, af, g⟩).run P w = .ok (.value (.int .i64 ((a * b : Nat) : Int))) w := by
  have e : (a : Int) * (b : Int) = ((a * b : Nat) : Int) := by rw [Int.natCast_mul]
  rw [r_muli hx hy ha hb (by rw [e]; omega), e]
theorem r_addNi (hx : okO n x = true) (hy : okO n y = true) (ha : ev f x = .int .i64 (a : Int)) (hb : ev f y = .int .i64 (b : Int)) (h2 : a + b ≤ 9223372036854775807) :
    (execOp (FA f n).eval ⟨d, .binOp .add t x y yt, ty, pos, af, g⟩).run P w = .ok (.value (.int .i64 ((a + b : Nat) : Int))) w := by
  have e : (a : Int) + (b : Int) = ((a + b : Nat) : Int) := by omega
  rw [r_addi hx hy ha hb (by rw [e]; omega), e]
end
/-- A chunk of a hash. -/
def chunkN (h l : Nat) : Nat := h / 2 ^ (5 * min l 12) % 32
theorem chunkN_lt (h l : Nat) : chunkN h l < 32 := Nat.mod_lt _ (by decide)
theorem cut_eq {x k m : Nat} (hm : m ≤ 64) : (x / 2 ^ k * 2 ^ (64 - m) % 2 ^ 64) / 2 ^ (64 - m) = x / 2 ^ k % 2 ^ m := by
  have e : (2 : Nat) ^ 64 = 2 ^ m * 2 ^ (64 - m) := by rw [← Nat.pow_add]; congr 1; omega
  rw [e, Nat.mul_mod_mul_right, Nat.mul_div_cancel _ (Nat.pow_pos (by decide))]
end Go.Proofs.YtlnlodfnplkckaaDoor
/- The contracts of packages bits (but for its loops), word.Cut, chunk.At. -/
namespace Go.Proofs.YtlnlodfnplkckaaDoor
set_option linter.unusedVariables false
set_option linter.unusedSimpArgs false
/-- The set of one number of 0 to 31, or of none. -/
def bitN (i : Int) : Nat := if i < 0 ∨ 32 ≤ i then 0 else 2 ^ i.toNat
theorem bitN_lt (i : Int) : bitN i < 2 ^ 32 := by
  unfold bitN
  split
  · decide
  · exact Nat.pow_lt_pow_right (by decide) (by omega)
theorem bitN_of {i : Nat} (h : i < 32) : bitN (i : Int) = 2 ^ i := by
  unfold bitN; rw [if_neg (by omega)]; simp
set_option maxRecDepth 100000 in
theorem bit_ok {I : GH} (i : Int) : Fn Tryd.prog 116 #[.int .i64 i] I [] (fun v J _ => v = .int .u32 ((bitN i : Nat) : Int) ∧ I = J) := by
  by_cases hi : i < 0 ∨ 32 ≤ i
  ·
    refine enter (args := [.int .i64 i]) Tryd.func116 rfl rfl fun w0 hs0 => ?_
    refine wp_seq_k fun K1 hK2 => ?_
    refine wl_begin ?_
    refine sq (r_assign rfl) rfl ?_
    refine wl_nil ?_
    refine hK2 _ _ ?_; (try clear hK2 K1)
    refine wp_seq_k fun K3 hK4 => ?_
    refine wp_seq_k fun K5 hK6 => ?_
    refine wl_begin ?_
    refine sq (r_move rfl) rfl ?_
    refine sq (r_lti rfl rfl rfl rfl) rfl ?_
    refine sq (r_move rfl) rfl ?_
    refine bsplit (decide (i < 0)) (fun h7 => ?_) (fun h7 => ?_)
    ·
      have p8 := of_decide_eq_true h7
      refine sqN (wantedF rfl rfl rfl (congrArg Value.bool h7)) rfl ?_
      refine sqN (wantedF rfl rfl rfl (congrArg Value.bool h7)) rfl ?_
      refine sq (r_pick rfl rfl rfl (congrArg Value.bool h7)) rfl ?_
      refine wl_nil ?_
      refine hK6 _ _ ?_; (try clear hK6 K5)
      refine condT rfl rfl ?_
      refine wp_seq_k fun K9 hK10 => ?_
      refine wl_begin ?_
      refine sq (r_assign rfl) rfl ?_
      refine wl_nil ?_
      refine hK10 _ _ ?_; (try clear hK10 K9)
      refine wp_ret ?_
      exact leave (X' := []) (L := []) hs0 rfl (res_one (v := .int .u32 0) rfl (.tmp rfl rfl .nil)) ⟨by rw [show bitN i = 0 from by unfold bitN; rw [if_pos (by omega)]]; rfl, rfl⟩
    ·
      have p11 := of_decide_eq_false h7
      refine sqG (wantedT rfl rfl rfl (congrArg Value.bool h7)) (r_move rfl) rfl ?_
      refine sqG (wantedT rfl rfl rfl (congrArg Value.bool h7)) (r_gei rfl rfl rfl rfl) rfl ?_
      refine sq (r_pick rfl rfl rfl (congrArg Value.bool h7)) rfl ?_
      refine wl_nil ?_
      refine hK6 _ _ ?_; (try clear hK6 K5)
      refine condS rfl rfl (fun h12 => ?_) (fun h12 => ?_)
      ·
        have p13 := of_decide_eq_true h12
        refine wp_seq_k fun K14 hK15 => ?_
        refine wl_begin ?_
        refine sq (r_assign rfl) rfl ?_
        refine wl_nil ?_
        refine hK15 _ _ ?_; (try clear hK15 K14)
        refine wp_ret ?_
        exact leave (X' := []) (L := []) hs0 rfl (res_one (v := .int .u32 0) rfl (.tmp rfl rfl .nil)) ⟨by rw [show bitN i = 0 from by unfold bitN; rw [if_pos (by omega)]]; rfl, rfl⟩
      ·
        have p16 := of_decide_eq_false h12
        omega
  · obtain ⟨n, rfl⟩ : ∃ n : Nat, i = (n : Int) := ⟨i.toNat, by omega⟩
    refine enter (args := [.int .i64 ((n : Nat) : Int)]) Tryd.func116 rfl rfl fun w0 hs0 => ?_
    refine wp_seq_k fun K1 hK2 => ?_
    refine wl_begin ?_
    refine sq (r_assign rfl) rfl ?_
    refine wl_nil ?_
    refine hK2 _ _ ?_; (try clear hK2 K1)
    refine wp_seq_k fun K3 hK4 => ?_
    refine wp_seq_k fun K5 hK6 => ?_
    refine wl_begin ?_
    refine sq (r_move rfl) rfl ?_
    refine sq (r_lti rfl rfl rfl rfl) rfl ?_
    refine sq (r_move rfl) rfl ?_
    refine bsplit (decide (((n : Nat) : Int) < 0)) (fun h7 => ?_) (fun h7 => ?_)
    ·
      have p8 := of_decide_eq_true h7
      omega
    ·
      have p9 := of_decide_eq_false h7
      refine sqG (wantedT rfl rfl rfl (congrArg Value.bool h7)) (r_move rfl) rfl ?_
      refine sqG (wantedT rfl rfl rfl (congrArg Value.bool h7)) (r_gei rfl rfl rfl rfl) rfl ?_
      refine sq (r_pick rfl rfl rfl (congrArg Value.bool h7)) rfl ?_
      refine wl_nil ?_
      refine hK6 _ _ ?_; (try clear hK6 K5)
      refine condS rfl rfl (fun h10 => ?_) (fun h10 => ?_)
      ·
        have p11 := of_decide_eq_true h10
        omega
      ·
        have p12 := of_decide_eq_false h10
        refine wp_skip ?_
        refine hK4 _ _ ?_; (try clear hK4 K3)
        refine wp_seq_k fun K13 hK14 => ?_
        refine wl_begin ?_
        refine sq (r_move rfl) rfl ?_
        refine sq (r_shlN (a := 1) (b := n) (m := 32) (by kernel_rfl) rfl rfl rfl rfl (by omega)) rfl ?_
        refine sq (r_assign rfl) rfl ?_
        refine wl_nil ?_
        refine hK14 _ _ ?_; (try clear hK14 K13)
        refine wp_ret ?_
        exact leave (X' := []) (L := []) hs0 rfl (res_one (v := .int .u32 (((1 * 2 ^ n % 2 ^ 32) : Nat) : Int)) rfl (.tmp rfl rfl .nil)) ⟨by rw [bitN_of (by omega), Nat.one_mul, Nat.mod_eq_of_lt (Nat.pow_lt_pow_right (by decide) (by omega))], rfl⟩
set_option maxRecDepth 100000 in
theorem has_ok {I : GH} {m : Nat} (hm : m < 2 ^ 32) (i : Int) : Fn Tryd.prog 102 #[.int .u32 ((m : Nat) : Int), .int .i64 i] I [] (fun v J _ => v = .bool (!decide (m &&& bitN i = 0)) ∧ I = J) := by
  refine enter (args := [.int .u32 ((m : Nat) : Int), .int .i64 i]) Tryd.func102 rfl rfl fun w0 hs0 => ?_
  refine wp_seq_k fun K1 hK2 => ?_
  refine wl_begin ?_
  refine sq (r_assign rfl) rfl ?_
  refine wl_nil ?_
  refine hK2 _ _ ?_; (try clear hK2 K1)
  refine wp_seq_k fun K3 hK4 => ?_
  refine wl_begin ?_
  refine sq (r_move rfl) rfl ?_
  refine sq (r_move rfl) rfl ?_
  refine sqo rfl fun K5 hK6 => ow_call (X := []) (L := []) (lb := []) hs0 (bit_ok i) (by kernel_rfl) rfl rfl rfl rfl rfl ?_
  rintro _ _ X1 w7 ⟨rfl, rfl⟩ - hs8 hid9
  obtain rfl : X1 = [] := List.map_eq_nil_iff.1 hid9
  replace hs8 : St w0 I (ids []) I [] w7 := hs8
  clear hs0 hid9
  refine hK6 _ _ ?_; clear hK6 K5
  refine sq (r_andN (a := m) (b := bitN i) (m := 32) (by kernel_rfl) rfl rfl rfl rfl hm (bitN_lt _)) rfl ?_
  refine sq (r_neN (a := (m &&& (bitN i))) (b := 0) rfl rfl rfl rfl) rfl ?_
  refine sq (r_assign rfl) rfl ?_
  refine wl_nil ?_
  refine hK4 _ _ ?_; (try clear hK4 K3)
  refine wp_ret ?_
  exact leave (X' := []) (L := []) hs8 rfl (res_one (v := .bool (!(decide ((m &&& (bitN i)) = 0)))) rfl (.tmp rfl rfl .nil)) ⟨rfl, rfl⟩
set_option maxRecDepth 100000 in
theorem with_ok {I : GH} {m : Nat} (hm : m < 2 ^ 32) (i : Int) : Fn Tryd.prog 85 #[.int .u32 ((m : Nat) : Int), .int .i64 i] I [] (fun v J _ => v = .int .u32 ((m ||| bitN i : Nat) : Int) ∧ I = J) := by
  refine enter (args := [.int .u32 ((m : Nat) : Int), .int .i64 i]) Tryd.func85 rfl rfl fun w0 hs0 => ?_
  refine wp_seq_k fun K1 hK2 => ?_
  refine wl_begin ?_
  refine sq (r_assign rfl) rfl ?_
  refine wl_nil ?_
  refine hK2 _ _ ?_; (try clear hK2 K1)
  refine wp_seq_k fun K3 hK4 => ?_
  refine wl_begin ?_
  refine sq (r_move rfl) rfl ?_
  refine sq (r_move rfl) rfl ?_
  refine sqo rfl fun K5 hK6 => ow_call (X := []) (L := []) (lb := []) hs0 (bit_ok i) (by kernel_rfl) rfl rfl rfl rfl rfl ?_
  rintro _ _ X1 w7 ⟨rfl, rfl⟩ - hs8 hid9
  obtain rfl : X1 = [] := List.map_eq_nil_iff.1 hid9
  replace hs8 : St w0 I (ids []) I [] w7 := hs8
  clear hs0 hid9
  refine hK6 _ _ ?_; clear hK6 K5
  refine sq (r_orN (a := m) (b := bitN i) (m := 32) (by kernel_rfl) rfl rfl rfl rfl hm (bitN_lt _)) rfl ?_
  refine sq (r_assign rfl) rfl ?_
  refine wl_nil ?_
  refine hK4 _ _ ?_; (try clear hK4 K3)
  refine wp_ret ?_
  exact leave (X' := []) (L := []) hs8 rfl (res_one (v := .int .u32 (((m ||| (bitN i)) : Nat) : Int)) rfl (.tmp rfl rfl .nil)) ⟨rfl, rfl⟩
set_option maxRecDepth 100000 in
theorem cut_ok {I : GH} {x k m : Nat} (hx : x < 2 ^ 64) (hk : k ≤ 64) (hm : m ≤ 64) : Fn Tryd.prog 115 #[.int .u64 ((x : Nat) : Int), .int .i64 ((k : Nat) : Int), .int .i64 ((m : Nat) : Int)] I [] (fun v J _ => v = .int .u64 ((x / 2 ^ k % 2 ^ m : Nat) : Int) ∧ I = J) := by
  refine enter (args := [.int .u64 ((x : Nat) : Int), .int .i64 ((k : Nat) : Int), .int .i64 ((m : Nat) : Int)]) Tryd.func115 rfl rfl fun w0 hs0 => ?_
  refine wp_seq_k fun K1 hK2 => ?_
  refine wl_begin ?_
  refine sq (r_assign rfl) rfl ?_
  refine wl_nil ?_
  refine hK2 _ _ ?_; (try clear hK2 K1)
  refine wp_seq_k fun K3 hK4 => ?_
  refine wl_begin ?_
  refine sq (r_move rfl) rfl ?_
  refine sq (r_maxN (a := k) (b := 0) rfl rfl rfl rfl) rfl ?_
  refine sq (r_minN (a := (max k 0)) (b := 64) rfl rfl rfl rfl) rfl ?_
  refine sq (r_move rfl) rfl ?_
  refine sq (r_maxN (a := m) (b := 0) rfl rfl rfl rfl) rfl ?_
  refine sq (r_minN (a := (max m 0)) (b := 64) rfl rfl rfl rfl) rfl ?_
  refine sq (r_assign rfl) rfl ?_
  refine sq (r_assign rfl) rfl ?_
  refine wl_nil ?_
  refine hK4 _ _ ?_; (try clear hK4 K3)
  refine wp_seq_k fun K5 hK6 => ?_
  refine wl_begin ?_
  refine sq (r_move rfl) rfl ?_
  refine sq (r_move rfl) rfl ?_
  refine sq (r_shrN (a := x) (b := (min (max k 0) 64)) (m := 64) (by kernel_rfl) rfl rfl rfl rfl (by omega)) rfl ?_
  refine sq (r_move rfl) rfl ?_
  refine sq (r_subNi (a := 64) (b := (min (max m 0) 64)) rfl rfl rfl rfl (by omega) (by omega)) rfl ?_
  refine sq (r_shlN (a := (x / 2 ^ (min (max k 0) 64))) (b := (64 - (min (max m 0) 64))) (m := 64) (by kernel_rfl) rfl rfl rfl rfl (by omega)) rfl ?_
  refine sq (r_move rfl) rfl ?_
  refine sq (r_subNi (a := 64) (b := (min (max m 0) 64)) rfl rfl rfl rfl (by omega) (by omega)) rfl ?_
  refine sq (r_shrN (a := ((x / 2 ^ (min (max k 0) 64)) * 2 ^ (64 - (min (max m 0) 64)) % 2 ^ 64)) (b := (64 - (min (max m 0) 64))) (m := 64) (by kernel_rfl) rfl rfl rfl rfl (by omega)) rfl ?_
  refine sq (r_assign rfl) rfl ?_
  refine wl_nil ?_
  refine hK6 _ _ ?_; (try clear hK6 K5)
  refine wp_ret ?_
  exact leave (X' := []) (L := []) hs0 rfl (res_one (v := .int .u64 (((((x / 2 ^ (min (max k 0) 64)) * 2 ^ (64 - (min (max m 0) 64)) % 2 ^ 64) / 2 ^ (64 - (min (max m 0) 64))) : Nat) : Int)) rfl (.tmp rfl rfl .nil)) ⟨by have e1 : min (max k 0) 64 = k := (by omega); have e2 : min (max m 0) 64 = m := (by omega); rw [e1, e2, cut_eq hm], rfl⟩
set_option maxRecDepth 100000 in
theorem chunk_ok {I : GH} {h l : Nat} (hh : h < 2 ^ 64) : Fn Tryd.prog 84 #[.int .u64 ((h : Nat) : Int), .int .i64 ((l : Nat) : Int)] I [] (fun v J _ => v = .int .i64 ((chunkN h l : Nat) : Int) ∧ I = J) := by
  refine enter (args := [.int .u64 ((h : Nat) : Int), .int .i64 ((l : Nat) : Int)]) Tryd.func84 rfl rfl fun w0 hs0 => ?_
  refine wp_seq_k fun K1 hK2 => ?_
  refine wl_begin ?_
  refine sq (r_assign rfl) rfl ?_
  refine wl_nil ?_
  refine hK2 _ _ ?_; (try clear hK2 K1)
  refine wp_seq_k fun K3 hK4 => ?_
  refine wl_begin ?_
  refine sq (r_move rfl) rfl ?_
  refine sq (r_move rfl) rfl ?_
  refine sq (r_maxN (a := l) (b := 0) rfl rfl rfl rfl) rfl ?_
  refine sq (r_minN (a := (max l 0)) (b := 12) rfl rfl rfl rfl) rfl ?_
  refine sq (r_mulNi (a := 5) (b := (min (max l 0) 12)) rfl rfl rfl rfl (by omega)) rfl ?_
  refine sqo rfl fun K5 hK6 => ow_call (X := []) (L := []) (lb := []) hs0 (cut_ok (x := h) (k := (5 * (min (max l 0) 12))) (m := 5) hh (by omega) (by omega)) (by kernel_rfl) rfl rfl rfl rfl rfl ?_
  rintro _ _ X1 w7 ⟨rfl, rfl⟩ - hs8 hid9
  obtain rfl : X1 = [] := List.map_eq_nil_iff.1 hid9
  replace hs8 : St w0 I (ids []) I [] w7 := hs8
  clear hs0 hid9
  refine hK6 _ _ ?_; clear hK6 K5
  refine sq (r_convI (a := (h / 2 ^ (5 * (min (max l 0) 12)) % 2 ^ 5)) (r_convInt rfl (by kernel_rfl) (by kernel_rfl) rfl) (Nat.lt_trans (Nat.mod_lt _ (by decide)) (by decide))) rfl ?_
  refine sq (r_assign rfl) rfl ?_
  refine wl_nil ?_
  refine hK4 _ _ ?_; (try clear hK4 K3)
  refine wp_ret ?_
  exact leave (X' := []) (L := []) hs8 rfl (res_one (v := .int .i64 (((h / 2 ^ (5 * (min (max l 0) 12)) % 2 ^ 5) : Nat) : Int)) rfl (.tmp rfl rfl .nil)) ⟨by rw [show max l 0 = l by omega]; rfl, rfl⟩
end Go.Proofs.YtlnlodfnplkckaaDoor
/- How many bits a number has: the table of math/bits, and the list of a number's bits. Each theorem's conditions stand in it. -/
namespace Go.Proofs.YtlnlodfnplkckaaDoor
def popB (a : Nat) : Nat := ((Go.Lib.pop8tab[a]?).getD 0).toNat
theorem popB_le : ∀ a : Fin 256, popB a.val ≤ 8 := by decide +kernel
section
variable {P : Program} {f : Nat → Value} {n : Fr} {w : World} {d : Option Tmp} {t ty : TypeId} {pos : String} {af : Array Edge} {g : Option (Nat × Bool)} {x y : Operand} {k : IntKind} {a : Nat}
theorem r_pop8 (hx : okO n x = true) (hy : okO n y = true) (ht : strT P t = true) (hxv : ev f x = .string Go.Lib.pop8tab) (hyv : ev f y = .int k (a : Int)) (hlt : a < 256) :
    (execOp (FA f n).eval ⟨d, .index t x y, ty, pos, af, g⟩).run P w = .ok (.value (.int .u8 ((popB a : Nat) : Int))) w := by
  have hu : P.underlying t = some .string := by
    unfold strT at ht
    cases h : P.underlying t with
    | none => simp [h] at ht
    | some dd => cases dd <;> simp [h] at ht; rfl
  have hsz : a < Go.Lib.pop8tab.size := by rw [Go.Lib.pop8tab_size]; exact hlt
  have h0 : (0 : Int) ≤ (a : Int) := by omega
  have hr : (Instr.index t (.string Go.Lib.pop8tab) (.int k (a : Int))).run P w = .ok (.int .u8 ((popB a : Nat) : Int)) w := by
    simp only [Instr.index, asIntOf, Sem.run_bind, Sem.run_pure, Result.andThen_ok, run_underlying hu, h0, if_true, Int.toNat_natCast]
    have e : Go.Lib.pop8tab[a]? = some Go.Lib.pop8tab[a] := by simp [hsz]
    simp only [e, popB, Option.getD_some, Sem.run_pure]
  simp [execOp, FA_eval hx, FA_eval hy, hxv, hyv, hr]
end
/-- The numbers in a set. -/
def bitsL (m : Nat) : List Nat := (List.range 32).filter fun i => m.testBit i
def popN (x : Nat) : Nat := popB (x / 2 ^ 24) + popB (x / 2 ^ 16 &&& 255) + popB (x / 2 ^ 8 &&& 255) + popB (x &&& 255)
/-- How many of the first n bits are set. -/
def cntB (m n : Nat) : Nat := ((List.range n).filter fun i => m.testBit i).length
theorem cntB_succ (m n : Nat) : cntB m (n + 1) = cntB m n + (m.testBit n).toNat := by
  unfold cntB
  rw [List.range_succ, List.filter_append, List.length_append]
  cases h : m.testBit n <;> simp [h]
theorem cntB_add (m a b : Nat) : cntB m (a + b) = cntB m a + cntB (m / 2 ^ a) b := by
  induction b with
  | zero => rfl
  | succ b ih =>
    rw [Nat.add_succ, cntB_succ, ih, cntB_succ, Nat.testBit_div_two_pow, Nat.add_assoc, Nat.add_comm b a]
theorem cntB_mod (m n : Nat) : cntB (m % 2 ^ n) n = cntB m n := by
  unfold cntB
  congr 1
  apply List.filter_congr
  intro i hi
  rw [Nat.testBit_mod_two_pow]
  simp [List.mem_range.1 hi]
theorem popB_cnt : ∀ a : Fin 256, popB a.val = cntB a.val 8 := by decide +kernel
theorem popN_eq {m : Nat} (hm : m < 2 ^ 32) : popN m = (bitsL m).length := by
  have h255 : ∀ x : Nat, x &&& 255 = x % 2 ^ 8 := fun x => Nat.and_two_pow_sub_one_eq_mod x 8
  have hp : ∀ x : Nat, popB (x % 2 ^ 8) = cntB x 8 := fun x => by
    rw [← cntB_mod]
    exact popB_cnt ⟨x % 2 ^ 8, Nat.mod_lt _ (by decide)⟩
  have ht : popB (m / 2 ^ 24) = cntB (m / 2 ^ 24) 8 := by
    have : m / 2 ^ 24 < 256 := by omega
    exact popB_cnt ⟨m / 2 ^ 24, this⟩
  show popN m = cntB m 32
  unfold popN
  rw [h255, h255, h255, hp, hp, hp, ht]
  have e1 : cntB m 32 = cntB m 8 + cntB (m / 2 ^ 8) 24 := cntB_add m 8 24
  have e2 : cntB (m / 2 ^ 8) 24 = cntB (m / 2 ^ 8) 8 + cntB (m / 2 ^ 8 / 2 ^ 8) 16 := cntB_add _ 8 16
  have e3 : cntB (m / 2 ^ 8 / 2 ^ 8) 16 = cntB (m / 2 ^ 8 / 2 ^ 8) 8 + cntB (m / 2 ^ 8 / 2 ^ 8 / 2 ^ 8) 8 := cntB_add _ 8 8
  rw [Nat.div_div_eq_div_mul, ← Nat.pow_add] at e2 e3
  rw [Nat.div_div_eq_div_mul, ← Nat.pow_add] at e3
  simp only [Nat.reduceAdd] at e2 e3
  omega
end Go.Proofs.YtlnlodfnplkckaaDoor
