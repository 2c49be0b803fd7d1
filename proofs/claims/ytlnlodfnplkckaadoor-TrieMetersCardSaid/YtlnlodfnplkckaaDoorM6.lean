/- Texts of the walk, laid together. Each theorem's conditions stand in it. -/
import Derived.Test.YtlnlodfnplkckaaDoorM5
/- The contracts of the references of keys and maps. -/
namespace Go.Proofs.YtlnlodfnplkckaaDoor
set_option linter.unusedVariables false
set_option linter.unusedSimpArgs false
def sV (k : Bs) : Value := .string ⟨k.toArray⟩
def spCells : List (Bs × Bs) → List Value
  | [] => []
  | p :: l => .string ⟨p.1.toArray⟩ :: .string ⟨p.2.toArray⟩ :: spCells l
theorem spCells_length : ∀ l : List (Bs × Bs), (spCells l).length = l.length * 2
  | [] => rfl
  | p :: l => by simp only [spCells, List.length_cons, spCells_length l]; omega
theorem spCells_append : ∀ l m : List (Bs × Bs), spCells (l ++ m) = spCells l ++ spCells m
  | [], m => rfl
  | p :: l, m => by simp [spCells, spCells_append l m]
theorem spCells_at : ∀ {l : List (Bs × Bs)} {i : Nat} (h : i < l.length), ((spCells l).drop (i * 2)).take 2 = [.string ⟨l[i].1.toArray⟩, .string ⟨l[i].2.toArray⟩]
  | p :: l, 0, _ => rfl
  | p :: l, i + 1, h => by
    have := spCells_at (l := l) (i := i) (by simpa using h)
    rw [show (i + 1) * 2 = i * 2 + 1 + 1 by omega]
    simpa [spCells] using this
/-- A slice of pairs of strings. -/
def SPairsAt (I : GH) (v : Value) (l : List (Bs × Bs)) : Prop := SliceAt I v l.length 2 (spCells l)
theorem SPairsAt.up {I J : GH} {v : Value} {l : List (Bs × Bs)} (h : SPairsAt I v l) (hle : I.le J) : SPairsAt J v l := SliceAt.up h hle
theorem SPairsAt.one {I : GH} {v : Value} {l : List (Bs × Bs)} (h : SPairsAt I v l) : One v := SliceAt.one h
theorem SPairsAt.slc {I : GH} {v : Value} {l : List (Bs × Bs)} (h : SPairsAt I v l) : ∃ ad cap, v = .slice ad l.length cap := by
  obtain ⟨a, cap, h1, _⟩ := h; exact ⟨a, cap, h1⟩
theorem SPairsAt.nil (I : GH) : SPairsAt I (.slice none 0 0) [] := SliceAt.nil I 2
theorem SPairsAt.at {I : GH} {ad : Option Addr} {cap i : Nat} {l : List (Bs × Bs)} (hs : SPairsAt I (.slice ad l.length cap) l) (hi : i < l.length) :
    ∃ b off cs T fz, ad = some ⟨b, off, none⟩ ∧ I b = some (.cells cs T fz) ∧ (cs.toList.drop (off + i * 2)).take 2 = [.string ⟨l[i].1.toArray⟩, .string ⟨l[i].2.toArray⟩] := by
  have hne : spCells l ≠ [] := fun e => by have := spCells_length l; rw [e] at this; simp only [List.length_nil] at this; omega
  obtain ⟨b, off, cs, T, fz, g1, g2, g3⟩ := SliceAt.open hs hne
  exact ⟨b, off, cs, T, fz, g1, g2, by rw [part_of g3 hi, spCells_at hi]⟩
section
variable {P : Program} {f : Nat → Value} {n : Fr} {w : World} {d : Option Tmp} {t ty : TypeId} {pos : String} {af : Array Edge} {g : Option (Nat × Bool)} {x y : Operand}
theorem r_strIdx {k : Bs} {i : Nat} (hx : okO n x = true) (hy : okO n y = true) (ht : strT P t = true) (hxv : ev f x = .string ⟨k.toArray⟩) (hyv : ev f y = .int .i64 (i : Int)) (hi : i < k.length) :
    (execOp (FA f n).eval ⟨d, .index t x y, ty, pos, af, g⟩).run P w = .ok (.value (.int .u8 ((k[i].toNat : Nat) : Int))) w := by
  have hu : P.underlying t = some .string := by
    unfold strT at ht
    cases h : P.underlying t with
    | none => simp [h] at ht
    | some dd => cases dd <;> simp [h] at ht; rfl
  have h0 : (0 : Int) ≤ (i : Int) := by omega
  have hsz : i < (ByteArray.mk k.toArray).size := by rw [bsz]; exact hi
  have e : (ByteArray.mk k.toArray)[i]? = some k[i] := by
    rw [getElem?_pos (ByteArray.mk k.toArray) i hsz]
    congr 1
  have hr : (Instr.index t (.string ⟨k.toArray⟩) (.int .i64 (i : Int))).run P w = .ok (.int .u8 ((k[i].toNat : Nat) : Int)) w := by
    simp only [Instr.index, asIntOf, Sem.run_bind, Sem.run_pure, Result.andThen_ok, run_underlying hu, h0, if_true, Int.toNat_natCast, e]
  simp [execOp, FA_eval hx, FA_eval hy, hxv, hyv, hr]
end
theorem cmpB_drop {a b : Bs} {i : Nat} (ha : i < a.length) (hb : i < b.length) : cmpB (a.drop i) (b.drop i) = if a[i] < b[i] then -1 else if b[i] < a[i] then 1 else cmpB (a.drop (i + 1)) (b.drop (i + 1)) := by
  rw [List.drop_eq_getElem_cons ha, List.drop_eq_getElem_cons hb]; rfl
theorem cmpB_end {a b : Bs} {i : Nat} (h : a.length ≤ i ∨ b.length ≤ i) (ha : i ≤ a.length) (hb : i ≤ b.length) : decide (((a.length : Nat) : Int) < ((b.length : Nat) : Int)) = decide (cmpB (a.drop i) (b.drop i) < 0) := by
  rw [Bool.eq_iff_iff, decide_eq_true_iff, decide_eq_true_iff]
  rcases h with h | h
  · rw [List.drop_eq_nil_of_le h]
    cases hd : b.drop i with
    | nil => have := congrArg List.length hd; simp at this; simp only [cmpB]; omega
    | cons y l => have := congrArg List.length hd; simp at this; simp only [cmpB]; omega
  · rw [List.drop_eq_nil_of_le h]
    cases hd : a.drop i with
    | nil => have := congrArg List.length hd; simp at this; simp only [cmpB]; omega
    | cons y l => have := congrArg List.length hd; simp at this; simp only [cmpB]; omega
theorem less_at {a b : Bs} {i : Nat} (ha : i < a.length) (hb : i < b.length) (hne : ¬ a[i].toNat = b[i].toNat) : decide (((a[i].toNat : Nat) : Int) < ((b[i].toNat : Nat) : Int)) = decide (cmpB (a.drop i) (b.drop i) < 0) := by
  rw [cmpB_drop ha hb, Bool.eq_iff_iff, decide_eq_true_iff, decide_eq_true_iff]
  by_cases h : a[i].toNat < b[i].toNat
  · rw [if_pos (UInt8.lt_iff_toNat_lt.2 h)]
    constructor <;> intro _ <;> omega
  · rw [if_neg (fun z => h (UInt8.lt_iff_toNat_lt.1 z)), if_pos (UInt8.lt_iff_toNat_lt.2 (by omega))]
    constructor <;> intro _ <;> omega
def getL (l : List (Bs × Bs)) (k : Bs) : Option Bs := (l.find? fun p => decide (p.1 = k)).map (·.2)
def withoutL (l : List (Bs × Bs)) (k : Bs) : List (Bs × Bs) := l.filter fun p => !decide (p.1 = k)
def putF (k x : Bs) (s : List (Bs × Bs) × Bool) (q : Bs × Bs) : List (Bs × Bs) × Bool :=
  (if q.1 = k then (if s.2 = false ∧ ¬ cmpB q.1 k < 0 then s.1 ++ [(k, x)] else s.1) else (if s.2 = false ∧ ¬ cmpB q.1 k < 0 then s.1 ++ [(k, x)] else s.1) ++ [q], s.2 || !decide (cmpB q.1 k < 0))
def putS (l : List (Bs × Bs)) (k x : Bs) : List (Bs × Bs) × Bool := l.foldl (putF k x) ([], false)
def putL (l : List (Bs × Bs)) (k x : Bs) : List (Bs × Bs) := if (putS l k x).2 = true then (putS l k x).1 else (putS l k x).1 ++ [(k, x)]
theorem putS_snoc (l : List (Bs × Bs)) (q : Bs × Bs) (k x : Bs) : putS (l ++ [q]) k x = putF k x (putS l k x) q := by simp [putS, List.foldl_append]
theorem putF_length (k x : Bs) (s : List (Bs × Bs) × Bool) (q : Bs × Bs) : (putF k x s q).1.length ≤ s.1.length + 2 := by
  unfold putF
  simp only
  split <;> split <;> simp
theorem putS_length (k x : Bs) : ∀ (l : List (Bs × Bs)) (s : List (Bs × Bs) × Bool), (l.foldl (putF k x) s).1.length ≤ s.1.length + l.length * 2
  | [], s => by simp
  | q :: l, s => by
    have h1 := putS_length k x l (putF k x s q)
    have h2 := putF_length k x s q
    simp only [List.foldl_cons, List.length_cons]
    omega
theorem getL_take {l : List (Bs × Bs)} {k : Bs} {i : Nat} (h : i < l.length) (hn : ∀ j, (hj : j < l.length) → j < i → ¬ l[j].1 = k) (he : l[i].1 = k) : getL l k = some l[i].2 := by
  unfold getL
  have : l.find? (fun p => decide (p.1 = k)) = some l[i] := by
    rw [List.find?_eq_some_iff_getElem]
    refine ⟨by simpa using he, i, h, rfl, fun j hj => ?_⟩
    have := hn j (by omega) hj
    simpa using this
  rw [this]; rfl
theorem getL_none {l : List (Bs × Bs)} {k : Bs} (hn : ∀ j, (hj : j < l.length) → j < l.length → ¬ l[j].1 = k) : getL l k = none := by
  unfold getL
  have : l.find? (fun p => decide (p.1 = k)) = none := by
    rw [List.find?_eq_none]
    intro p hp
    obtain ⟨j, hj, rfl⟩ := List.getElem_of_mem hp
    simpa using hn j hj hj
  rw [this]; rfl
set_option maxRecDepth 100000 in
theorem less_ok {I : GH} {a b : Bs} (hla : a.length ≤ 1000000000) : Fn Tryd.prog 77 #[.string ⟨a.toArray⟩, .string ⟨b.toArray⟩] I [] (fun v J _ => v = .bool (decide (cmpB a b < 0)) ∧ I = J) := by
  refine enter (args := [.string ⟨(a).toArray⟩, .string ⟨(b).toArray⟩]) Tryd.func77 rfl rfl fun w0 hs0 => ?_
  refine wp_seq_k fun K1 hK2 => ?_
  refine wl_begin ?_
  refine sq (r_assign rfl) rfl ?_
  refine wl_nil ?_
  refine hK2 _ _ ?_; (try clear hK2 K1)
  refine wp_seq_k fun K3 hK4 => ?_
  refine wp_seq_k fun K5 hK6 => ?_
  refine wl_begin ?_
  refine sq (r_assign rfl) rfl ?_
  refine wl_nil ?_
  refine hK6 _ _ ?_; (try clear hK6 K5)
  refine wp_block ?_
  refine lp (σ := Nat) (fun m8 f9 w10 => ∃ (g7 : Nat → Value) (i : Nat), m8 = a.length - i ∧ f9 = updL g7 [(0, .string ⟨(a).toArray⟩), (1, .string ⟨(b).toArray⟩), (5, .int .i64 ((i : Nat) : Int))] ∧ (i ≤ a.length) ∧ (i ≤ b.length) ∧ (cmpB a b = cmpB (a.drop i) (b.drop i)) ∧ St w0 I (ids []) I [] w10) (fun m => m) (a.length) ⟨_, 0, rfl, updL_self (.cons rfl (.cons rfl (.cons rfl .nil))), (Nat.zero_le _), (Nat.zero_le _), rfl, hs0⟩ ?_
  clear hs0
  rintro m8 f9 w10 ⟨g7, i, rfl, rfl, hia, hib, hc, hs11⟩
  refine wp_seq_k fun K12 hK13 => ?_
  refine wp_seq_k fun K14 hK15 => ?_
  refine wl_begin ?_
  refine sq (r_move rfl) rfl ?_
  refine sq (r_move rfl) rfl ?_
  refine sq (r_lenstr rfl (by kernel_rfl) rfl) rfl ?_
  refine sq (r_lti rfl rfl rfl rfl) rfl ?_
  refine sq (r_move rfl) rfl ?_
  refine bsplit (decide (((i : Nat) : Int) < ((ByteArray.mk (a).toArray).size : Int))) (fun h16 => ?_) (fun h16 => ?_)
  ·
    have p17 := of_decide_eq_true h16
    refine sqG (wantedT rfl rfl rfl (congrArg Value.bool h16)) (r_move rfl) rfl ?_
    refine sqG (wantedT rfl rfl rfl (congrArg Value.bool h16)) (r_move rfl) rfl ?_
    refine sqG (wantedT rfl rfl rfl (congrArg Value.bool h16)) (r_lenstr rfl (by kernel_rfl) rfl) rfl ?_
    refine sqG (wantedT rfl rfl rfl (congrArg Value.bool h16)) (r_lti rfl rfl rfl rfl) rfl ?_
    refine sq (r_pick rfl rfl rfl (congrArg Value.bool h16)) rfl ?_
    refine wl_nil ?_
    refine hK15 _ _ ?_; (try clear hK15 K14)
    refine condS rfl rfl (fun h18 => ?_) (fun h18 => ?_)
    ·
      have p19 := of_decide_eq_true h18
      refine wp_skip ?_
      refine hK13 _ _ ?_; (try clear hK13 K12)
      refine wp_seq_k fun K20 hK21 => ?_
      refine wp_block ?_
      refine wp_seq_k fun K22 hK23 => ?_
      have ha : i < a.length := by first | (simp only [bsz] at *; omega)
      have hb : i < b.length := by first | (simp only [bsz] at *; omega)
      refine draw_begin (S := SS I []) (by kernel_rfl) ?_
      have hs24 := hs11.drew; clear hs11
      have hss := hs24.ss (I := I) (GH.le.refl _) (fun _ h => h)
      refine dt 0 rfl (by kernel_rfl) (fun _ _ _ h => h) hss (fun _ h => r_move rfl) rfl ?_
      refine nrmD (vals := [(0, .string ⟨(a).toArray⟩), (1, .string ⟨(b).toArray⟩), (5, .int .i64 ((i : Nat) : Int)), (15, .bool (decide (((i : Nat) : Int) < ((ByteArray.mk (b).toArray).size : Int)))), (18, .string ⟨(a).toArray⟩)]) (.cons rfl (.cons rfl (.cons rfl (.cons rfl (.cons rfl .nil))))) fun g25 => ?_
      refine dt 1 rfl (by kernel_rfl) (fun _ _ _ h => h) hss (fun _ h => r_move rfl) rfl ?_
      refine dt 2 rfl (by kernel_rfl) (fun _ _ _ h => h) hss (fun _ h => (r_strIdx (k := a) (i := i) rfl rfl (by kernel_rfl) rfl rfl ha)) rfl ?_
      refine dt 3 rfl (by kernel_rfl) (fun _ _ _ h => h) hss (fun _ h => r_move rfl) rfl ?_
      refine dt 4 rfl (by kernel_rfl) (fun _ _ _ h => h) hss (fun _ h => r_move rfl) rfl ?_
      refine dt 5 rfl (by kernel_rfl) (fun _ _ _ h => h) hss (fun _ h => (r_strIdx (k := b) (i := i) rfl rfl (by kernel_rfl) rfl rfl hb)) rfl ?_
      refine dt 6 rfl (by kernel_rfl) (fun _ _ _ h => h) hss (fun _ h => (r_neN (a := ((a[i]'ha).toNat)) (b := ((b[i]'hb).toNat)) rfl rfl rfl rfl)) rfl ?_
      refine draw_done (by kernel_rfl) ?_
      refine hK23 _ _ ?_; (try clear hK23 K22)
      refine condS rfl rfl (fun h26 => ?_) (fun h26 => ?_)
      ·
        have h27 : (decide (((a[i]'ha).toNat) = ((b[i]'hb).toNat))) = false := by simpa using h26
        have p28 := of_decide_eq_false h27
        refine wp_seq_k fun K29 hK30 => ?_
        refine draw_begin (S := SS I []) (by kernel_rfl) ?_
        have hs31 := hs24.drew; clear hs24
        have hss := hs31.ss (I := I) (GH.le.refl _) (fun _ h => h)
        refine dt 0 rfl (by kernel_rfl) (fun _ _ _ h => h) hss (fun _ h => r_move rfl) rfl ?_
        refine dt 1 rfl (by kernel_rfl) (fun _ _ _ h => h) hss (fun _ h => r_move rfl) rfl ?_
        refine dt 2 rfl (by kernel_rfl) (fun _ _ _ h => h) hss (fun _ h => (r_strIdx (k := a) (i := i) rfl rfl (by kernel_rfl) rfl rfl ha)) rfl ?_
        refine dt 3 rfl (by kernel_rfl) (fun _ _ _ h => h) hss (fun _ h => r_move rfl) rfl ?_
        refine dt 4 rfl (by kernel_rfl) (fun _ _ _ h => h) hss (fun _ h => r_move rfl) rfl ?_
        refine dt 5 rfl (by kernel_rfl) (fun _ _ _ h => h) hss (fun _ h => (r_strIdx (k := b) (i := i) rfl rfl (by kernel_rfl) rfl rfl hb)) rfl ?_
        refine dt 6 rfl (by kernel_rfl) (fun _ _ _ h => h) hss (fun _ h => (r_lti rfl rfl rfl rfl)) rfl ?_
        refine nrmD (vals := [(0, .string ⟨(a).toArray⟩), (1, .string ⟨(b).toArray⟩), (5, .int .i64 ((i : Nat) : Int)), (15, .bool (decide (((i : Nat) : Int) < ((ByteArray.mk (b).toArray).size : Int)))), (24, .bool (!(decide (((a[i]'ha).toNat) = ((b[i]'hb).toNat))))), (31, .bool (decide (((((a[i]'ha).toNat) : Nat) : Int) < ((((b[i]'hb).toNat) : Nat) : Int))))]) (.cons rfl (.cons rfl (.cons rfl (.cons rfl (.cons rfl (.cons rfl .nil)))))) fun g32 => ?_
        refine dt 7 rfl (by kernel_rfl) (fun _ _ _ h => h) hss (fun _ h => r_assign rfl) rfl ?_
        refine draw_done (by kernel_rfl) ?_
        refine hK30 _ _ ?_; (try clear hK30 K29)
        refine wp_ret ?_
        exact leave (X' := []) (L := []) hs31 rfl (res_one (v := .bool (decide (((((a[i]'ha).toNat) : Nat) : Int) < ((((b[i]'hb).toNat) : Nat) : Int)))) rfl (.tmp rfl rfl .nil)) ⟨by rw [hc, ← less_at ha hb (by assumption)], rfl⟩
      ·
        have h33 : (decide (((a[i]'ha).toNat) = ((b[i]'hb).toNat))) = true := by simpa using h26
        have p34 := of_decide_eq_true h33
        refine wp_skip ?_
        refine hK21 _ _ ?_; (try clear hK21 K20)
        refine wl_begin ?_
        refine sq (r_move rfl) rfl ?_
        refine sq (r_addi rfl rfl rfl rfl (by omega)) rfl ?_
        refine sq (r_assign rfl) rfl ?_
        refine wl_nil ?_
        exact ⟨_, _, rfl, ⟨_, (i + 1), rfl, updL_self (.cons rfl (.cons rfl (.cons rfl .nil))), (by omega), (by omega), (by rw [hc, cmpB_drop ha hb, if_neg (by rw [UInt8.lt_iff_toNat_lt]; omega), if_neg (by rw [UInt8.lt_iff_toNat_lt]; omega)]), hs24⟩, (by omega)⟩
    ·
      have p35 := of_decide_eq_false h18
      refine wp_exit ?_
      refine hK4 _ _ ?_; (try clear hK4 K3)
      refine wp_seq_k fun K36 hK37 => ?_
      refine wl_begin ?_
      refine sq (r_move rfl) rfl ?_
      refine sq (r_lenstr rfl (by kernel_rfl) rfl) rfl ?_
      refine sq (r_move rfl) rfl ?_
      refine sq (r_lenstr rfl (by kernel_rfl) rfl) rfl ?_
      refine sq (r_lti rfl rfl rfl rfl) rfl ?_
      refine sq (r_assign rfl) rfl ?_
      refine wl_nil ?_
      refine hK37 _ _ ?_; (try clear hK37 K36)
      refine wp_ret ?_
      exact leave (X' := []) (L := []) hs11 rfl (res_one (v := .bool (decide (((ByteArray.mk (a).toArray).size : Int) < ((ByteArray.mk (b).toArray).size : Int)))) rfl (.tmp rfl rfl .nil)) ⟨by rw [hc, ← cmpB_end (i := i) (by simp only [bsz] at *; omega) hia hib]; simp only [bsz], rfl⟩
  ·
    have p38 := of_decide_eq_false h16
    refine sqN (wantedF rfl rfl rfl (congrArg Value.bool h16)) rfl ?_
    refine sqN (wantedF rfl rfl rfl (congrArg Value.bool h16)) rfl ?_
    refine sqN (wantedF rfl rfl rfl (congrArg Value.bool h16)) rfl ?_
    refine sqN (wantedF rfl rfl rfl (congrArg Value.bool h16)) rfl ?_
    refine sq (r_pick rfl rfl rfl (congrArg Value.bool h16)) rfl ?_
    refine wl_nil ?_
    refine hK15 _ _ ?_; (try clear hK15 K14)
    refine condF rfl rfl ?_
    refine wp_exit ?_
    refine hK4 _ _ ?_; (try clear hK4 K3)
    refine wp_seq_k fun K39 hK40 => ?_
    refine wl_begin ?_
    refine sq (r_move rfl) rfl ?_
    refine sq (r_lenstr rfl (by kernel_rfl) rfl) rfl ?_
    refine sq (r_move rfl) rfl ?_
    refine sq (r_lenstr rfl (by kernel_rfl) rfl) rfl ?_
    refine sq (r_lti rfl rfl rfl rfl) rfl ?_
    refine sq (r_assign rfl) rfl ?_
    refine wl_nil ?_
    refine hK40 _ _ ?_; (try clear hK40 K39)
    refine wp_ret ?_
    exact leave (X' := []) (L := []) hs11 rfl (res_one (v := .bool (decide (((ByteArray.mk (a).toArray).size : Int) < ((ByteArray.mk (b).toArray).size : Int)))) rfl (.tmp rfl rfl .nil)) ⟨by rw [hc, ← cmpB_end (i := i) (by simp only [bsz] at *; omega) hia hib]; simp only [bsz], rfl⟩
set_option maxRecDepth 100000 in
theorem refget_ok {I : GH} {v0 : Value} {l : List (Bs × Bs)} {key : Bs} (hl : SPairsAt I v0 l) (hll : l.length ≤ 1000000) : Fn Tryd.prog 30 #[v0, .string ⟨key.toArray⟩] I [] (fun v J _ => v = .tuple #[.string ⟨((getL l key).getD []).toArray⟩, .bool (getL l key).isSome] ∧ I = J) := by
  obtain ⟨ad, cap, rfl⟩ := hl.slc
  refine enter (args := [.slice ad l.length cap, .string ⟨(key).toArray⟩]) Tryd.func30 rfl rfl fun w0 hs0 => ?_
  refine wp_seq_k fun K1 hK2 => ?_
  refine wl_begin ?_
  refine sq (r_assign rfl) rfl ?_
  refine sq (r_assign rfl) rfl ?_
  refine wl_nil ?_
  refine hK2 _ _ ?_; (try clear hK2 K1)
  refine wp_seq_k fun K3 hK4 => ?_
  refine wp_seq_k fun K5 hK6 => ?_
  refine wl_begin ?_
  refine sq (r_move rfl) rfl ?_
  refine sq (r_lens rfl (by kernel_rfl) rfl) rfl ?_
  refine sq (r_move rfl) rfl ?_
  refine wl_nil ?_
  refine hK6 _ _ ?_; (try clear hK6 K5)
  refine wp_block ?_
  refine lp (σ := Nat) (fun m8 f9 w10 => ∃ (g7 : Nat → Value) (k : Nat), m8 = l.length - k ∧ f9 = updL g7 [(0, .slice ad l.length cap), (1, .string ⟨(key).toArray⟩), (8, .slice ad l.length cap), (9, .int .i64 ((l.length : Nat) : Int)), (10, .int .i64 ((k : Nat) : Int))] ∧ (k ≤ l.length) ∧ (∀ j, (hj : j < l.length) → j < k → ¬ (l[j]'hj).1 = key) ∧ St w0 I (ids []) I [] w10) (fun m => m) (l.length) ⟨_, 0, rfl, updL_self (.cons rfl (.cons rfl (.cons rfl (.cons rfl (.cons rfl .nil))))), (Nat.zero_le _), (fun j _ h => absurd h (Nat.not_lt_zero _)), hs0⟩ ?_
  clear hs0
  rintro m8 f9 w10 ⟨g7, k, rfl, rfl, hkl, hn, hs11⟩
  refine wp_seq_k fun K12 hK13 => ?_
  refine wl_begin ?_
  refine sq (r_lti rfl rfl rfl rfl) rfl ?_
  refine wl_nil ?_
  refine hK13 _ _ ?_; (try clear hK13 K12)
  refine wp_seq_k fun K14 hK15 => ?_
  refine condS rfl rfl (fun h16 => ?_) (fun h16 => ?_)
  ·
    have p17 := of_decide_eq_true h16
    have hlt : k < l.length := by omega
    obtain ⟨b, off, cs, T0, fz, hbe, hb, hcs⟩ := SPairsAt.at hl hlt
    cases hbe
    refine wp_skip ?_
    refine hK15 _ _ ?_; (try clear hK15 K14)
    refine wp_seq_k fun K18 hK19 => ?_
    refine wp_block ?_
    refine wp_seq_k fun K20 hK21 => ?_
    refine wl_begin ?_
    refine sq (r_index (e := 52) (sz := 2) (i := k) rfl rfl (by kernel_rfl) rfl rfl hlt) rfl ?_
    refine sq (r_loadN (m := 2) (vs := [.string ⟨((l[k]'hlt).1).toArray⟩, .string ⟨((l[k]'hlt).2).toArray⟩]) rfl (by kernel_rfl) rfl (hs11.imm hb) hcs rfl) rfl ?_
    refine sqo rfl fun K22 hK23 => ow_newbox (mk := fun b => .pointer (some ⟨b, 0, none⟩)) hs11 (r_alloc (cs := [.string ⟨([]).toArray⟩, .string ⟨([]).toArray⟩]) (by kernel_rfl)) rfl ?_
    rintro b24 w25 (hs26 : St w0 I (ids []) I [⟨b24, #[.string ⟨([]).toArray⟩, .string ⟨([]).toArray⟩], 52⟩] w25)
    clear hs11
    refine hK23 _ _ ?_; clear hK23 K22
    refine sqo rfl fun K27 hK28 => ow_store (vs := [.string ⟨((l[k]'hlt).1).toArray⟩, .string ⟨((l[k]'hlt).2).toArray⟩]) hs26 rfl rfl (by kernel_rfl) rfl rfl (.cons trivial (.cons trivial .nil)) rfl ?_
    rintro w29 (hs30 : St w0 I (ids []) I [⟨b24, #[.string ⟨((l[k]'hlt).1).toArray⟩, .string ⟨((l[k]'hlt).2).toArray⟩], 52⟩] w29)
    clear hs26
    refine hK28 _ _ ?_; clear hK28 K27
    refine wl_nil ?_
    refine hK21 _ _ ?_; (try clear hK21 K20)
    refine wp_seq_k fun K31 hK32 => ?_
    refine wl_begin ?_
    refine sq (r_fieldAddr (off := 0) rfl (by kernel_rfl) rfl) rfl ?_
    refine sq (r_load rfl (by kernel_rfl) rfl (hs30.box (.head _)) rfl) rfl ?_
    refine sq (r_move rfl) rfl ?_
    refine sq (r_eqstr rfl rfl rfl rfl) rfl ?_
    refine wl_nil ?_
    refine hK32 _ _ ?_; (try clear hK32 K31)
    refine condS rfl rfl (fun h33 => ?_) (fun h33 => ?_)
    ·
      have p34 := of_decide_eq_true h33
      refine wp_seq_k fun K35 hK36 => ?_
      refine nrm (vals := [(0, .slice (some ⟨b, off, none⟩) l.length cap), (1, .string ⟨(key).toArray⟩), (7, .pointer (some ⟨b24, 0, none⟩)), (8, .slice (some ⟨b, off, none⟩) l.length cap), (9, .int .i64 ((l.length : Nat) : Int)), (10, .int .i64 ((k : Nat) : Int)), (11, .bool (decide (((k : Nat) : Int) < ((l.length : Nat) : Int)))), (17, .bool (decide ((l[k]'hlt).1 = key)))]) (.cons rfl (.cons rfl (.cons rfl (.cons rfl (.cons rfl (.cons rfl (.cons rfl (.cons rfl .nil)))))))) fun g37 => ?_
      refine wl_begin ?_
      refine sq (r_fieldAddr (off := 1) rfl (by kernel_rfl) rfl) rfl ?_
      refine sq (r_load rfl (by kernel_rfl) rfl (hs30.box (.head _)) rfl) rfl ?_
      refine sq (r_assign rfl) rfl ?_
      refine sq (r_assign rfl) rfl ?_
      refine wl_nil ?_
      refine hK36 _ _ ?_; (try clear hK36 K35)
      refine wp_ret ?_
      exact leave (X' := []) (L := [⟨b24, #[.string ⟨((l[k]'hlt).1).toArray⟩, .string ⟨((l[k]'hlt).2).toArray⟩], 52⟩]) hs30 rfl (res_many (vs := [.string ⟨((l[k]'hlt).2).toArray⟩, .bool true]) rfl (.tmp rfl rfl (.tmp rfl rfl .nil)) rfl) ⟨by rw [getL_take hlt hn (by assumption)]; rfl, rfl⟩
    ·
      have p38 := of_decide_eq_false h33
      refine wp_skip ?_
      refine hK19 _ _ ?_; (try clear hK19 K18)
      refine nrm (vals := [(0, .slice (some ⟨b, off, none⟩) l.length cap), (1, .string ⟨(key).toArray⟩), (7, .pointer (some ⟨b24, 0, none⟩)), (8, .slice (some ⟨b, off, none⟩) l.length cap), (9, .int .i64 ((l.length : Nat) : Int)), (10, .int .i64 ((k : Nat) : Int)), (11, .bool (decide (((k : Nat) : Int) < ((l.length : Nat) : Int)))), (17, .bool (decide ((l[k]'hlt).1 = key)))]) (.cons rfl (.cons rfl (.cons rfl (.cons rfl (.cons rfl (.cons rfl (.cons rfl (.cons rfl .nil)))))))) fun g39 => ?_
      refine wl_begin ?_
      refine sq (r_addi rfl rfl rfl rfl (by omega)) rfl ?_
      refine sq (r_move rfl) rfl ?_
      refine wl_nil ?_
      have hs40 : St w0 I (ids []) I [] w29 := hs30.drop
      exact ⟨_, _, rfl, ⟨_, (k + 1), rfl, updL_self (.cons rfl (.cons rfl (.cons rfl (.cons rfl (.cons rfl .nil))))), (by omega), (fun j hj hjk => if h : j < k then hn j hj h else by obtain rfl : j = k := (by omega); assumption), hs40⟩, (by omega)⟩
  ·
    have p41 := of_decide_eq_false h16
    obtain rfl : k = l.length := by omega
    refine wp_exit ?_
    refine hK4 _ _ ?_; (try clear hK4 K3)
    refine wp_seq_k fun K42 hK43 => ?_
    refine wl_begin ?_
    refine sq (r_assign rfl) rfl ?_
    refine sq (r_assign rfl) rfl ?_
    refine wl_nil ?_
    refine hK43 _ _ ?_; (try clear hK43 K42)
    refine wp_ret ?_
    exact leave (X' := []) (L := []) hs11 rfl (res_many (vs := [.string ⟨([]).toArray⟩, .bool false]) rfl (.tmp rfl rfl (.tmp rfl rfl .nil)) rfl) ⟨by rw [getL_none hn]; rfl, rfl⟩
set_option maxRecDepth 100000 in
theorem refwithout_ok {I : GH} {v0 : Value} {l : List (Bs × Bs)} {key : Bs} (hl : SPairsAt I v0 l) (hll : l.length ≤ 1000000) : Fn Tryd.prog 42 #[v0, .string ⟨key.toArray⟩] I [] (fun v J _ => SPairsAt J v (withoutL l key)) := by
  obtain ⟨ad, cap, rfl⟩ := hl.slc
  refine enter (args := [.slice ad l.length cap, .string ⟨(key).toArray⟩]) Tryd.func42 rfl rfl fun w0 hs0 => ?_
  refine wp_seq_k fun K1 hK2 => ?_
  refine wl_begin ?_
  refine sq (r_assign rfl) rfl ?_
  refine wl_nil ?_
  refine hK2 _ _ ?_; (try clear hK2 K1)
  refine wp_seq_k fun K3 hK4 => ?_
  refine wl_begin ?_
  refine sq (r_assign rfl) rfl ?_
  refine wl_nil ?_
  refine hK4 _ _ ?_; (try clear hK4 K3)
  refine wp_seq_k fun K5 hK6 => ?_
  refine wp_seq_k fun K7 hK8 => ?_
  refine wl_begin ?_
  refine sq (r_move rfl) rfl ?_
  refine sq (r_lens rfl (by kernel_rfl) rfl) rfl ?_
  refine sq (r_move rfl) rfl ?_
  refine wl_nil ?_
  refine hK8 _ _ ?_; (try clear hK8 K7)
  refine wp_block ?_
  refine lp (σ := Nat) (fun m10 f11 w12 => ∃ (g9 : Nat → Value) (k : Nat) (rv : Value) (RR : List Bx) (G1 : GH), m10 = l.length - k ∧ f11 = updL g9 [(0, .slice ad l.length cap), (1, .string ⟨(key).toArray⟩), (4, .slice none 0 0), (5, rv), (8, .slice ad l.length cap), (9, .int .i64 ((l.length : Nat) : Int)), (10, .int .i64 ((k : Nat) : Int))] ∧ I.le G1 ∧ (k ≤ l.length) ∧ (RowAt 52 2 rv (withoutL (l.take k) key).length (spCells (withoutL (l.take k) key)) RR) ∧ St w0 I (ids []) G1 (RR ++ []) w12) (fun m => m) (l.length) ⟨_, 0, _, [], I, rfl, updL_self (.cons rfl (.cons rfl (.cons rfl (.cons rfl (.cons rfl (.cons rfl (.cons rfl .nil))))))), GH.le.refl _, (Nat.zero_le _), RowAt.nil _ _, hs0⟩ ?_
  clear hs0
  rintro m10 f11 w12 ⟨g9, k, rv, RR, G1, rfl, rfl, le14, hkl, hrow, hs13⟩
  refine wp_seq_k fun K15 hK16 => ?_
  refine wl_begin ?_
  refine sq (r_lti rfl rfl rfl rfl) rfl ?_
  refine wl_nil ?_
  refine hK16 _ _ ?_; (try clear hK16 K15)
  refine wp_seq_k fun K17 hK18 => ?_
  refine condS rfl rfl (fun h19 => ?_) (fun h19 => ?_)
  ·
    have p20 := of_decide_eq_true h19
    have hlt : k < l.length := by omega
    obtain ⟨b, off, cs, T0, fz, hbe, hb, hcs⟩ := SPairsAt.at hl hlt
    cases hbe
    refine wp_skip ?_
    refine hK18 _ _ ?_; (try clear hK18 K17)
    refine wp_seq_k fun K21 hK22 => ?_
    refine wp_block ?_
    refine wp_seq_k fun K23 hK24 => ?_
    refine wl_begin ?_
    refine sq (r_index (e := 52) (sz := 2) (i := k) rfl rfl (by kernel_rfl) rfl rfl hlt) rfl ?_
    refine sq (r_loadN (m := 2) (vs := [.string ⟨((l[k]'hlt).1).toArray⟩, .string ⟨((l[k]'hlt).2).toArray⟩]) rfl (by kernel_rfl) rfl (hs13.imm (le14 _ _ hb)) hcs rfl) rfl ?_
    refine sqo rfl fun K25 hK26 => ow_newbox (mk := fun b => .pointer (some ⟨b, 0, none⟩)) hs13 (r_alloc (cs := [.string ⟨([]).toArray⟩, .string ⟨([]).toArray⟩]) (by kernel_rfl)) rfl ?_
    rintro b27 w28 (hs29 : St w0 I (ids []) G1 (⟨b27, #[.string ⟨([]).toArray⟩, .string ⟨([]).toArray⟩], 52⟩ :: (RR ++ [])) w28)
    clear hs13
    refine hK26 _ _ ?_; clear hK26 K25
    refine sqo rfl fun K30 hK31 => ow_store (vs := [.string ⟨((l[k]'hlt).1).toArray⟩, .string ⟨((l[k]'hlt).2).toArray⟩]) hs29 rfl rfl (by kernel_rfl) rfl rfl (.cons trivial (.cons trivial .nil)) rfl ?_
    rintro w32 (hs33 : St w0 I (ids []) G1 (⟨b27, #[.string ⟨((l[k]'hlt).1).toArray⟩, .string ⟨((l[k]'hlt).2).toArray⟩], 52⟩ :: (RR ++ [])) w32)
    clear hs29
    refine hK31 _ _ ?_; clear hK31 K30
    refine wl_nil ?_
    refine hK24 _ _ ?_; (try clear hK24 K23)
    refine wp_seq_k fun K34 hK35 => ?_
    refine wl_begin ?_
    refine sq (r_fieldAddr (off := 0) rfl (by kernel_rfl) rfl) rfl ?_
    refine sq (r_load rfl (by kernel_rfl) rfl (hs33.box (.head _)) rfl) rfl ?_
    refine sq (r_move rfl) rfl ?_
    refine sq (r_nestr rfl rfl rfl rfl) rfl ?_
    refine wl_nil ?_
    refine hK35 _ _ ?_; (try clear hK35 K34)
    refine condS rfl rfl (fun h36 => ?_) (fun h36 => ?_)
    ·
      have h37 : (decide ((l[k]'hlt).1 = key)) = false := by simpa using h36
      have p38 := of_decide_eq_false h37
      refine nrm (vals := [(0, .slice (some ⟨b, off, none⟩) l.length cap), (1, .string ⟨(key).toArray⟩), (4, .slice none 0 0), (5, rv), (7, .pointer (some ⟨b27, 0, none⟩)), (8, .slice (some ⟨b, off, none⟩) l.length cap), (9, .int .i64 ((l.length : Nat) : Int)), (10, .int .i64 ((k : Nat) : Int)), (11, .bool (decide (((k : Nat) : Int) < ((l.length : Nat) : Int)))), (17, .bool (!(decide ((l[k]'hlt).1 = key))))]) (.cons rfl (.cons rfl (.cons rfl (.cons rfl (.cons rfl (.cons rfl (.cons rfl (.cons rfl (.cons rfl (.cons rfl .nil)))))))))) fun g39 => ?_
      refine wl_begin ?_
      refine sq (r_move rfl) rfl ?_
      refine sq (r_loadN (m := 2) rfl (by kernel_rfl) rfl (hs33.box (.head _)) rfl rfl) rfl ?_
      refine sqo rfl fun K40 hK41 => ow_newimm (mk := fun b => .slice (some ⟨b, 0, none⟩) 1 1) hs33 (r_buildSlice (e := 52) (cells := #[.string ⟨((l[k]'hlt).1).toArray⟩, .string ⟨((l[k]'hlt).2).toArray⟩]) (.cons rfl rfl .nil) (by kernel_rfl)) rfl ?_
      rintro b42 G2 w43 hb44 le45 hs46 ge47
      clear hs33
      replace hb44 : G2 b42 = some (.cells #[.string ⟨((l[k]'hlt).1).toArray⟩, .string ⟨((l[k]'hlt).2).toArray⟩] 52 (0, 0)) := hb44
      refine hK41 _ _ ?_; clear hK41 K40
      have hs50 : St w0 I (ids []) G2 (RR ++ ([⟨b27, #[.string ⟨((l[k]'hlt).1).toArray⟩, .string ⟨((l[k]'hlt).2).toArray⟩], 52⟩] : List Bx)) w43 := hs46.perm (List.Perm.trans ((List.Perm.refl _).cons _) (List.perm_middle (l₁ := (RR : List Bx)) (a := (⟨b27, #[.string ⟨((l[k]'hlt).1).toArray⟩, .string ⟨((l[k]'hlt).2).toArray⟩], 52⟩ : Bx)) (l₂ := [])).symm); clear hs46
      refine sqo rfl fun K48 hK49 => ow_append (R := RR) (L := [⟨b27, #[.string ⟨((l[k]'hlt).1).toArray⟩, .string ⟨((l[k]'hlt).2).toArray⟩], 52⟩]) (E := 52) (sz := 2) (bytes := 32) (news := [.string ⟨((l[k]'hlt).1).toArray⟩, .string ⟨((l[k]'hlt).2).toArray⟩]) hs50 hrow (by kernel_rfl) rfl rfl rfl rfl rfl rfl (SliceAt.news (m := 2) (hs50.imm hb44) rfl) (ones_old (.cons trivial (.cons trivial .nil))) (by simp only [maxLen]; have := List.length_filter_le (fun p => !decide (p.1 = key)) (l.take k); simp only [List.length_take] at this; unfold withoutL; omega) (by have := List.length_filter_le (fun p => !decide (p.1 = key)) (l.take k); simp only [List.length_take] at this; unfold withoutL; omega) rfl ?_
      rintro v51 R52 w53 hr54 hs55 hf56
      replace hs55 : St w0 I (ids []) G2 (R52 ++ ([⟨b27, #[.string ⟨((l[k]'hlt).1).toArray⟩, .string ⟨((l[k]'hlt).2).toArray⟩], 52⟩] : List Bx)) w53 := hs55; clear hs50 hf56
      refine hK49 _ _ ?_; clear hK49 K48
      refine sq (r_assign rfl) rfl ?_
      refine wl_nil ?_
      refine hK22 _ _ ?_; (try clear hK22 K21)
      refine wl_begin ?_
      refine sq (r_addi rfl rfl rfl rfl (by omega)) rfl ?_
      refine sq (r_move rfl) rfl ?_
      refine wl_nil ?_
      have hs57 : St w0 I (ids []) G2 (⟨b27, #[.string ⟨((l[k]'hlt).1).toArray⟩, .string ⟨((l[k]'hlt).2).toArray⟩], 52⟩ :: (R52 ++ [])) w53 := hs55.perm (List.Perm.trans ((List.Perm.refl _).append_left _) (List.perm_middle (l₁ := (R52 : List Bx)) (a := (⟨b27, #[.string ⟨((l[k]'hlt).1).toArray⟩, .string ⟨((l[k]'hlt).2).toArray⟩], 52⟩ : Bx)) (l₂ := []))); clear hs55
      have hs58 : St w0 I (ids []) G2 (R52 ++ []) w53 := hs57.drop
      exact ⟨_, _, rfl, ⟨_, (k + 1), v51, R52, G2, rfl, updL_self (.cons rfl (.cons rfl (.cons rfl (.cons rfl (.cons rfl (.cons rfl (.cons rfl .nil))))))), (le14.trans le45), (by omega), (by rw [List.take_succ_eq_append_getElem hlt]; unfold withoutL; rw [List.filter_append, List.filter_cons_of_pos (by simpa using (by assumption : ¬ (l[k]'hlt).1 = key)), List.filter_nil, List.length_append, spCells_append]; exact hr54), hs58⟩, (by omega)⟩
    ·
      have h59 : (decide ((l[k]'hlt).1 = key)) = true := by simpa using h36
      have p60 := of_decide_eq_true h59
      refine wp_skip ?_
      refine hK22 _ _ ?_; (try clear hK22 K21)
      refine nrm (vals := [(0, .slice (some ⟨b, off, none⟩) l.length cap), (1, .string ⟨(key).toArray⟩), (4, .slice none 0 0), (5, rv), (7, .pointer (some ⟨b27, 0, none⟩)), (8, .slice (some ⟨b, off, none⟩) l.length cap), (9, .int .i64 ((l.length : Nat) : Int)), (10, .int .i64 ((k : Nat) : Int)), (11, .bool (decide (((k : Nat) : Int) < ((l.length : Nat) : Int)))), (17, .bool (!(decide ((l[k]'hlt).1 = key))))]) (.cons rfl (.cons rfl (.cons rfl (.cons rfl (.cons rfl (.cons rfl (.cons rfl (.cons rfl (.cons rfl (.cons rfl .nil)))))))))) fun g61 => ?_
      refine wl_begin ?_
      refine sq (r_addi rfl rfl rfl rfl (by omega)) rfl ?_
      refine sq (r_move rfl) rfl ?_
      refine wl_nil ?_
      have hs62 : St w0 I (ids []) G1 (RR ++ []) w32 := hs33.drop
      exact ⟨_, _, rfl, ⟨_, (k + 1), rv, RR, G1, rfl, updL_self (.cons rfl (.cons rfl (.cons rfl (.cons rfl (.cons rfl (.cons rfl (.cons rfl .nil))))))), le14, (by omega), (by rw [List.take_succ_eq_append_getElem hlt]; unfold withoutL; rw [List.filter_append, List.filter_cons_of_neg (by simpa using (by assumption : (l[k]'hlt).1 = key)), List.filter_nil, List.append_nil]; exact hrow), hs62⟩, (by omega)⟩
  ·
    have p63 := of_decide_eq_false h19
    obtain rfl : k = l.length := by omega
    rw [List.take_length] at hrow
    refine wp_exit ?_
    refine hK6 _ _ ?_; (try clear hK6 K5)
    refine wp_seq_k fun K64 hK65 => ?_
    refine wl_begin ?_
    refine sq (r_move rfl) rfl ?_
    refine sq (r_assign rfl) rfl ?_
    refine wl_nil ?_
    refine hK65 _ _ ?_; (try clear hK65 K64)
    refine wp_ret ?_
    obtain ⟨G3, le66, hs67, hz68⟩ := hs13.freezeRow (R := RR) (L := []) hrow (fun _ h => by cases h); clear hs13
    replace hs67 : St w0 I (ids []) G3 [] w12 := hs67
    exact leave (X' := []) (L := []) hs67 rfl (res_one (v := rv) rfl (.tmp rfl rfl .nil)) hz68
end Go.Proofs.YtlnlodfnplkckaaDoor
/- The contract of the reference of Put. -/
namespace Go.Proofs.YtlnlodfnplkckaaDoor
set_option linter.unusedVariables false
set_option linter.unusedSimpArgs false
section
variable {k x : Bs} {s : List (Bs × Bs) × Bool} {q : Bs × Bs}
theorem putF_1 (h1 : s.2 = true) (h2 : q.1 = k) : putF k x s q = (s.1, true) := by simp [putF, h1, h2]
theorem putF_2 (h1 : s.2 = true) (h2 : ¬ q.1 = k) : putF k x s q = (s.1 ++ [q], true) := by simp [putF, h1, h2]
theorem putF_3 (h1 : s.2 = false) (h2 : cmpB q.1 k < 0) (h3 : q.1 = k) : putF k x s q = (s.1, false) := by
  unfold putF; rw [if_pos h3, if_neg (fun h => h.2 h2), h1]; simp [h2]
theorem putF_4 (h1 : s.2 = false) (h2 : cmpB q.1 k < 0) (h3 : ¬ q.1 = k) : putF k x s q = (s.1 ++ [q], false) := by
  unfold putF; rw [if_neg h3, if_neg (fun h => h.2 h2), h1]; simp [h2]
theorem putF_5 (h1 : s.2 = false) (h2 : ¬ cmpB q.1 k < 0) (h3 : q.1 = k) : putF k x s q = (s.1 ++ [(k, x)], true) := by
  unfold putF; rw [if_pos h3, if_pos ⟨h1, h2⟩, h1]; simp [h2]
theorem putF_6 (h1 : s.2 = false) (h2 : ¬ cmpB q.1 k < 0) (h3 : ¬ q.1 = k) : putF k x s q = (s.1 ++ [(k, x)] ++ [q], true) := by
  unfold putF; rw [if_neg h3, if_pos ⟨h1, h2⟩, h1]; simp [h2]
end
set_option maxRecDepth 100000 in
theorem refput_ok {I : GH} {v0 : Value} {l : List (Bs × Bs)} {key x : Bs} (hl : SPairsAt I v0 l) (hll : l.length ≤ 100000) (hkeys : ∀ p ∈ l, p.1.length ≤ 1000000000) : Fn Tryd.prog 40 #[v0, .agg #[.string ⟨key.toArray⟩, .string ⟨x.toArray⟩]] I [] (fun v J _ => SPairsAt J v (putL l key x)) := by
  obtain ⟨ad, cap, rfl⟩ := hl.slc
  refine enter (args := [.slice ad l.length cap, .agg #[.string ⟨(key).toArray⟩, .string ⟨(x).toArray⟩]]) Tryd.func40 rfl rfl fun w0 hs0 => ?_
  refine wp_seq_k fun K1 hK2 => ?_
  refine wl_begin ?_
  refine sqo rfl fun K3 hK4 => ow_newbox (mk := fun b => .pointer (some ⟨b, 0, none⟩)) hs0 (r_box rfl rfl) rfl ?_
  rintro b5 w6 (hs7 : St w0 I (ids []) I [⟨b5, #[.string ⟨(key).toArray⟩, .string ⟨(x).toArray⟩], 52⟩] w6)
  clear hs0
  refine hK4 _ _ ?_; clear hK4 K3
  refine sq (r_assign rfl) rfl ?_
  refine wl_nil ?_
  refine hK2 _ _ ?_; (try clear hK2 K1)
  refine wp_seq_k fun K8 hK9 => ?_
  refine wl_begin ?_
  refine sq (r_assign rfl) rfl ?_
  refine wl_nil ?_
  refine hK9 _ _ ?_; (try clear hK9 K8)
  refine wp_seq_k fun K10 hK11 => ?_
  refine wl_begin ?_
  refine sq (r_assign rfl) rfl ?_
  refine wl_nil ?_
  refine hK11 _ _ ?_; (try clear hK11 K10)
  refine wp_seq_k fun K12 hK13 => ?_
  refine wp_seq_k fun K14 hK15 => ?_
  refine wl_begin ?_
  refine sq (r_move rfl) rfl ?_
  refine sq (r_lens rfl (by kernel_rfl) rfl) rfl ?_
  refine sq (r_move rfl) rfl ?_
  refine wl_nil ?_
  refine hK15 _ _ ?_; (try clear hK15 K14)
  refine wp_block ?_
  refine lp (σ := Nat) (fun m17 f18 w19 => ∃ (g16 : Nat → Value) (k : Nat) (rv : Value) (RR : List Bx) (G1 : GH), m17 = l.length - k ∧ f18 = updL g16 [(0, .slice ad l.length cap), (1, .agg #[.string ⟨(key).toArray⟩, .string ⟨(x).toArray⟩]), (3, .pointer (some ⟨b5, 0, none⟩)), (4, .slice none 0 0), (5, rv), (6, .bool ((putS (l.take k) key x).2)), (9, .slice ad l.length cap), (10, .int .i64 ((l.length : Nat) : Int)), (11, .int .i64 ((k : Nat) : Int))] ∧ I.le G1 ∧ (k ≤ l.length) ∧ (RowAt 52 2 rv (putS (l.take k) key x).1.length (spCells (putS (l.take k) key x).1) RR) ∧ St w0 I (ids []) G1 (⟨b5, #[.string ⟨(key).toArray⟩, .string ⟨(x).toArray⟩], 52⟩ :: (RR ++ [])) w19) (fun m => m) (l.length) ⟨_, 0, _, [], I, rfl, updL_self (.cons rfl (.cons rfl (.cons rfl (.cons rfl (.cons rfl (.cons rfl (.cons rfl (.cons rfl (.cons rfl .nil))))))))), GH.le.refl _, (Nat.zero_le _), RowAt.nil _ _, hs7⟩ ?_
  clear hs7
  rintro m17 f18 w19 ⟨g16, k, rv, RR, G1, rfl, rfl, le21, hkl, hrow, hs20⟩
  refine wp_seq_k fun K22 hK23 => ?_
  refine wl_begin ?_
  refine sq (r_lti rfl rfl rfl rfl) rfl ?_
  refine wl_nil ?_
  refine hK23 _ _ ?_; (try clear hK23 K22)
  refine wp_seq_k fun K24 hK25 => ?_
  refine condS rfl rfl (fun h26 => ?_) (fun h26 => ?_)
  ·
    have p27 := of_decide_eq_true h26
    have hlt : k < l.length := by omega
    obtain ⟨b, off, cs, T0, fz, hbe, hb, hcs⟩ := SPairsAt.at hl hlt
    cases hbe
    refine wp_skip ?_
    refine hK25 _ _ ?_; (try clear hK25 K24)
    refine wp_seq_k fun K28 hK29 => ?_
    refine wp_block ?_
    refine wp_seq_k fun K30 hK31 => ?_
    refine wl_begin ?_
    refine sq (r_index (e := 52) (sz := 2) (i := k) rfl rfl (by kernel_rfl) rfl rfl hlt) rfl ?_
    refine sq (r_loadN (m := 2) (vs := [.string ⟨((l[k]'hlt).1).toArray⟩, .string ⟨((l[k]'hlt).2).toArray⟩]) rfl (by kernel_rfl) rfl (hs20.imm (le21 _ _ hb)) hcs rfl) rfl ?_
    refine sqo rfl fun K32 hK33 => ow_newbox (mk := fun b => .pointer (some ⟨b, 0, none⟩)) hs20 (r_alloc (cs := [.string ⟨([]).toArray⟩, .string ⟨([]).toArray⟩]) (by kernel_rfl)) rfl ?_
    rintro b34 w35 (hs36 : St w0 I (ids []) G1 (⟨b34, #[.string ⟨([]).toArray⟩, .string ⟨([]).toArray⟩], 52⟩ :: (⟨b5, #[.string ⟨(key).toArray⟩, .string ⟨(x).toArray⟩], 52⟩ :: (RR ++ []))) w35)
    clear hs20
    refine hK33 _ _ ?_; clear hK33 K32
    refine sqo rfl fun K37 hK38 => ow_store (vs := [.string ⟨((l[k]'hlt).1).toArray⟩, .string ⟨((l[k]'hlt).2).toArray⟩]) hs36 rfl rfl (by kernel_rfl) rfl rfl (.cons trivial (.cons trivial .nil)) rfl ?_
    rintro w39 (hs40 : St w0 I (ids []) G1 (⟨b34, #[.string ⟨((l[k]'hlt).1).toArray⟩, .string ⟨((l[k]'hlt).2).toArray⟩], 52⟩ :: (⟨b5, #[.string ⟨(key).toArray⟩, .string ⟨(x).toArray⟩], 52⟩ :: (RR ++ []))) w39)
    clear hs36
    refine hK38 _ _ ?_; clear hK38 K37
    refine wl_nil ?_
    refine hK31 _ _ ?_; (try clear hK31 K30)
    refine wp_seq_k fun K41 hK42 => ?_
    refine wp_seq_k fun K43 hK44 => ?_
    refine wl_begin ?_
    refine sq (r_move rfl) rfl ?_
    refine sq (r_not rfl rfl) rfl ?_
    refine sq (r_move rfl) rfl ?_
    refine bsplit (!((putS (l.take k) key x).2)) (fun h45 => ?_) (fun h45 => ?_)
    ·
      have h46 : ((putS (l.take k) key x).2) = false := by simpa using h45
      refine sqG (wantedT rfl rfl rfl (congrArg Value.bool h45)) (r_fieldAddr (off := 0) rfl (by kernel_rfl) rfl) rfl ?_
      refine sqG (wantedT rfl rfl rfl (congrArg Value.bool h45)) (r_load rfl (by kernel_rfl) rfl (hs40.box (.head _)) rfl) rfl ?_
      refine sqG (wantedT rfl rfl rfl (congrArg Value.bool h45)) (r_fieldAddr (off := 0) rfl (by kernel_rfl) rfl) rfl ?_
      refine sqG (wantedT rfl rfl rfl (congrArg Value.bool h45)) (r_load rfl (by kernel_rfl) rfl (hs40.box (.tail _ (.head _))) rfl) rfl ?_
      refine sqoG (wantedT rfl rfl rfl (congrArg Value.bool h45)) fun K47 hK48 => ow_call (X := []) (L := (⟨b34, #[.string ⟨((l[k]'hlt).1).toArray⟩, .string ⟨((l[k]'hlt).2).toArray⟩], 52⟩ :: (⟨b5, #[.string ⟨(key).toArray⟩, .string ⟨(x).toArray⟩], 52⟩ :: (RR ++ [])))) (lb := []) hs40 (less_ok (a := (l[k]'hlt).1) (b := key) (hkeys _ (List.getElem_mem hlt))) (by kernel_rfl) rfl rfl rfl rfl rfl ?_
      rintro _ _ X1 w49 ⟨rfl, rfl⟩ - hs50 hid51
      obtain rfl : X1 = [] := List.map_eq_nil_iff.1 hid51
      replace hs50 : St w0 I (ids []) G1 (⟨b34, #[.string ⟨((l[k]'hlt).1).toArray⟩, .string ⟨((l[k]'hlt).2).toArray⟩], 52⟩ :: (⟨b5, #[.string ⟨(key).toArray⟩, .string ⟨(x).toArray⟩], 52⟩ :: (RR ++ []))) w49 := hs50
      clear hs40 hid51
      refine hK48 _ _ ?_; clear hK48 K47
      refine sqG (wantedT rfl rfl rfl (congrArg Value.bool h45)) (r_not rfl rfl) rfl ?_
      refine sq (r_pick rfl rfl rfl (congrArg Value.bool h45)) rfl ?_
      refine wl_nil ?_
      refine hK44 _ _ ?_; (try clear hK44 K43)
      refine condS rfl rfl (fun h52 => ?_) (fun h52 => ?_)
      ·
        have h53 : (decide (cmpB ((l[k]'hlt).1) (key) < 0)) = false := by simpa using h52
        have p54 := of_decide_eq_false h53
        refine wp_seq_k fun K55 hK56 => ?_
        refine nrm (vals := [(0, .slice (some ⟨b, off, none⟩) l.length cap), (1, .agg #[.string ⟨(key).toArray⟩, .string ⟨(x).toArray⟩]), (3, .pointer (some ⟨b5, 0, none⟩)), (4, .slice none 0 0), (5, rv), (6, .bool ((putS (l.take k) key x).2)), (8, .pointer (some ⟨b34, 0, none⟩)), (9, .slice (some ⟨b, off, none⟩) l.length cap), (10, .int .i64 ((l.length : Nat) : Int)), (11, .int .i64 ((k : Nat) : Int)), (12, .bool (decide (((k : Nat) : Int) < ((l.length : Nat) : Int)))), (24, .bool (!(decide (cmpB ((l[k]'hlt).1) (key) < 0))))]) (.cons rfl (.cons rfl (.cons rfl (.cons rfl (.cons rfl (.cons rfl (.cons rfl (.cons rfl (.cons rfl (.cons rfl (.cons rfl (.cons rfl .nil)))))))))))) fun g57 => ?_
        refine wl_begin ?_
        refine sq (r_move rfl) rfl ?_
        refine sq (r_loadN (m := 2) rfl (by kernel_rfl) rfl (hs50.box (.tail _ (.head _))) rfl rfl) rfl ?_
        refine sqo rfl fun K58 hK59 => ow_newimm (mk := fun b => .slice (some ⟨b, 0, none⟩) 1 1) hs50 (r_buildSlice (e := 52) (cells := #[.string ⟨(key).toArray⟩, .string ⟨(x).toArray⟩]) (.cons rfl rfl .nil) (by kernel_rfl)) rfl ?_
        rintro b60 G2 w61 hb62 le63 hs64 ge65
        clear hs50
        replace hb62 : G2 b60 = some (.cells #[.string ⟨(key).toArray⟩, .string ⟨(x).toArray⟩] 52 (0, 0)) := hb62
        refine hK59 _ _ ?_; clear hK59 K58
        have hs68 : St w0 I (ids []) G2 (RR ++ ([⟨b34, #[.string ⟨((l[k]'hlt).1).toArray⟩, .string ⟨((l[k]'hlt).2).toArray⟩], 52⟩, ⟨b5, #[.string ⟨(key).toArray⟩, .string ⟨(x).toArray⟩], 52⟩] : List Bx)) w61 := hs64.perm (List.Perm.trans ((List.Perm.trans ((List.Perm.refl _).cons _) (List.perm_middle (l₁ := (RR : List Bx)) (a := (⟨b5, #[.string ⟨(key).toArray⟩, .string ⟨(x).toArray⟩], 52⟩ : Bx)) (l₂ := [])).symm).cons _) (List.perm_middle (l₁ := (RR : List Bx)) (a := (⟨b34, #[.string ⟨((l[k]'hlt).1).toArray⟩, .string ⟨((l[k]'hlt).2).toArray⟩], 52⟩ : Bx)) (l₂ := [⟨b5, #[.string ⟨(key).toArray⟩, .string ⟨(x).toArray⟩], 52⟩])).symm); clear hs64
        refine sqo rfl fun K66 hK67 => ow_append (R := RR) (L := [⟨b34, #[.string ⟨((l[k]'hlt).1).toArray⟩, .string ⟨((l[k]'hlt).2).toArray⟩], 52⟩, ⟨b5, #[.string ⟨(key).toArray⟩, .string ⟨(x).toArray⟩], 52⟩]) (E := 52) (sz := 2) (bytes := 32) (news := [.string ⟨(key).toArray⟩, .string ⟨(x).toArray⟩]) hs68 hrow (by kernel_rfl) rfl rfl rfl rfl rfl rfl (SliceAt.news (m := 2) (hs68.imm hb62) rfl) (ones_old (.cons trivial (.cons trivial .nil))) (by simp only [maxLen]; have hz := putS_length key x (l.take k) ([], false); simp only [List.length_take, List.length_nil, putS] at hz ⊢; omega) (by have hz := putS_length key x (l.take k) ([], false); simp only [List.length_take, List.length_nil, putS] at hz ⊢; omega) rfl ?_
        rintro v69 R70 w71 hr72 hs73 hf74
        replace hs73 : St w0 I (ids []) G2 (R70 ++ ([⟨b34, #[.string ⟨((l[k]'hlt).1).toArray⟩, .string ⟨((l[k]'hlt).2).toArray⟩], 52⟩, ⟨b5, #[.string ⟨(key).toArray⟩, .string ⟨(x).toArray⟩], 52⟩] : List Bx)) w71 := hs73; clear hs68 hf74
        refine hK67 _ _ ?_; clear hK67 K66
        refine sq (r_assign rfl) rfl ?_
        refine wl_nil ?_
        refine hK56 _ _ ?_; (try clear hK56 K55)
        refine wl_begin ?_
        refine sq (r_assign rfl) rfl ?_
        refine wl_nil ?_
        refine hK42 _ _ ?_; (try clear hK42 K41)
        refine wp_seq_k fun K75 hK76 => ?_
        refine wl_begin ?_
        refine sq (r_fieldAddr (off := 0) rfl (by kernel_rfl) rfl) rfl ?_
        refine sq (r_load rfl (by kernel_rfl) rfl (hs73.box (List.mem_append_right _ (.head _))) rfl) rfl ?_
        refine sq (r_fieldAddr (off := 0) rfl (by kernel_rfl) rfl) rfl ?_
        refine sq (r_load rfl (by kernel_rfl) rfl (hs73.box (List.mem_append_right _ (.tail _ (.head _)))) rfl) rfl ?_
        refine sq (r_nestr rfl rfl rfl rfl) rfl ?_
        refine wl_nil ?_
        refine hK76 _ _ ?_; (try clear hK76 K75)
        refine condS rfl rfl (fun h77 => ?_) (fun h77 => ?_)
        ·
          have h78 : (decide ((l[k]'hlt).1 = key)) = false := by simpa using h77
          have p79 := of_decide_eq_false h78
          refine wl_begin ?_
          refine sq (r_move rfl) rfl ?_
          refine sq (r_loadN (m := 2) rfl (by kernel_rfl) rfl (hs73.box (List.mem_append_right _ (.head _))) rfl rfl) rfl ?_
          refine sqo rfl fun K80 hK81 => ow_newimm (mk := fun b => .slice (some ⟨b, 0, none⟩) 1 1) hs73 (r_buildSlice (e := 52) (cells := #[.string ⟨((l[k]'hlt).1).toArray⟩, .string ⟨((l[k]'hlt).2).toArray⟩]) (.cons rfl rfl .nil) (by kernel_rfl)) rfl ?_
          rintro b82 G3 w83 hb84 le85 hs86 ge87
          clear hs73
          replace hb84 : G3 b82 = some (.cells #[.string ⟨((l[k]'hlt).1).toArray⟩, .string ⟨((l[k]'hlt).2).toArray⟩] 52 (0, 0)) := hb84
          refine hK81 _ _ ?_; clear hK81 K80
          refine sqo rfl fun K88 hK89 => ow_append (R := R70) (L := [⟨b34, #[.string ⟨((l[k]'hlt).1).toArray⟩, .string ⟨((l[k]'hlt).2).toArray⟩], 52⟩, ⟨b5, #[.string ⟨(key).toArray⟩, .string ⟨(x).toArray⟩], 52⟩]) (E := 52) (sz := 2) (bytes := 32) (news := [.string ⟨((l[k]'hlt).1).toArray⟩, .string ⟨((l[k]'hlt).2).toArray⟩]) hs86 hr72 (by kernel_rfl) rfl rfl rfl rfl rfl rfl (SliceAt.news (m := 2) (hs86.imm hb84) rfl) (ones_old (.cons trivial (.cons trivial .nil))) (by simp only [maxLen]; have hz := putS_length key x (l.take k) ([], false); simp only [List.length_take, List.length_nil, putS] at hz ⊢; omega) (by have hz := putS_length key x (l.take k) ([], false); simp only [List.length_take, List.length_nil, putS] at hz ⊢; omega) rfl ?_
          rintro v90 R91 w92 hr93 hs94 hf95
          replace hs94 : St w0 I (ids []) G3 (R91 ++ ([⟨b34, #[.string ⟨((l[k]'hlt).1).toArray⟩, .string ⟨((l[k]'hlt).2).toArray⟩], 52⟩, ⟨b5, #[.string ⟨(key).toArray⟩, .string ⟨(x).toArray⟩], 52⟩] : List Bx)) w92 := hs94; clear hs86 hf95
          refine hK89 _ _ ?_; clear hK89 K88
          refine sq (r_assign rfl) rfl ?_
          refine wl_nil ?_
          refine hK29 _ _ ?_; (try clear hK29 K28)
          refine nrm (vals := [(0, .slice (some ⟨b, off, none⟩) l.length cap), (1, .agg #[.string ⟨(key).toArray⟩, .string ⟨(x).toArray⟩]), (3, .pointer (some ⟨b5, 0, none⟩)), (4, .slice none 0 0), (5, v90), (6, .bool true), (8, .pointer (some ⟨b34, 0, none⟩)), (9, .slice (some ⟨b, off, none⟩) l.length cap), (10, .int .i64 ((l.length : Nat) : Int)), (11, .int .i64 ((k : Nat) : Int)), (12, .bool (decide (((k : Nat) : Int) < ((l.length : Nat) : Int)))), (24, .bool (!(decide (cmpB ((l[k]'hlt).1) (key) < 0)))), (33, .bool (!(decide ((l[k]'hlt).1 = key))))]) (.cons rfl (.cons rfl (.cons rfl (.cons rfl (.cons rfl (.cons rfl (.cons rfl (.cons rfl (.cons rfl (.cons rfl (.cons rfl (.cons rfl (.cons rfl .nil))))))))))))) fun g96 => ?_
          refine wl_begin ?_
          refine sq (r_addi rfl rfl rfl rfl (by omega)) rfl ?_
          refine sq (r_move rfl) rfl ?_
          refine wl_nil ?_
          have hs97 : St w0 I (ids []) G3 (⟨b34, #[.string ⟨((l[k]'hlt).1).toArray⟩, .string ⟨((l[k]'hlt).2).toArray⟩], 52⟩ :: (R91 ++ ([⟨b5, #[.string ⟨(key).toArray⟩, .string ⟨(x).toArray⟩], 52⟩] : List Bx))) w92 := hs94.perm (List.Perm.trans ((List.Perm.refl _).append_left _) (List.perm_middle (l₁ := (R91 : List Bx)) (a := (⟨b34, #[.string ⟨((l[k]'hlt).1).toArray⟩, .string ⟨((l[k]'hlt).2).toArray⟩], 52⟩ : Bx)) (l₂ := [⟨b5, #[.string ⟨(key).toArray⟩, .string ⟨(x).toArray⟩], 52⟩]))); clear hs94
          have hs98 : St w0 I (ids []) G3 (R91 ++ ([⟨b5, #[.string ⟨(key).toArray⟩, .string ⟨(x).toArray⟩], 52⟩] : List Bx)) w92 := hs97.drop
          have hs99 : St w0 I (ids []) G3 (⟨b5, #[.string ⟨(key).toArray⟩, .string ⟨(x).toArray⟩], 52⟩ :: (R91 ++ [])) w92 := hs98.perm (List.Perm.trans ((List.Perm.refl _).append_left _) (List.perm_middle (l₁ := (R91 : List Bx)) (a := (⟨b5, #[.string ⟨(key).toArray⟩, .string ⟨(x).toArray⟩], 52⟩ : Bx)) (l₂ := []))); clear hs98
          have hput : putS (l.take (k + 1)) key x = ((putS (l.take k) key x).1 ++ [(key, x)] ++ [l[k]'hlt], true) := by rw [List.take_succ_eq_append_getElem hlt, putS_snoc, putF_6 h46 (by assumption) (by assumption)]
          exact ⟨_, _, rfl, ⟨_, (k + 1), v90, R91, G3, rfl, updL_self (.cons rfl (.cons rfl (.cons rfl (.cons rfl (.cons rfl (.cons (congrArg Value.bool (by rw [hput])) (.cons rfl (.cons rfl (.cons rfl .nil))))))))), ((le21.trans le63).trans le85), (by omega), (by rw [hput]; simpa [spCells_append, spCells] using hr93), hs99⟩, (by omega)⟩
        ·
          have h100 : (decide ((l[k]'hlt).1 = key)) = true := by simpa using h77
          have p101 := of_decide_eq_true h100
          refine wp_skip ?_
          refine hK29 _ _ ?_; (try clear hK29 K28)
          refine wl_begin ?_
          refine sq (r_addi rfl rfl rfl rfl (by omega)) rfl ?_
          refine sq (r_move rfl) rfl ?_
          refine wl_nil ?_
          have hs102 : St w0 I (ids []) G2 (⟨b34, #[.string ⟨((l[k]'hlt).1).toArray⟩, .string ⟨((l[k]'hlt).2).toArray⟩], 52⟩ :: (R70 ++ ([⟨b5, #[.string ⟨(key).toArray⟩, .string ⟨(x).toArray⟩], 52⟩] : List Bx))) w71 := hs73.perm (List.Perm.trans ((List.Perm.refl _).append_left _) (List.perm_middle (l₁ := (R70 : List Bx)) (a := (⟨b34, #[.string ⟨((l[k]'hlt).1).toArray⟩, .string ⟨((l[k]'hlt).2).toArray⟩], 52⟩ : Bx)) (l₂ := [⟨b5, #[.string ⟨(key).toArray⟩, .string ⟨(x).toArray⟩], 52⟩]))); clear hs73
          have hs103 : St w0 I (ids []) G2 (R70 ++ ([⟨b5, #[.string ⟨(key).toArray⟩, .string ⟨(x).toArray⟩], 52⟩] : List Bx)) w71 := hs102.drop
          have hs104 : St w0 I (ids []) G2 (⟨b5, #[.string ⟨(key).toArray⟩, .string ⟨(x).toArray⟩], 52⟩ :: (R70 ++ [])) w71 := hs103.perm (List.Perm.trans ((List.Perm.refl _).append_left _) (List.perm_middle (l₁ := (R70 : List Bx)) (a := (⟨b5, #[.string ⟨(key).toArray⟩, .string ⟨(x).toArray⟩], 52⟩ : Bx)) (l₂ := []))); clear hs103
          have hput : putS (l.take (k + 1)) key x = ((putS (l.take k) key x).1 ++ [(key, x)], true) := by rw [List.take_succ_eq_append_getElem hlt, putS_snoc, putF_5 h46 (by assumption) (by assumption)]
          exact ⟨_, _, rfl, ⟨_, (k + 1), v69, R70, G2, rfl, updL_self (.cons rfl (.cons rfl (.cons rfl (.cons rfl (.cons rfl (.cons (congrArg Value.bool (by rw [hput])) (.cons rfl (.cons rfl (.cons rfl .nil))))))))), (le21.trans le63), (by omega), (by rw [hput]; simpa [spCells_append, spCells] using hr72), hs104⟩, (by omega)⟩
      ·
        have h105 : (decide (cmpB ((l[k]'hlt).1) (key) < 0)) = true := by simpa using h52
        have p106 := of_decide_eq_true h105
        refine wp_skip ?_
        refine hK42 _ _ ?_; (try clear hK42 K41)
        refine wp_seq_k fun K107 hK108 => ?_
        refine nrm (vals := [(0, .slice (some ⟨b, off, none⟩) l.length cap), (1, .agg #[.string ⟨(key).toArray⟩, .string ⟨(x).toArray⟩]), (3, .pointer (some ⟨b5, 0, none⟩)), (4, .slice none 0 0), (5, rv), (6, .bool ((putS (l.take k) key x).2)), (8, .pointer (some ⟨b34, 0, none⟩)), (9, .slice (some ⟨b, off, none⟩) l.length cap), (10, .int .i64 ((l.length : Nat) : Int)), (11, .int .i64 ((k : Nat) : Int)), (12, .bool (decide (((k : Nat) : Int) < ((l.length : Nat) : Int)))), (24, .bool (!(decide (cmpB ((l[k]'hlt).1) (key) < 0))))]) (.cons rfl (.cons rfl (.cons rfl (.cons rfl (.cons rfl (.cons rfl (.cons rfl (.cons rfl (.cons rfl (.cons rfl (.cons rfl (.cons rfl .nil)))))))))))) fun g109 => ?_
        refine wl_begin ?_
        refine sq (r_fieldAddr (off := 0) rfl (by kernel_rfl) rfl) rfl ?_
        refine sq (r_load rfl (by kernel_rfl) rfl (hs50.box (.head _)) rfl) rfl ?_
        refine sq (r_fieldAddr (off := 0) rfl (by kernel_rfl) rfl) rfl ?_
        refine sq (r_load rfl (by kernel_rfl) rfl (hs50.box (.tail _ (.head _))) rfl) rfl ?_
        refine sq (r_nestr rfl rfl rfl rfl) rfl ?_
        refine wl_nil ?_
        refine hK108 _ _ ?_; (try clear hK108 K107)
        refine condS rfl rfl (fun h110 => ?_) (fun h110 => ?_)
        ·
          have h111 : (decide ((l[k]'hlt).1 = key)) = false := by simpa using h110
          have p112 := of_decide_eq_false h111
          refine wl_begin ?_
          refine sq (r_move rfl) rfl ?_
          refine sq (r_loadN (m := 2) rfl (by kernel_rfl) rfl (hs50.box (.head _)) rfl rfl) rfl ?_
          refine sqo rfl fun K113 hK114 => ow_newimm (mk := fun b => .slice (some ⟨b, 0, none⟩) 1 1) hs50 (r_buildSlice (e := 52) (cells := #[.string ⟨((l[k]'hlt).1).toArray⟩, .string ⟨((l[k]'hlt).2).toArray⟩]) (.cons rfl rfl .nil) (by kernel_rfl)) rfl ?_
          rintro b115 G4 w116 hb117 le118 hs119 ge120
          clear hs50
          replace hb117 : G4 b115 = some (.cells #[.string ⟨((l[k]'hlt).1).toArray⟩, .string ⟨((l[k]'hlt).2).toArray⟩] 52 (0, 0)) := hb117
          refine hK114 _ _ ?_; clear hK114 K113
          have hs123 : St w0 I (ids []) G4 (RR ++ ([⟨b34, #[.string ⟨((l[k]'hlt).1).toArray⟩, .string ⟨((l[k]'hlt).2).toArray⟩], 52⟩, ⟨b5, #[.string ⟨(key).toArray⟩, .string ⟨(x).toArray⟩], 52⟩] : List Bx)) w116 := hs119.perm (List.Perm.trans ((List.Perm.trans ((List.Perm.refl _).cons _) (List.perm_middle (l₁ := (RR : List Bx)) (a := (⟨b5, #[.string ⟨(key).toArray⟩, .string ⟨(x).toArray⟩], 52⟩ : Bx)) (l₂ := [])).symm).cons _) (List.perm_middle (l₁ := (RR : List Bx)) (a := (⟨b34, #[.string ⟨((l[k]'hlt).1).toArray⟩, .string ⟨((l[k]'hlt).2).toArray⟩], 52⟩ : Bx)) (l₂ := [⟨b5, #[.string ⟨(key).toArray⟩, .string ⟨(x).toArray⟩], 52⟩])).symm); clear hs119
          refine sqo rfl fun K121 hK122 => ow_append (R := RR) (L := [⟨b34, #[.string ⟨((l[k]'hlt).1).toArray⟩, .string ⟨((l[k]'hlt).2).toArray⟩], 52⟩, ⟨b5, #[.string ⟨(key).toArray⟩, .string ⟨(x).toArray⟩], 52⟩]) (E := 52) (sz := 2) (bytes := 32) (news := [.string ⟨((l[k]'hlt).1).toArray⟩, .string ⟨((l[k]'hlt).2).toArray⟩]) hs123 hrow (by kernel_rfl) rfl rfl rfl rfl rfl rfl (SliceAt.news (m := 2) (hs123.imm hb117) rfl) (ones_old (.cons trivial (.cons trivial .nil))) (by simp only [maxLen]; have hz := putS_length key x (l.take k) ([], false); simp only [List.length_take, List.length_nil, putS] at hz ⊢; omega) (by have hz := putS_length key x (l.take k) ([], false); simp only [List.length_take, List.length_nil, putS] at hz ⊢; omega) rfl ?_
          rintro v124 R125 w126 hr127 hs128 hf129
          replace hs128 : St w0 I (ids []) G4 (R125 ++ ([⟨b34, #[.string ⟨((l[k]'hlt).1).toArray⟩, .string ⟨((l[k]'hlt).2).toArray⟩], 52⟩, ⟨b5, #[.string ⟨(key).toArray⟩, .string ⟨(x).toArray⟩], 52⟩] : List Bx)) w126 := hs128; clear hs123 hf129
          refine hK122 _ _ ?_; clear hK122 K121
          refine sq (r_assign rfl) rfl ?_
          refine wl_nil ?_
          refine hK29 _ _ ?_; (try clear hK29 K28)
          refine wl_begin ?_
          refine sq (r_addi rfl rfl rfl rfl (by omega)) rfl ?_
          refine sq (r_move rfl) rfl ?_
          refine wl_nil ?_
          have hs130 : St w0 I (ids []) G4 (⟨b34, #[.string ⟨((l[k]'hlt).1).toArray⟩, .string ⟨((l[k]'hlt).2).toArray⟩], 52⟩ :: (R125 ++ ([⟨b5, #[.string ⟨(key).toArray⟩, .string ⟨(x).toArray⟩], 52⟩] : List Bx))) w126 := hs128.perm (List.Perm.trans ((List.Perm.refl _).append_left _) (List.perm_middle (l₁ := (R125 : List Bx)) (a := (⟨b34, #[.string ⟨((l[k]'hlt).1).toArray⟩, .string ⟨((l[k]'hlt).2).toArray⟩], 52⟩ : Bx)) (l₂ := [⟨b5, #[.string ⟨(key).toArray⟩, .string ⟨(x).toArray⟩], 52⟩]))); clear hs128
          have hs131 : St w0 I (ids []) G4 (R125 ++ ([⟨b5, #[.string ⟨(key).toArray⟩, .string ⟨(x).toArray⟩], 52⟩] : List Bx)) w126 := hs130.drop
          have hs132 : St w0 I (ids []) G4 (⟨b5, #[.string ⟨(key).toArray⟩, .string ⟨(x).toArray⟩], 52⟩ :: (R125 ++ [])) w126 := hs131.perm (List.Perm.trans ((List.Perm.refl _).append_left _) (List.perm_middle (l₁ := (R125 : List Bx)) (a := (⟨b5, #[.string ⟨(key).toArray⟩, .string ⟨(x).toArray⟩], 52⟩ : Bx)) (l₂ := []))); clear hs131
          have hput : putS (l.take (k + 1)) key x = ((putS (l.take k) key x).1 ++ [l[k]'hlt], false) := by rw [List.take_succ_eq_append_getElem hlt, putS_snoc, putF_4 h46 (by assumption) (by assumption)]
          exact ⟨_, _, rfl, ⟨_, (k + 1), v124, R125, G4, rfl, updL_self (.cons rfl (.cons rfl (.cons rfl (.cons rfl (.cons rfl (.cons (congrArg Value.bool (by rw [hput]; exact h46)) (.cons rfl (.cons rfl (.cons rfl .nil))))))))), (le21.trans le118), (by omega), (by rw [hput]; simpa [spCells_append, spCells] using hr127), hs132⟩, (by omega)⟩
        ·
          have h133 : (decide ((l[k]'hlt).1 = key)) = true := by simpa using h110
          have p134 := of_decide_eq_true h133
          refine wp_skip ?_
          refine hK29 _ _ ?_; (try clear hK29 K28)
          refine wl_begin ?_
          refine sq (r_addi rfl rfl rfl rfl (by omega)) rfl ?_
          refine sq (r_move rfl) rfl ?_
          refine wl_nil ?_
          have hs135 : St w0 I (ids []) G1 (⟨b5, #[.string ⟨(key).toArray⟩, .string ⟨(x).toArray⟩], 52⟩ :: (RR ++ [])) w49 := hs50.drop
          have hput : putS (l.take (k + 1)) key x = ((putS (l.take k) key x).1, false) := by rw [List.take_succ_eq_append_getElem hlt, putS_snoc, putF_3 h46 (by assumption) (by assumption)]
          exact ⟨_, _, rfl, ⟨_, (k + 1), rv, RR, G1, rfl, updL_self (.cons rfl (.cons rfl (.cons rfl (.cons rfl (.cons rfl (.cons (congrArg Value.bool (by rw [hput]; exact h46)) (.cons rfl (.cons rfl (.cons rfl .nil))))))))), le21, (by omega), (by rw [hput]; exact hrow), hs135⟩, (by omega)⟩
    ·
      have h136 : ((putS (l.take k) key x).2) = true := by simpa using h45
      refine sqN (wantedF rfl rfl rfl (congrArg Value.bool h45)) rfl ?_
      refine sqN (wantedF rfl rfl rfl (congrArg Value.bool h45)) rfl ?_
      refine sqN (wantedF rfl rfl rfl (congrArg Value.bool h45)) rfl ?_
      refine sqN (wantedF rfl rfl rfl (congrArg Value.bool h45)) rfl ?_
      refine sqN (wantedF rfl rfl rfl (congrArg Value.bool h45)) rfl ?_
      refine sqN (wantedF rfl rfl rfl (congrArg Value.bool h45)) rfl ?_
      refine sq (r_pick rfl rfl rfl (congrArg Value.bool h45)) rfl ?_
      refine wl_nil ?_
      refine hK44 _ _ ?_; (try clear hK44 K43)
      refine condF rfl rfl ?_
      refine wp_skip ?_
      refine hK42 _ _ ?_; (try clear hK42 K41)
      refine wp_seq_k fun K137 hK138 => ?_
      refine nrm (vals := [(0, .slice (some ⟨b, off, none⟩) l.length cap), (1, .agg #[.string ⟨(key).toArray⟩, .string ⟨(x).toArray⟩]), (3, .pointer (some ⟨b5, 0, none⟩)), (4, .slice none 0 0), (5, rv), (6, .bool ((putS (l.take k) key x).2)), (8, .pointer (some ⟨b34, 0, none⟩)), (9, .slice (some ⟨b, off, none⟩) l.length cap), (10, .int .i64 ((l.length : Nat) : Int)), (11, .int .i64 ((k : Nat) : Int)), (12, .bool (decide (((k : Nat) : Int) < ((l.length : Nat) : Int)))), (24, .bool false)]) (.cons rfl (.cons rfl (.cons rfl (.cons rfl (.cons rfl (.cons rfl (.cons rfl (.cons rfl (.cons rfl (.cons rfl (.cons rfl (.cons rfl .nil)))))))))))) fun g139 => ?_
      refine wl_begin ?_
      refine sq (r_fieldAddr (off := 0) rfl (by kernel_rfl) rfl) rfl ?_
      refine sq (r_load rfl (by kernel_rfl) rfl (hs40.box (.head _)) rfl) rfl ?_
      refine sq (r_fieldAddr (off := 0) rfl (by kernel_rfl) rfl) rfl ?_
      refine sq (r_load rfl (by kernel_rfl) rfl (hs40.box (.tail _ (.head _))) rfl) rfl ?_
      refine sq (r_nestr rfl rfl rfl rfl) rfl ?_
      refine wl_nil ?_
      refine hK138 _ _ ?_; (try clear hK138 K137)
      refine condS rfl rfl (fun h140 => ?_) (fun h140 => ?_)
      ·
        have h141 : (decide ((l[k]'hlt).1 = key)) = false := by simpa using h140
        have p142 := of_decide_eq_false h141
        refine wl_begin ?_
        refine sq (r_move rfl) rfl ?_
        refine sq (r_loadN (m := 2) rfl (by kernel_rfl) rfl (hs40.box (.head _)) rfl rfl) rfl ?_
        refine sqo rfl fun K143 hK144 => ow_newimm (mk := fun b => .slice (some ⟨b, 0, none⟩) 1 1) hs40 (r_buildSlice (e := 52) (cells := #[.string ⟨((l[k]'hlt).1).toArray⟩, .string ⟨((l[k]'hlt).2).toArray⟩]) (.cons rfl rfl .nil) (by kernel_rfl)) rfl ?_
        rintro b145 G5 w146 hb147 le148 hs149 ge150
        clear hs40
        replace hb147 : G5 b145 = some (.cells #[.string ⟨((l[k]'hlt).1).toArray⟩, .string ⟨((l[k]'hlt).2).toArray⟩] 52 (0, 0)) := hb147
        refine hK144 _ _ ?_; clear hK144 K143
        have hs153 : St w0 I (ids []) G5 (RR ++ ([⟨b34, #[.string ⟨((l[k]'hlt).1).toArray⟩, .string ⟨((l[k]'hlt).2).toArray⟩], 52⟩, ⟨b5, #[.string ⟨(key).toArray⟩, .string ⟨(x).toArray⟩], 52⟩] : List Bx)) w146 := hs149.perm (List.Perm.trans ((List.Perm.trans ((List.Perm.refl _).cons _) (List.perm_middle (l₁ := (RR : List Bx)) (a := (⟨b5, #[.string ⟨(key).toArray⟩, .string ⟨(x).toArray⟩], 52⟩ : Bx)) (l₂ := [])).symm).cons _) (List.perm_middle (l₁ := (RR : List Bx)) (a := (⟨b34, #[.string ⟨((l[k]'hlt).1).toArray⟩, .string ⟨((l[k]'hlt).2).toArray⟩], 52⟩ : Bx)) (l₂ := [⟨b5, #[.string ⟨(key).toArray⟩, .string ⟨(x).toArray⟩], 52⟩])).symm); clear hs149
        refine sqo rfl fun K151 hK152 => ow_append (R := RR) (L := [⟨b34, #[.string ⟨((l[k]'hlt).1).toArray⟩, .string ⟨((l[k]'hlt).2).toArray⟩], 52⟩, ⟨b5, #[.string ⟨(key).toArray⟩, .string ⟨(x).toArray⟩], 52⟩]) (E := 52) (sz := 2) (bytes := 32) (news := [.string ⟨((l[k]'hlt).1).toArray⟩, .string ⟨((l[k]'hlt).2).toArray⟩]) hs153 hrow (by kernel_rfl) rfl rfl rfl rfl rfl rfl (SliceAt.news (m := 2) (hs153.imm hb147) rfl) (ones_old (.cons trivial (.cons trivial .nil))) (by simp only [maxLen]; have hz := putS_length key x (l.take k) ([], false); simp only [List.length_take, List.length_nil, putS] at hz ⊢; omega) (by have hz := putS_length key x (l.take k) ([], false); simp only [List.length_take, List.length_nil, putS] at hz ⊢; omega) rfl ?_
        rintro v154 R155 w156 hr157 hs158 hf159
        replace hs158 : St w0 I (ids []) G5 (R155 ++ ([⟨b34, #[.string ⟨((l[k]'hlt).1).toArray⟩, .string ⟨((l[k]'hlt).2).toArray⟩], 52⟩, ⟨b5, #[.string ⟨(key).toArray⟩, .string ⟨(x).toArray⟩], 52⟩] : List Bx)) w156 := hs158; clear hs153 hf159
        refine hK152 _ _ ?_; clear hK152 K151
        refine sq (r_assign rfl) rfl ?_
        refine wl_nil ?_
        refine hK29 _ _ ?_; (try clear hK29 K28)
        refine wl_begin ?_
        refine sq (r_addi rfl rfl rfl rfl (by omega)) rfl ?_
        refine sq (r_move rfl) rfl ?_
        refine wl_nil ?_
        have hs160 : St w0 I (ids []) G5 (⟨b34, #[.string ⟨((l[k]'hlt).1).toArray⟩, .string ⟨((l[k]'hlt).2).toArray⟩], 52⟩ :: (R155 ++ ([⟨b5, #[.string ⟨(key).toArray⟩, .string ⟨(x).toArray⟩], 52⟩] : List Bx))) w156 := hs158.perm (List.Perm.trans ((List.Perm.refl _).append_left _) (List.perm_middle (l₁ := (R155 : List Bx)) (a := (⟨b34, #[.string ⟨((l[k]'hlt).1).toArray⟩, .string ⟨((l[k]'hlt).2).toArray⟩], 52⟩ : Bx)) (l₂ := [⟨b5, #[.string ⟨(key).toArray⟩, .string ⟨(x).toArray⟩], 52⟩]))); clear hs158
        have hs161 : St w0 I (ids []) G5 (R155 ++ ([⟨b5, #[.string ⟨(key).toArray⟩, .string ⟨(x).toArray⟩], 52⟩] : List Bx)) w156 := hs160.drop
        have hs162 : St w0 I (ids []) G5 (⟨b5, #[.string ⟨(key).toArray⟩, .string ⟨(x).toArray⟩], 52⟩ :: (R155 ++ [])) w156 := hs161.perm (List.Perm.trans ((List.Perm.refl _).append_left _) (List.perm_middle (l₁ := (R155 : List Bx)) (a := (⟨b5, #[.string ⟨(key).toArray⟩, .string ⟨(x).toArray⟩], 52⟩ : Bx)) (l₂ := []))); clear hs161
        have hput : putS (l.take (k + 1)) key x = ((putS (l.take k) key x).1 ++ [l[k]'hlt], true) := by rw [List.take_succ_eq_append_getElem hlt, putS_snoc, putF_2 h136 (by assumption)]
        exact ⟨_, _, rfl, ⟨_, (k + 1), v154, R155, G5, rfl, updL_self (.cons rfl (.cons rfl (.cons rfl (.cons rfl (.cons rfl (.cons (congrArg Value.bool (by rw [hput]; exact h136)) (.cons rfl (.cons rfl (.cons rfl .nil))))))))), (le21.trans le148), (by omega), (by rw [hput]; simpa [spCells_append, spCells] using hr157), hs162⟩, (by omega)⟩
      ·
        have h163 : (decide ((l[k]'hlt).1 = key)) = true := by simpa using h140
        have p164 := of_decide_eq_true h163
        refine wp_skip ?_
        refine hK29 _ _ ?_; (try clear hK29 K28)
        refine wl_begin ?_
        refine sq (r_addi rfl rfl rfl rfl (by omega)) rfl ?_
        refine sq (r_move rfl) rfl ?_
        refine wl_nil ?_
        have hs165 : St w0 I (ids []) G1 (⟨b5, #[.string ⟨(key).toArray⟩, .string ⟨(x).toArray⟩], 52⟩ :: (RR ++ [])) w39 := hs40.drop
        have hput : putS (l.take (k + 1)) key x = ((putS (l.take k) key x).1, true) := by rw [List.take_succ_eq_append_getElem hlt, putS_snoc, putF_1 h136 (by assumption)]
        exact ⟨_, _, rfl, ⟨_, (k + 1), rv, RR, G1, rfl, updL_self (.cons rfl (.cons rfl (.cons rfl (.cons rfl (.cons rfl (.cons (congrArg Value.bool (by rw [hput]; exact h136)) (.cons rfl (.cons rfl (.cons rfl .nil))))))))), le21, (by omega), (by rw [hput]; exact hrow), hs165⟩, (by omega)⟩
  ·
    have p166 := of_decide_eq_false h26
    obtain rfl : k = l.length := by omega
    rw [List.take_length] at hrow
    refine wp_exit ?_
    refine hK13 _ _ ?_; (try clear hK13 K12)
    refine wp_seq_k fun K167 hK168 => ?_
    refine wp_seq_k fun K169 hK170 => ?_
    refine wl_begin ?_
    refine sq (r_move rfl) rfl ?_
    refine sq (r_not rfl rfl) rfl ?_
    refine wl_nil ?_
    refine hK170 _ _ ?_; (try clear hK170 K169)
    refine condS rfl rfl (fun h171 => ?_) (fun h171 => ?_)
    ·
      have h172 : ((putS (l.take l.length) key x).2) = false := by simpa using h171
      rw [List.take_length] at h171
      refine wl_begin ?_
      refine sq (r_move rfl) rfl ?_
      refine sq (r_loadN (m := 2) rfl (by kernel_rfl) rfl (hs20.box (.head _)) rfl rfl) rfl ?_
      refine sqo rfl fun K173 hK174 => ow_newimm (mk := fun b => .slice (some ⟨b, 0, none⟩) 1 1) hs20 (r_buildSlice (e := 52) (cells := #[.string ⟨(key).toArray⟩, .string ⟨(x).toArray⟩]) (.cons rfl rfl .nil) (by kernel_rfl)) rfl ?_
      rintro b175 G6 w176 hb177 le178 hs179 ge180
      clear hs20
      replace hb177 : G6 b175 = some (.cells #[.string ⟨(key).toArray⟩, .string ⟨(x).toArray⟩] 52 (0, 0)) := hb177
      refine hK174 _ _ ?_; clear hK174 K173
      have hs183 : St w0 I (ids []) G6 (RR ++ ([⟨b5, #[.string ⟨(key).toArray⟩, .string ⟨(x).toArray⟩], 52⟩] : List Bx)) w176 := hs179.perm (List.Perm.trans ((List.Perm.refl _).cons _) (List.perm_middle (l₁ := (RR : List Bx)) (a := (⟨b5, #[.string ⟨(key).toArray⟩, .string ⟨(x).toArray⟩], 52⟩ : Bx)) (l₂ := [])).symm); clear hs179
      refine sqo rfl fun K181 hK182 => ow_append (R := RR) (L := [⟨b5, #[.string ⟨(key).toArray⟩, .string ⟨(x).toArray⟩], 52⟩]) (E := 52) (sz := 2) (bytes := 32) (news := [.string ⟨(key).toArray⟩, .string ⟨(x).toArray⟩]) hs183 hrow (by kernel_rfl) rfl rfl rfl rfl rfl rfl (SliceAt.news (m := 2) (hs183.imm hb177) rfl) (ones_old (.cons trivial (.cons trivial .nil))) (by simp only [maxLen]; have hz := putS_length key x l ([], false); simp only [List.length_nil, putS] at hz ⊢; omega) (by have hz := putS_length key x l ([], false); simp only [List.length_nil, putS] at hz ⊢; omega) rfl ?_
      rintro v184 R185 w186 hr187 hs188 hf189
      replace hs188 : St w0 I (ids []) G6 (R185 ++ ([⟨b5, #[.string ⟨(key).toArray⟩, .string ⟨(x).toArray⟩], 52⟩] : List Bx)) w186 := hs188; clear hs183 hf189
      refine hK182 _ _ ?_; clear hK182 K181
      refine sq (r_assign rfl) rfl ?_
      refine wl_nil ?_
      refine hK168 _ _ ?_; (try clear hK168 K167)
      refine wp_seq_k fun K190 hK191 => ?_
      refine nrm (vals := [(0, .slice ad l.length cap), (1, .agg #[.string ⟨(key).toArray⟩, .string ⟨(x).toArray⟩]), (3, .pointer (some ⟨b5, 0, none⟩)), (4, .slice none 0 0), (5, v184), (6, .bool ((putS (l.take l.length) key x).2)), (9, .slice ad l.length cap), (10, .int .i64 ((l.length : Nat) : Int)), (11, .int .i64 ((l.length : Nat) : Int)), (40, .bool (!((putS (l.take l.length) key x).2)))]) (.cons rfl (.cons rfl (.cons rfl (.cons rfl (.cons rfl (.cons rfl (.cons rfl (.cons rfl (.cons rfl (.cons rfl .nil)))))))))) fun g192 => ?_
      refine wl_begin ?_
      refine sq (r_move rfl) rfl ?_
      refine sq (r_assign rfl) rfl ?_
      refine wl_nil ?_
      refine hK191 _ _ ?_; (try clear hK191 K190)
      refine wp_ret ?_
      obtain ⟨G7, le193, hs194, hz195⟩ := hs188.freezeRow (R := R185) (L := [⟨b5, #[.string ⟨(key).toArray⟩, .string ⟨(x).toArray⟩], 52⟩]) hr187 (fun _ h => by cases h); clear hs188
      replace hs194 : St w0 I (ids []) G7 [⟨b5, #[.string ⟨(key).toArray⟩, .string ⟨(x).toArray⟩], 52⟩] w186 := hs194
      exact leave (X' := []) (L := [⟨b5, #[.string ⟨(key).toArray⟩, .string ⟨(x).toArray⟩], 52⟩]) hs194 rfl (res_one (v := v184) rfl (.tmp rfl rfl .nil)) (by unfold putL; rw [if_neg (by have z : (!(putS l key x).2) = true := (by assumption); simpa using z)]; unfold SPairsAt; simpa [spCells_append, spCells] using hz195)
    ·
      have h196 : ((putS (l.take l.length) key x).2) = true := by simpa using h171
      rw [List.take_length] at h171
      refine wp_skip ?_
      refine hK168 _ _ ?_; (try clear hK168 K167)
      refine wp_seq_k fun K197 hK198 => ?_
      refine wl_begin ?_
      refine sq (r_move rfl) rfl ?_
      refine sq (r_assign rfl) rfl ?_
      refine wl_nil ?_
      refine hK198 _ _ ?_; (try clear hK198 K197)
      refine wp_ret ?_
      have hs199 : St w0 I (ids []) G1 (RR ++ ([⟨b5, #[.string ⟨(key).toArray⟩, .string ⟨(x).toArray⟩], 52⟩] : List Bx)) w19 := hs20.perm (List.Perm.trans ((List.Perm.refl _).cons _) (List.perm_middle (l₁ := (RR : List Bx)) (a := (⟨b5, #[.string ⟨(key).toArray⟩, .string ⟨(x).toArray⟩], 52⟩ : Bx)) (l₂ := [])).symm); clear hs20
      obtain ⟨G8, le200, hs201, hz202⟩ := hs199.freezeRow (R := RR) (L := [⟨b5, #[.string ⟨(key).toArray⟩, .string ⟨(x).toArray⟩], 52⟩]) hrow (fun _ h => by cases h); clear hs199
      replace hs201 : St w0 I (ids []) G8 [⟨b5, #[.string ⟨(key).toArray⟩, .string ⟨(x).toArray⟩], 52⟩] w19 := hs201
      exact leave (X' := []) (L := [⟨b5, #[.string ⟨(key).toArray⟩, .string ⟨(x).toArray⟩], 52⟩]) hs201 rfl (res_one (v := rv) rfl (.tmp rfl rfl .nil)) (by unfold putL; rw [if_pos (by have z : (!(putS l key x).2) = false := (by assumption); simpa using z)]; exact hz202)
end Go.Proofs.YtlnlodfnplkckaaDoor
/- The contracts of the reference of the bound. -/
namespace Go.Proofs.YtlnlodfnplkckaaDoor
set_option linter.unusedVariables false
set_option linter.unusedSimpArgs false
def iV (n : Nat) : Value := .int .i64 (n : Int)
/-- A slice of naturals. -/
def NatsAt (I : GH) (v : Value) (d : List Nat) : Prop := SliceAt I v d.length 1 (d.map iV)
theorem NatsAt.up {I J : GH} {v : Value} {l : List Nat} (h : NatsAt I v l) (hle : I.le J) : NatsAt J v l := SliceAt.up h hle
theorem NatsAt.one {I : GH} {v : Value} {l : List Nat} (h : NatsAt I v l) : One v := SliceAt.one h
theorem NatsAt.slc {I : GH} {v : Value} {l : List Nat} (h : NatsAt I v l) : ∃ ad cap, v = .slice ad l.length cap := by
  obtain ⟨a, cap, h1, _⟩ := h; exact ⟨a, cap, h1⟩
theorem NatsAt.at {I : GH} {ad : Option Addr} {cap i : Nat} {l : List Nat} (hs : NatsAt I (.slice ad l.length cap) l) (hi : i < l.length) :
    ∃ b off cs T fz, ad = some ⟨b, off, none⟩ ∧ I b = some (.cells cs T fz) ∧ cs[off + i * 1]? = some (.int .i64 ((l[i] : Nat) : Int)) := by
  have hne : l.map iV ≠ [] := fun e => by have := congrArg List.length e; simp at this; subst this; simp at hi
  obtain ⟨b, off, cs, T, fz, g1, g2, g3⟩ := SliceAt.open hs hne
  refine ⟨b, off, cs, T, fz, g1, g2, ?_⟩
  have h2 : (l.map iV)[i]? = some (iV l[i]) := by simp [hi]
  rw [← g3, List.getElem?_take, List.getElem?_drop, if_pos (by omega)] at h2
  rw [Nat.mul_one]
  simpa [iV] using h2
/-- The number of digits to the base 65536. -/
def valD : List Nat → Nat
  | [] => 0
  | x :: l => x + 65536 * valD l
theorem valD_append : ∀ (l : List Nat) (r : Nat), valD (l ++ [r]) = valD l + 65536 ^ l.length * r
  | [], r => by simp [valD]
  | x :: l, r => by
    simp only [List.cons_append, valD, valD_append l r, List.length_cons, Nat.pow_succ]
    rw [Nat.mul_add, ← Nat.mul_assoc, Nat.mul_comm (65536 ^ l.length) 65536, Nat.add_assoc]
theorem valD_lt : ∀ (l : List Nat), (∀ x ∈ l, x < 65536) → valD l < 65536 ^ l.length
  | [], _ => Nat.one_pos
  | x :: l, h => by
    have h1 := valD_lt l fun y hy => h y (.tail _ hy)
    have h2 := h x (.head _)
    simp only [valD, List.length_cons, Nat.pow_succ]
    omega
theorem times_step {d o : List Nat} {n c c' : Nat} (hlen : o.length < d.length) (hc : c' = c + d[o.length] * n) (H : valD o + 65536 ^ o.length * c = valD (d.take o.length) * n) :
    valD (o ++ [c' % 65536]) + 65536 ^ (o.length + 1) * (c' / 65536) = valD (d.take (o.length + 1)) * n := by
  rw [List.take_succ_eq_append_getElem hlen, valD_append, valD_append, List.length_take, Nat.min_eq_left (Nat.le_of_lt hlen), Nat.add_mul, ← H, Nat.pow_succ, Nat.mul_assoc (65536 ^ o.length) 65536, Nat.mul_assoc (65536 ^ o.length) d[o.length]]
  have h1 : 65536 ^ o.length * (c' % 65536) + 65536 ^ o.length * (65536 * (c' / 65536)) = 65536 ^ o.length * c' := by rw [← Nat.mul_add, Nat.mod_add_div]
  have h2 : 65536 ^ o.length * c' = 65536 ^ o.length * c + 65536 ^ o.length * (d[o.length] * n) := by rw [hc, Nat.mul_add]
  omega
theorem times_step2 {d o : List Nat} {n c : Nat} (hlen : d.length ≤ o.length) (H : valD o + 65536 ^ o.length * c = valD (d.take o.length) * n) :
    valD (o ++ [c % 65536]) + 65536 ^ (o.length + 1) * (c / 65536) = valD (d.take (o.length + 1)) * n := by
  rw [List.take_of_length_le (by omega)] at H
  rw [List.take_of_length_le (by omega), valD_append, ← H, Nat.pow_succ, Nat.mul_assoc (65536 ^ o.length) 65536]
  have h1 : 65536 ^ o.length * (c % 65536) + 65536 ^ o.length * (65536 * (c / 65536)) = 65536 ^ o.length * c := by rw [← Nat.mul_add, Nat.mod_add_div]
  omega
theorem times_stepI {d o : List Nat} {n c c' i : Nat} (hol : o.length = i) (hi : i < d.length) (hc : c' = c + d[i] * n) (H : valD o + 65536 ^ o.length * c = valD (d.take o.length) * n) :
    valD (o ++ [c' % 65536]) + 65536 ^ (o ++ [c' % 65536]).length * (c' / 65536) = valD (d.take (o ++ [c' % 65536]).length) * n := by
  subst hol; rw [List.length_append]; exact times_step hi hc H
theorem times_stepJ {d o : List Nat} {n c i : Nat} (hol : o.length = i) (hi : d.length ≤ i) (H : valD o + 65536 ^ o.length * c = valD (d.take o.length) * n) :
    valD (o ++ [c % 65536]) + 65536 ^ (o ++ [c % 65536]).length * (c / 65536) = valD (d.take (o ++ [c % 65536]).length) * n := by
  subst hol; rw [List.length_append]; exact times_step2 hi H
theorem half_step {x y k : Nat} (hx : x < 65536) (hy : 0 < y) (h1 : y * 2 ^ k ≤ x) (h2 : x < (y + 1) * 2 ^ k) : y / 2 * 2 ^ (k + 1) ≤ x ∧ x < (y / 2 + 1) * 2 ^ (k + 1) ∧ k + 1 ≤ 16 := by
  have e : ∀ z : Nat, z * 2 ^ (k + 1) = (2 * z) * 2 ^ k := fun z => by rw [Nat.pow_succ, Nat.mul_comm (2 ^ k) 2, ← Nat.mul_assoc, Nat.mul_comm z 2]
  refine ⟨?_, ?_, ?_⟩
  · rw [e]; exact Nat.le_trans (Nat.mul_le_mul_right _ (by omega)) h1
  · rw [e]; exact Nat.lt_of_lt_of_le h2 (Nat.mul_le_mul_right _ (by omega))
  · rcases Nat.lt_or_ge k 16 with h | h
    · exact h
    · have h3 : 2 ^ 16 ≤ 2 ^ k := Nat.pow_le_pow_right (by decide) h
      have h4 : 1 * 2 ^ k ≤ y * 2 ^ k := Nat.mul_le_mul_right _ hy
      omega
theorem top_lt {d : List Nat} {j k : Nat} (hd : ∀ x ∈ d, x < 65536) (hj : j < d.length) (h : valD d = valD (d.take (j + 1))) (hk : d[j] < 2 ^ k) : valD d < 2 ^ (16 * j + k) := by
  rw [h, List.take_succ_eq_append_getElem hj, valD_append, List.length_take, Nat.min_eq_left (Nat.le_of_lt hj)]
  have h1 := valD_lt (d.take j) fun x hx => hd x (List.mem_of_mem_take hx)
  rw [List.length_take, Nat.min_eq_left (Nat.le_of_lt hj)] at h1
  have h2 : 65536 ^ j * (d[j] + 1) ≤ 65536 ^ j * 2 ^ k := Nat.mul_le_mul_left _ hk
  have h3 : (2 : Nat) ^ (16 * j + k) = 65536 ^ j * 2 ^ k := by rw [Nat.pow_add, Nat.pow_mul]
  rw [h3]
  rw [Nat.mul_add, Nat.mul_one] at h2
  omega
theorem top_zero {d : List Nat} {j : Nat} (hj : j < d.length) (h : valD d = valD (d.take (j + 1))) (hk : d[j] = 0) : valD d = valD (d.take j) := by
  rw [h, List.take_succ_eq_append_getElem hj, valD_append, hk]; simp
set_option maxRecDepth 100000 in
theorem times_ok {I : GH} {v0 : Value} {d : List Nat} {n : Nat} (hda : NatsAt I v0 d) (hd : ∀ x ∈ d, x < 65536) (hl : d.length ≤ 1000) (hn : n ≤ 100) : Fn Tryd.prog 43 #[v0, .int .i64 ((n : Nat) : Int)] I [] (fun v J _ => ∃ o, NatsAt J v o ∧ valD o = valD d * n ∧ (∀ x ∈ o, x < 65536) ∧ o.length ≤ d.length + 1) := by
  obtain ⟨ad, cap, rfl⟩ := hda.slc
  refine enter (args := [.slice ad d.length cap, .int .i64 ((n : Nat) : Int)]) Tryd.func43 rfl rfl fun w0 hs0 => ?_
  refine wp_seq_k fun K1 hK2 => ?_
  refine wl_begin ?_
  refine sq (r_assign rfl) rfl ?_
  refine wl_nil ?_
  refine hK2 _ _ ?_; (try clear hK2 K1)
  refine wp_seq_k fun K3 hK4 => ?_
  refine wl_begin ?_
  refine sq (r_assign rfl) rfl ?_
  refine wl_nil ?_
  refine hK4 _ _ ?_; (try clear hK4 K3)
  refine wp_seq_k fun K5 hK6 => ?_
  refine wl_begin ?_
  refine sq (r_assign rfl) rfl ?_
  refine wl_nil ?_
  refine hK6 _ _ ?_; (try clear hK6 K5)
  refine wp_seq_k fun K7 hK8 => ?_
  refine wp_seq_k fun K9 hK10 => ?_
  refine wl_begin ?_
  refine sq (r_assign rfl) rfl ?_
  refine wl_nil ?_
  refine hK10 _ _ ?_; (try clear hK10 K9)
  refine wp_block ?_
  refine lp (σ := Nat) (fun m12 f13 w14 => ∃ (g11 : Nat → Value) (i : Nat) (c : Nat) (o : List Nat) (rv : Value) (RR : List Bx) (G1 : GH), m12 = d.length + 2 - i ∧ f13 = updL g11 [(0, .slice ad d.length cap), (1, .int .i64 ((n : Nat) : Int)), (4, .slice none 0 0), (5, rv), (6, .int .i64 ((c : Nat) : Int)), (7, .int .i64 ((i : Nat) : Int))] ∧ I.le G1 ∧ (o.length = i) ∧ (i ≤ d.length + 1) ∧ (RowAt 3 1 rv i (o.map iV) RR) ∧ (∀ x ∈ o, x < 65536) ∧ (valD o + 65536 ^ o.length * c = valD (d.take o.length) * n) ∧ (c ≤ 100) ∧ (d.length < i → c = 0) ∧ St w0 I (ids []) G1 (RR ++ []) w14) (fun m => m) (d.length + 2) ⟨_, 0, 0, [], _, [], I, rfl, updL_self (.cons rfl (.cons rfl (.cons rfl (.cons rfl (.cons rfl (.cons rfl .nil)))))), GH.le.refl _, rfl, (by omega), RowAt.nil _ _, (by intro x hx; cases hx), (by simp [valD]), (by omega), (by omega), hs0⟩ ?_
  clear hs0
  rintro m12 f13 w14 ⟨g11, i, c, o, rv, RR, G1, rfl, rfl, le16, hol, hil, hrow, hdg, H, hc, hcz, hs15⟩
  refine wp_seq_k fun K17 hK18 => ?_
  refine wp_seq_k fun K19 hK20 => ?_
  refine wl_begin ?_
  refine sq (r_move rfl) rfl ?_
  refine sq (r_move rfl) rfl ?_
  refine sq (r_lens rfl (by kernel_rfl) rfl) rfl ?_
  refine sq (r_lti rfl rfl rfl rfl) rfl ?_
  refine sq (r_move rfl) rfl ?_
  refine bsplit (decide (((i : Nat) : Int) < ((d.length : Nat) : Int))) (fun h21 => ?_) (fun h21 => ?_)
  ·
    have p22 := of_decide_eq_true h21
    refine sqN (wantedF rfl rfl rfl (congrArg Value.bool h21)) rfl ?_
    refine sqN (wantedF rfl rfl rfl (congrArg Value.bool h21)) rfl ?_
    refine sq (r_pick rfl rfl rfl (congrArg Value.bool h21)) rfl ?_
    refine wl_nil ?_
    refine hK20 _ _ ?_; (try clear hK20 K19)
    refine condT rfl rfl ?_
    refine wp_skip ?_
    refine hK18 _ _ ?_; (try clear hK18 K17)
    refine wp_seq_k fun K23 hK24 => ?_
    refine wp_block ?_
    refine wp_seq_k fun K25 hK26 => ?_
    refine wp_seq_k fun K27 hK28 => ?_
    refine wl_begin ?_
    refine sq (r_move rfl) rfl ?_
    refine sq (r_move rfl) rfl ?_
    refine sq (r_lens rfl (by kernel_rfl) rfl) rfl ?_
    refine sq (r_lti rfl rfl rfl rfl) rfl ?_
    refine wl_nil ?_
    refine hK28 _ _ ?_; (try clear hK28 K27)
    refine condT rfl (congrArg Value.bool h21) ?_
    refine nrm (vals := [(0, .slice ad d.length cap), (1, .int .i64 ((n : Nat) : Int)), (4, .slice none 0 0), (5, rv), (6, .int .i64 ((c : Nat) : Int)), (7, .int .i64 ((i : Nat) : Int)), (15, .bool true), (21, .bool (decide (((i : Nat) : Int) < ((d.length : Nat) : Int))))]) (.cons rfl (.cons rfl (.cons rfl (.cons rfl (.cons rfl (.cons rfl (.cons rfl (.cons rfl .nil)))))))) fun g29 => ?_
    have hin : o.length < d.length := by omega
    have hin2 : i < d.length := by omega
    have hdl := hd (d[i]'hin2) (List.getElem_mem hin2)
    have hdn : d[i]'hin2 * n ≤ 65535 * 100 := Nat.mul_le_mul (by omega) hn
    obtain ⟨b, off, cs, T0, fz, hbe, hb, hcs⟩ := NatsAt.at hda hin2
    cases hbe
    refine wl_begin ?_
    refine sq (r_move rfl) rfl ?_
    refine sq (r_move rfl) rfl ?_
    refine sq (r_move rfl) rfl ?_
    refine sq (r_index (e := 3) (sz := 1) (i := i) rfl rfl (by kernel_rfl) rfl rfl hin2) rfl ?_
    refine sq (r_load rfl (by kernel_rfl) rfl (hs15.imm (le16 _ _ hb)) hcs) rfl ?_
    refine sq (r_move rfl) rfl ?_
    refine sq (r_mulNi (a := (d[i]'hin2)) (b := n) rfl rfl rfl rfl (by omega)) rfl ?_
    refine sq (r_addNi (a := c) (b := ((d[i]'hin2) * n)) rfl rfl rfl rfl (by omega)) rfl ?_
    refine sq (r_assign rfl) rfl ?_
    refine wl_nil ?_
    refine hK26 _ _ ?_; (try clear hK26 K25)
    refine wp_seq_k fun K30 hK31 => ?_
    refine wl_begin ?_
    refine sq (r_move rfl) rfl ?_
    refine sq (r_move rfl) rfl ?_
    refine sq (r_remN (a := (c + ((d[i]'hin2) * n))) (b := 65536) rfl rfl rfl rfl (by omega)) rfl ?_
    refine sqo rfl fun K32 hK33 => ow_newimm (mk := fun b => .slice (some ⟨b, 0, none⟩) 1 1) hs15 (r_buildSlice (e := 3) (cells := #[.int .i64 ((((c + ((d[i]'hin2) * n)) % 65536) : Nat) : Int)]) (.cons rfl rfl .nil) (by kernel_rfl)) rfl ?_
    rintro b34 G2 w35 hb36 le37 hs38 ge39
    clear hs15
    replace hb36 : G2 b34 = some (.cells #[.int .i64 ((((c + ((d[i]'hin2) * n)) % 65536) : Nat) : Int)] 3 (0, 0)) := hb36
    refine hK33 _ _ ?_; clear hK33 K32
    refine sqo rfl fun K40 hK41 => ow_append (R := RR) (L := []) (E := 3) (sz := 1) (bytes := 8) (news := [.int .i64 ((((c + ((d[i]'hin2) * n)) % 65536) : Nat) : Int)]) hs38 hrow (by kernel_rfl) rfl rfl rfl rfl rfl rfl (SliceAt.news (m := 1) (hs38.imm hb36) rfl) (ones_old (.cons trivial .nil)) (by simp only [maxLen]; omega) (by omega) rfl ?_
    rintro v42 R43 w44 hr45 hs46 hf47
    replace hs46 : St w0 I (ids []) G2 (R43 ++ []) w44 := hs46; clear hs38 hf47
    refine hK41 _ _ ?_; clear hK41 K40
    refine sq (r_assign rfl) rfl ?_
    refine wl_nil ?_
    refine hK31 _ _ ?_; (try clear hK31 K30)
    refine nrm (vals := [(0, .slice (some ⟨b, off, none⟩) d.length cap), (1, .int .i64 ((n : Nat) : Int)), (4, .slice none 0 0), (5, v42), (6, .int .i64 (((c + ((d[i]'hin2) * n)) : Nat) : Int)), (7, .int .i64 ((i : Nat) : Int)), (15, .bool true), (21, .bool (decide (((i : Nat) : Int) < ((d.length : Nat) : Int))))]) (.cons rfl (.cons rfl (.cons rfl (.cons rfl (.cons rfl (.cons rfl (.cons rfl (.cons rfl .nil)))))))) fun g48 => ?_
    refine wl_begin ?_
    refine sq (r_move rfl) rfl ?_
    refine sq (r_quoN (a := (c + ((d[i]'hin2) * n))) (b := 65536) rfl rfl rfl rfl ⟨by omega, by omega⟩) rfl ?_
    refine sq (r_assign rfl) rfl ?_
    refine wl_nil ?_
    refine hK24 _ _ ?_; (try clear hK24 K23)
    refine wl_begin ?_
    refine sq (r_move rfl) rfl ?_
    refine sq (r_addNi (a := i) (b := 1) rfl rfl rfl rfl (by omega)) rfl ?_
    refine sq (r_assign rfl) rfl ?_
    refine wl_nil ?_
    exact ⟨_, _, rfl, ⟨_, (i + 1), ((c + ((d[i]'hin2) * n)) / 65536), (o ++ [(c + ((d[i]'hin2) * n)) % 65536]), v42, R43, G2, rfl, updL_self (.cons rfl (.cons rfl (.cons rfl (.cons rfl (.cons rfl (.cons rfl .nil)))))), (le16.trans le37), (by simp [hol]), (by omega), (by simpa [iV, hol] using hr45), (by intro y hy; rcases List.mem_append.1 hy with h | h; exact hdg y h; simp only [List.mem_singleton] at h; omega), (times_stepI hol hin2 rfl H), (by omega), (by omega), hs46⟩, (by omega)⟩
  ·
    have p49 := of_decide_eq_false h21
    refine sqG (wantedT rfl rfl rfl (congrArg Value.bool h21)) (r_move rfl) rfl ?_
    refine sqG (wantedT rfl rfl rfl (congrArg Value.bool h21)) (r_gti rfl rfl rfl rfl) rfl ?_
    refine sq (r_pick rfl rfl rfl (congrArg Value.bool h21)) rfl ?_
    refine wl_nil ?_
    refine hK20 _ _ ?_; (try clear hK20 K19)
    refine condS rfl rfl (fun h50 => ?_) (fun h50 => ?_)
    ·
      have p51 := of_decide_eq_true h50
      refine wp_skip ?_
      refine hK18 _ _ ?_; (try clear hK18 K17)
      refine wp_seq_k fun K52 hK53 => ?_
      refine wp_block ?_
      refine wp_seq_k fun K54 hK55 => ?_
      refine wp_seq_k fun K56 hK57 => ?_
      refine wl_begin ?_
      refine sq (r_move rfl) rfl ?_
      refine sq (r_move rfl) rfl ?_
      refine sq (r_lens rfl (by kernel_rfl) rfl) rfl ?_
      refine sq (r_lti rfl rfl rfl rfl) rfl ?_
      refine wl_nil ?_
      refine hK57 _ _ ?_; (try clear hK57 K56)
      refine condF rfl (congrArg Value.bool h21) ?_
      refine wp_skip ?_
      refine hK55 _ _ ?_; (try clear hK55 K54)
      refine wp_seq_k fun K58 hK59 => ?_
      refine nrm (vals := [(0, .slice ad d.length cap), (1, .int .i64 ((n : Nat) : Int)), (4, .slice none 0 0), (5, rv), (6, .int .i64 ((c : Nat) : Int)), (7, .int .i64 ((i : Nat) : Int)), (15, .bool (decide (0 < ((c : Nat) : Int)))), (21, .bool (decide (((i : Nat) : Int) < ((d.length : Nat) : Int))))]) (.cons rfl (.cons rfl (.cons rfl (.cons rfl (.cons rfl (.cons rfl (.cons rfl (.cons rfl .nil)))))))) fun g60 => ?_
      refine wl_begin ?_
      refine sq (r_move rfl) rfl ?_
      refine sq (r_move rfl) rfl ?_
      refine sq (r_remN (a := c) (b := 65536) rfl rfl rfl rfl (by omega)) rfl ?_
      refine sqo rfl fun K61 hK62 => ow_newimm (mk := fun b => .slice (some ⟨b, 0, none⟩) 1 1) hs15 (r_buildSlice (e := 3) (cells := #[.int .i64 (((c % 65536) : Nat) : Int)]) (.cons rfl rfl .nil) (by kernel_rfl)) rfl ?_
      rintro b63 G3 w64 hb65 le66 hs67 ge68
      clear hs15
      replace hb65 : G3 b63 = some (.cells #[.int .i64 (((c % 65536) : Nat) : Int)] 3 (0, 0)) := hb65
      refine hK62 _ _ ?_; clear hK62 K61
      refine sqo rfl fun K69 hK70 => ow_append (R := RR) (L := []) (E := 3) (sz := 1) (bytes := 8) (news := [.int .i64 (((c % 65536) : Nat) : Int)]) hs67 hrow (by kernel_rfl) rfl rfl rfl rfl rfl rfl (SliceAt.news (m := 1) (hs67.imm hb65) rfl) (ones_old (.cons trivial .nil)) (by simp only [maxLen]; omega) (by omega) rfl ?_
      rintro v71 R72 w73 hr74 hs75 hf76
      replace hs75 : St w0 I (ids []) G3 (R72 ++ []) w73 := hs75; clear hs67 hf76
      refine hK70 _ _ ?_; clear hK70 K69
      refine sq (r_assign rfl) rfl ?_
      refine wl_nil ?_
      refine hK59 _ _ ?_; (try clear hK59 K58)
      refine wl_begin ?_
      refine sq (r_move rfl) rfl ?_
      refine sq (r_quoN (a := c) (b := 65536) rfl rfl rfl rfl ⟨by omega, by omega⟩) rfl ?_
      refine sq (r_assign rfl) rfl ?_
      refine wl_nil ?_
      refine hK53 _ _ ?_; (try clear hK53 K52)
      refine wl_begin ?_
      refine sq (r_move rfl) rfl ?_
      refine sq (r_addNi (a := i) (b := 1) rfl rfl rfl rfl (by omega)) rfl ?_
      refine sq (r_assign rfl) rfl ?_
      refine wl_nil ?_
      exact ⟨_, _, rfl, ⟨_, (i + 1), (c / 65536), (o ++ [c % 65536]), v71, R72, G3, rfl, updL_self (.cons rfl (.cons rfl (.cons rfl (.cons rfl (.cons rfl (.cons rfl .nil)))))), (le16.trans le66), (by simp [hol]), (by omega), (by simpa [iV, hol] using hr74), (by intro y hy; rcases List.mem_append.1 hy with h | h; exact hdg y h; simp only [List.mem_singleton] at h; omega), (times_stepJ hol (by omega) H), (by omega), (by omega), hs75⟩, (by omega)⟩
    ·
      have p77 := of_decide_eq_false h50
      refine wp_exit ?_
      refine hK8 _ _ ?_; (try clear hK8 K7)
      refine wp_seq_k fun K78 hK79 => ?_
      refine wl_begin ?_
      refine sq (r_move rfl) rfl ?_
      refine sq (r_assign rfl) rfl ?_
      refine wl_nil ?_
      refine hK79 _ _ ?_; (try clear hK79 K78)
      refine wp_ret ?_
      obtain ⟨G4, le80, hs81, hz82⟩ := hs15.freezeRow (R := RR) (L := []) hrow (fun _ h => by cases h); clear hs15
      replace hs81 : St w0 I (ids []) G4 [] w14 := hs81
      exact leave (X' := []) (L := []) hs81 rfl (res_one (v := rv) rfl (.tmp rfl rfl .nil)) ⟨o, by unfold NatsAt; rw [hol]; exact hz82, by have hc0 : c = 0 := (by omega); rw [hc0, List.take_of_length_le (by omega)] at H; simpa using H, hdg, by omega⟩
set_option maxRecDepth 100000 in
theorem length_ok {I : GH} {v0 : Value} {d : List Nat} (hda : NatsAt I v0 d) (hd : ∀ x ∈ d, x < 65536) (hl : d.length ≤ 1000) : Fn Tryd.prog 44 #[v0] I [] (fun v J _ => ∃ r : Nat, v = .int .i64 ((r : Nat) : Int) ∧ valD d < 2 ^ r ∧ r ≤ 16 * d.length + 16 ∧ I = J) := by
  obtain ⟨ad, cap, rfl⟩ := hda.slc
  refine enter (args := [.slice ad d.length cap]) Tryd.func44 rfl rfl fun w0 hs0 => ?_
  refine wp_seq_k fun K1 hK2 => ?_
  refine wl_begin ?_
  refine sq (r_assign rfl) rfl ?_
  refine wl_nil ?_
  refine hK2 _ _ ?_; (try clear hK2 K1)
  refine wp_seq_k fun K3 hK4 => ?_
  refine wp_seq_k fun K5 hK6 => ?_
  refine wl_begin ?_
  refine sq (r_move rfl) rfl ?_
  refine sq (r_lens rfl (by kernel_rfl) rfl) rfl ?_
  refine sq (r_subi rfl rfl rfl rfl (by omega)) rfl ?_
  refine sq (r_assign rfl) rfl ?_
  refine wl_nil ?_
  refine hK6 _ _ ?_; (try clear hK6 K5)
  refine wp_block ?_
  refine lp (σ := Nat) (fun m8 f9 w10 => ∃ (g7 : Nat → Value) (j : Nat), m8 = 0 + j ∧ f9 = updL g7 [(0, .slice ad d.length cap), (3, .int .i64 (((j : Nat) : Int) - 1))] ∧ (j ≤ d.length) ∧ (valD d = valD (d.take j)) ∧ St w0 I (ids []) I [] w10) (fun m => m) (0 + d.length) ⟨_, d.length, rfl, updL_self (.cons rfl (.cons rfl .nil)), (Nat.le_refl _), (by rw [List.take_length]), hs0⟩ ?_
  clear hs0
  rintro m8 f9 w10 ⟨g7, j, rfl, rfl, hjd, hv, hs11⟩
  refine wp_seq_k fun K12 hK13 => ?_
  refine wp_seq_k fun K14 hK15 => ?_
  refine wl_begin ?_
  refine sq (r_move rfl) rfl ?_
  refine sq (r_gei rfl rfl rfl rfl) rfl ?_
  refine wl_nil ?_
  refine hK15 _ _ ?_; (try clear hK15 K14)
  refine condS rfl rfl (fun h16 => ?_) (fun h16 => ?_)
  ·
    have p17 := of_decide_eq_true h16
    obtain ⟨j, rfl⟩ : ∃ i, j = i + 1 := ⟨j - 1, by omega⟩
    have hjl : j < d.length := by omega
    have hxl := hd (d[j]'hjl) (List.getElem_mem hjl)
    obtain ⟨b, off, cs, T0, fz, hbe, hb, hcs⟩ := NatsAt.at hda hjl
    cases hbe
    refine wp_skip ?_
    refine hK13 _ _ ?_; (try clear hK13 K12)
    refine wp_seq_k fun K18 hK19 => ?_
    refine wp_block ?_
    refine wp_seq_k fun K20 hK21 => ?_
    refine nrm (vals := [(0, .slice (some ⟨b, off, none⟩) d.length cap), (3, .int .i64 ((j : Nat) : Int))]) (.cons rfl (.cons (congrArg (Value.int .i64) (show (((j + 1 : Nat) : Int) - 1 : Int) = ((j : Nat) : Int) by omega)) .nil)) fun g22 => ?_
    refine wl_begin ?_
    refine sq (r_assign rfl) rfl ?_
    refine wl_nil ?_
    refine hK21 _ _ ?_; (try clear hK21 K20)
    refine wp_seq_k fun K23 hK24 => ?_
    refine wp_seq_k fun K25 hK26 => ?_
    refine wl_begin ?_
    refine sq (r_move rfl) rfl ?_
    refine sq (r_move rfl) rfl ?_
    refine sq (r_index (e := 3) (sz := 1) (i := j) rfl rfl (by kernel_rfl) rfl rfl hjl) rfl ?_
    refine sq (r_load rfl (by kernel_rfl) rfl (hs11.imm hb) hcs) rfl ?_
    refine sq (r_assign rfl) rfl ?_
    refine wl_nil ?_
    refine hK26 _ _ ?_; (try clear hK26 K25)
    refine wp_block ?_
    refine lp (σ := Nat) (fun m28 f29 w30 => ∃ (g27 : Nat → Value) (y : Nat) (k : Nat), m28 = 0 + y ∧ f29 = updL g27 [(0, .slice (some ⟨b, off, none⟩) d.length cap), (3, .int .i64 ((j : Nat) : Int)), (4, .int .i64 ((k : Nat) : Int)), (5, .int .i64 ((y : Nat) : Int))] ∧ (y * 2 ^ k ≤ d[j]'hjl) ∧ (d[j]'hjl < (y + 1) * 2 ^ k) ∧ (k ≤ 16) ∧ St w0 I (ids []) I [] w30) (fun m => m) (0 + d[j]'hjl) ⟨_, (d[j]'hjl), 0, rfl, updL_self (.cons rfl (.cons rfl (.cons rfl (.cons rfl .nil)))), (by omega), (by omega), (by omega), hs11⟩ ?_
    clear hs11
    rintro m28 f29 w30 ⟨g27, y, k, rfl, rfl, hy1, hy2, hk16, hs31⟩
    refine wp_seq_k fun K32 hK33 => ?_
    refine wp_seq_k fun K34 hK35 => ?_
    refine wl_begin ?_
    refine sq (r_move rfl) rfl ?_
    refine sq (r_gti rfl rfl rfl rfl) rfl ?_
    refine wl_nil ?_
    refine hK35 _ _ ?_; (try clear hK35 K34)
    refine condS rfl rfl (fun h36 => ?_) (fun h36 => ?_)
    ·
      have p37 := of_decide_eq_true h36
      have hy0 : 0 < y := by omega
      have hyx : y ≤ d[j]'hjl := Nat.le_trans (Nat.le_mul_of_pos_right _ (Nat.two_pow_pos k)) hy1
      refine wp_skip ?_
      refine hK33 _ _ ?_; (try clear hK33 K32)
      refine wp_seq_k fun K38 hK39 => ?_
      refine wp_block ?_
      refine wl_begin ?_
      refine sq (r_move rfl) rfl ?_
      refine sq (r_addi rfl rfl rfl rfl (by omega)) rfl ?_
      refine sq (r_assign rfl) rfl ?_
      refine wl_nil ?_
      refine hK39 _ _ ?_; (try clear hK39 K38)
      refine wl_begin ?_
      refine sq (r_move rfl) rfl ?_
      refine sq (r_quoN (a := y) (b := 2) rfl rfl rfl rfl ⟨by omega, by omega⟩) rfl ?_
      refine sq (r_assign rfl) rfl ?_
      refine wl_nil ?_
      have hst := half_step hxl hy0 hy1 hy2
      exact ⟨_, _, rfl, ⟨_, (y / 2), (k + 1), rfl, updL_self (.cons rfl (.cons rfl (.cons rfl (.cons rfl .nil)))), hst.1, hst.2.1, hst.2.2, hs31⟩, (by omega)⟩
    ·
      have p40 := of_decide_eq_false h36
      have hy0 : y = 0 := by omega
      refine wp_exit ?_
      refine hK24 _ _ ?_; (try clear hK24 K23)
      refine wp_seq_k fun K41 hK42 => ?_
      refine wl_begin ?_
      refine sq (r_move rfl) rfl ?_
      refine sq (r_gti rfl rfl rfl rfl) rfl ?_
      refine wl_nil ?_
      refine hK42 _ _ ?_; (try clear hK42 K41)
      refine condS rfl rfl (fun h43 => ?_) (fun h43 => ?_)
      ·
        have p44 := of_decide_eq_true h43
        refine wp_seq_k fun K45 hK46 => ?_
        refine wl_begin ?_
        refine sq (r_move rfl) rfl ?_
        refine sq (r_muli rfl rfl rfl rfl (by omega)) rfl ?_
        refine sq (r_move rfl) rfl ?_
        refine sq (r_addi rfl rfl rfl rfl (by omega)) rfl ?_
        refine sq (r_assign rfl) rfl ?_
        refine wl_nil ?_
        refine hK46 _ _ ?_; (try clear hK46 K45)
        refine wp_ret ?_
        exact leave (X' := []) (L := []) hs31 rfl (res_one (v := .int .i64 ((16 * ((j : Nat) : Int)) + ((k : Nat) : Int))) rfl (.tmp rfl rfl .nil)) ⟨16 * j + k, by rw [Int.natCast_add, Int.natCast_mul]; rfl, top_lt hd hjl hv (by subst hy0; omega), by omega, rfl⟩
      ·
        have p47 := of_decide_eq_false h43
        refine wp_skip ?_
        refine hK19 _ _ ?_; (try clear hK19 K18)
        refine wl_begin ?_
        refine sq (r_move rfl) rfl ?_
        refine sq (r_subi rfl rfl rfl rfl (by omega)) rfl ?_
        refine sq (r_assign rfl) rfl ?_
        refine wl_nil ?_
        exact ⟨_, _, rfl, ⟨_, j, rfl, updL_self (.cons rfl (.cons rfl .nil)), (by omega), (top_zero hjl hv (by have z2 : k = 0 := (by omega); subst z2; omega)), hs31⟩, (by omega)⟩
  ·
    have p48 := of_decide_eq_false h16
    have hj0 : j = 0 := by omega
    refine wp_exit ?_
    refine hK4 _ _ ?_; (try clear hK4 K3)
    refine wp_seq_k fun K49 hK50 => ?_
    refine wl_begin ?_
    refine sq (r_assign rfl) rfl ?_
    refine wl_nil ?_
    refine hK50 _ _ ?_; (try clear hK50 K49)
    refine wp_ret ?_
    exact leave (X' := []) (L := []) hs11 rfl (res_one (v := .int .i64 0) rfl (.tmp rfl rfl .nil)) ⟨0, rfl, by rw [hv, hj0]; simp [valD], by omega, rfl⟩
end Go.Proofs.YtlnlodfnplkckaaDoor
/- The contracts of the bound of the reference, and of Fine. -/
namespace Go.Proofs.YtlnlodfnplkckaaDoor
set_option linter.unusedVariables false
set_option linter.unusedSimpArgs false
theorem nats_one {I : GH} {b : Nat} {T0 : TypeId} (hb : I b = some (.cells #[.int .i64 1] T0 (0, 0))) : NatsAt I (.slice (some ⟨b, 0, none⟩) 1 1) [1] :=
  ⟨_, 1, rfl, Nat.le_refl _, (fun h => by cases h), rfl, fun _ => ⟨b, 0, _, _, _, rfl, hb, rfl⟩⟩
set_option maxRecDepth 100000 in
theorem bound_ok {I : GH} {n : Nat} (hn : n ≤ 99) : Fn Tryd.prog 16 #[.int .i64 ((n : Nat) : Int)] I [] (fun v J _ => ∃ r : Nat, v = .int .i64 ((16 + r : Nat) : Int) ∧ (n + 1) ^ 6 < 2 ^ r) := by
  have hl0 : ([1] : List Nat).length = 1 := rfl
  refine enter (args := [.int .i64 ((n : Nat) : Int)]) Tryd.func16 rfl rfl fun w0 hs0 => ?_
  refine wp_seq_k fun K1 hK2 => ?_
  refine wl_begin ?_
  refine sq (r_assign rfl) rfl ?_
  refine wl_nil ?_
  refine hK2 _ _ ?_; (try clear hK2 K1)
  refine wp_seq_k fun K3 hK4 => ?_
  refine wl_begin ?_
  refine sqo rfl fun K5 hK6 => ow_newimm (mk := fun b => .slice (some ⟨b, 0, none⟩) 1 1) hs0 (r_buildSlice (e := 3) (cells := #[.int .i64 1]) (.cons rfl rfl .nil) (by kernel_rfl)) rfl ?_
  rintro b7 G1 w8 hb9 le10 hs11 ge12
  clear hs0
  replace hb9 : G1 b7 = some (.cells #[.int .i64 1] 3 (0, 0)) := hb9
  refine hK6 _ _ ?_; clear hK6 K5
  refine sq (r_assign rfl) rfl ?_
  refine wl_nil ?_
  refine hK4 _ _ ?_; (try clear hK4 K3)
  refine wp_seq_k fun K13 hK14 => ?_
  refine wp_seq_k fun K15 hK16 => ?_
  refine wl_begin ?_
  refine sq (r_assign rfl) rfl ?_
  refine wl_nil ?_
  refine hK16 _ _ ?_; (try clear hK16 K15)
  refine wp_block ?_
  refine wp_loop_rounds 7 ?_
  refine rounds_S (m := 6) ?_
  refine nrm (vals := [(0, .int .i64 ((n : Nat) : Int)), (2, .int .i64 0), (3, .slice (some ⟨b7, 0, none⟩) 1 1), (4, .int .i64 0)]) (.cons rfl (.cons rfl (.cons rfl (.cons rfl .nil)))) fun g17 => ?_
  refine wp_seq_k fun K18 hK19 => ?_
  refine wp_seq_k fun K20 hK21 => ?_
  refine wl_begin ?_
  refine sq (r_move rfl) rfl ?_
  refine sq (r_lti rfl rfl rfl rfl) rfl ?_
  refine wl_nil ?_
  refine hK21 _ _ ?_; (try clear hK21 K20)
  refine condT rfl rfl ?_
  refine wp_skip ?_
  refine hK19 _ _ ?_; (try clear hK19 K18)
  refine wp_seq_k fun K22 hK23 => ?_
  refine wp_block ?_
  refine wl_begin ?_
  refine sq (r_move rfl) rfl ?_
  refine sq (r_move rfl) rfl ?_
  refine sq (r_addNi (a := n) (b := 1) rfl rfl rfl rfl (by omega)) rfl ?_
  refine sqo rfl fun K24 hK25 => ow_call (X := []) (L := []) (lb := []) hs11 (times_ok (n := n + 1) (nats_one hb9) (by intro x hx; simp only [List.mem_singleton] at hx; omega) (by simp only [List.length_cons, List.length_nil] at *; omega) (by omega)) (by kernel_rfl) rfl rfl rfl rfl rfl ?_
  rintro nv26 G2 X1 w32 ⟨o27, hz28, hv29, hg30, hl31⟩ le35 hs33 hid34
  obtain rfl : X1 = [] := List.map_eq_nil_iff.1 hid34
  replace hs33 : St w0 I (ids []) G2 [] w32 := hs33
  clear hs11 hid34
  refine hK25 _ _ ?_; clear hK25 K24
  refine sq (r_assign rfl) rfl ?_
  refine wl_nil ?_
  refine hK23 _ _ ?_; (try clear hK23 K22)
  refine wl_begin ?_
  refine sq (r_move rfl) rfl ?_
  refine sq (r_addi rfl rfl rfl rfl (by omega)) rfl ?_
  refine sq (r_assign rfl) rfl ?_
  refine wl_nil ?_
  refine rounds_S (m := 5) ?_
  refine nrm (vals := [(0, .int .i64 ((n : Nat) : Int)), (2, .int .i64 0), (3, nv26), (4, .int .i64 1), (7, .bool true)]) (.cons rfl (.cons rfl (.cons rfl (.cons rfl (.cons rfl .nil))))) fun g36 => ?_
  refine wp_seq_k fun K37 hK38 => ?_
  refine wp_seq_k fun K39 hK40 => ?_
  refine wl_begin ?_
  refine sq (r_move rfl) rfl ?_
  refine sq (r_lti rfl rfl rfl rfl) rfl ?_
  refine wl_nil ?_
  refine hK40 _ _ ?_; (try clear hK40 K39)
  refine condT rfl rfl ?_
  refine wp_skip ?_
  refine hK38 _ _ ?_; (try clear hK38 K37)
  refine wp_seq_k fun K41 hK42 => ?_
  refine wp_block ?_
  refine wl_begin ?_
  refine sq (r_move rfl) rfl ?_
  refine sq (r_move rfl) rfl ?_
  refine sq (r_addNi (a := n) (b := 1) rfl rfl rfl rfl (by omega)) rfl ?_
  refine sqo rfl fun K43 hK44 => ow_call (X := []) (L := []) (lb := []) hs33 (times_ok (n := n + 1) hz28 hg30 (by simp only [List.length_cons, List.length_nil] at *; omega) (by omega)) (by kernel_rfl) rfl rfl rfl rfl rfl ?_
  rintro nv45 G3 X1 w51 ⟨o46, hz47, hv48, hg49, hl50⟩ le54 hs52 hid53
  obtain rfl : X1 = [] := List.map_eq_nil_iff.1 hid53
  replace hs52 : St w0 I (ids []) G3 [] w51 := hs52
  clear hs33 hid53
  refine hK44 _ _ ?_; clear hK44 K43
  refine sq (r_assign rfl) rfl ?_
  refine wl_nil ?_
  refine hK42 _ _ ?_; (try clear hK42 K41)
  refine wl_begin ?_
  refine sq (r_move rfl) rfl ?_
  refine sq (r_addi rfl rfl rfl rfl (by omega)) rfl ?_
  refine sq (r_assign rfl) rfl ?_
  refine wl_nil ?_
  refine rounds_S (m := 4) ?_
  refine nrm (vals := [(0, .int .i64 ((n : Nat) : Int)), (2, .int .i64 0), (3, nv45), (4, .int .i64 2), (7, .bool true)]) (.cons rfl (.cons rfl (.cons rfl (.cons rfl (.cons rfl .nil))))) fun g55 => ?_
  refine wp_seq_k fun K56 hK57 => ?_
  refine wp_seq_k fun K58 hK59 => ?_
  refine wl_begin ?_
  refine sq (r_move rfl) rfl ?_
  refine sq (r_lti rfl rfl rfl rfl) rfl ?_
  refine wl_nil ?_
  refine hK59 _ _ ?_; (try clear hK59 K58)
  refine condT rfl rfl ?_
  refine wp_skip ?_
  refine hK57 _ _ ?_; (try clear hK57 K56)
  refine wp_seq_k fun K60 hK61 => ?_
  refine wp_block ?_
  refine wl_begin ?_
  refine sq (r_move rfl) rfl ?_
  refine sq (r_move rfl) rfl ?_
  refine sq (r_addNi (a := n) (b := 1) rfl rfl rfl rfl (by omega)) rfl ?_
  refine sqo rfl fun K62 hK63 => ow_call (X := []) (L := []) (lb := []) hs52 (times_ok (n := n + 1) hz47 hg49 (by simp only [List.length_cons, List.length_nil] at *; omega) (by omega)) (by kernel_rfl) rfl rfl rfl rfl rfl ?_
  rintro nv64 G4 X1 w70 ⟨o65, hz66, hv67, hg68, hl69⟩ le73 hs71 hid72
  obtain rfl : X1 = [] := List.map_eq_nil_iff.1 hid72
  replace hs71 : St w0 I (ids []) G4 [] w70 := hs71
  clear hs52 hid72
  refine hK63 _ _ ?_; clear hK63 K62
  refine sq (r_assign rfl) rfl ?_
  refine wl_nil ?_
  refine hK61 _ _ ?_; (try clear hK61 K60)
  refine wl_begin ?_
  refine sq (r_move rfl) rfl ?_
  refine sq (r_addi rfl rfl rfl rfl (by omega)) rfl ?_
  refine sq (r_assign rfl) rfl ?_
  refine wl_nil ?_
  refine rounds_S (m := 3) ?_
  refine nrm (vals := [(0, .int .i64 ((n : Nat) : Int)), (2, .int .i64 0), (3, nv64), (4, .int .i64 3), (7, .bool true)]) (.cons rfl (.cons rfl (.cons rfl (.cons rfl (.cons rfl .nil))))) fun g74 => ?_
  refine wp_seq_k fun K75 hK76 => ?_
  refine wp_seq_k fun K77 hK78 => ?_
  refine wl_begin ?_
  refine sq (r_move rfl) rfl ?_
  refine sq (r_lti rfl rfl rfl rfl) rfl ?_
  refine wl_nil ?_
  refine hK78 _ _ ?_; (try clear hK78 K77)
  refine condT rfl rfl ?_
  refine wp_skip ?_
  refine hK76 _ _ ?_; (try clear hK76 K75)
  refine wp_seq_k fun K79 hK80 => ?_
  refine wp_block ?_
  refine wl_begin ?_
  refine sq (r_move rfl) rfl ?_
  refine sq (r_move rfl) rfl ?_
  refine sq (r_addNi (a := n) (b := 1) rfl rfl rfl rfl (by omega)) rfl ?_
  refine sqo rfl fun K81 hK82 => ow_call (X := []) (L := []) (lb := []) hs71 (times_ok (n := n + 1) hz66 hg68 (by simp only [List.length_cons, List.length_nil] at *; omega) (by omega)) (by kernel_rfl) rfl rfl rfl rfl rfl ?_
  rintro nv83 G5 X1 w89 ⟨o84, hz85, hv86, hg87, hl88⟩ le92 hs90 hid91
  obtain rfl : X1 = [] := List.map_eq_nil_iff.1 hid91
  replace hs90 : St w0 I (ids []) G5 [] w89 := hs90
  clear hs71 hid91
  refine hK82 _ _ ?_; clear hK82 K81
  refine sq (r_assign rfl) rfl ?_
  refine wl_nil ?_
  refine hK80 _ _ ?_; (try clear hK80 K79)
  refine wl_begin ?_
  refine sq (r_move rfl) rfl ?_
  refine sq (r_addi rfl rfl rfl rfl (by omega)) rfl ?_
  refine sq (r_assign rfl) rfl ?_
  refine wl_nil ?_
  refine rounds_S (m := 2) ?_
  refine nrm (vals := [(0, .int .i64 ((n : Nat) : Int)), (2, .int .i64 0), (3, nv83), (4, .int .i64 4), (7, .bool true)]) (.cons rfl (.cons rfl (.cons rfl (.cons rfl (.cons rfl .nil))))) fun g93 => ?_
  refine wp_seq_k fun K94 hK95 => ?_
  refine wp_seq_k fun K96 hK97 => ?_
  refine wl_begin ?_
  refine sq (r_move rfl) rfl ?_
  refine sq (r_lti rfl rfl rfl rfl) rfl ?_
  refine wl_nil ?_
  refine hK97 _ _ ?_; (try clear hK97 K96)
  refine condT rfl rfl ?_
  refine wp_skip ?_
  refine hK95 _ _ ?_; (try clear hK95 K94)
  refine wp_seq_k fun K98 hK99 => ?_
  refine wp_block ?_
  refine wl_begin ?_
  refine sq (r_move rfl) rfl ?_
  refine sq (r_move rfl) rfl ?_
  refine sq (r_addNi (a := n) (b := 1) rfl rfl rfl rfl (by omega)) rfl ?_
  refine sqo rfl fun K100 hK101 => ow_call (X := []) (L := []) (lb := []) hs90 (times_ok (n := n + 1) hz85 hg87 (by simp only [List.length_cons, List.length_nil] at *; omega) (by omega)) (by kernel_rfl) rfl rfl rfl rfl rfl ?_
  rintro nv102 G6 X1 w108 ⟨o103, hz104, hv105, hg106, hl107⟩ le111 hs109 hid110
  obtain rfl : X1 = [] := List.map_eq_nil_iff.1 hid110
  replace hs109 : St w0 I (ids []) G6 [] w108 := hs109
  clear hs90 hid110
  refine hK101 _ _ ?_; clear hK101 K100
  refine sq (r_assign rfl) rfl ?_
  refine wl_nil ?_
  refine hK99 _ _ ?_; (try clear hK99 K98)
  refine wl_begin ?_
  refine sq (r_move rfl) rfl ?_
  refine sq (r_addi rfl rfl rfl rfl (by omega)) rfl ?_
  refine sq (r_assign rfl) rfl ?_
  refine wl_nil ?_
  refine rounds_S (m := 1) ?_
  refine nrm (vals := [(0, .int .i64 ((n : Nat) : Int)), (2, .int .i64 0), (3, nv102), (4, .int .i64 5), (7, .bool true)]) (.cons rfl (.cons rfl (.cons rfl (.cons rfl (.cons rfl .nil))))) fun g112 => ?_
  refine wp_seq_k fun K113 hK114 => ?_
  refine wp_seq_k fun K115 hK116 => ?_
  refine wl_begin ?_
  refine sq (r_move rfl) rfl ?_
  refine sq (r_lti rfl rfl rfl rfl) rfl ?_
  refine wl_nil ?_
  refine hK116 _ _ ?_; (try clear hK116 K115)
  refine condT rfl rfl ?_
  refine wp_skip ?_
  refine hK114 _ _ ?_; (try clear hK114 K113)
  refine wp_seq_k fun K117 hK118 => ?_
  refine wp_block ?_
  refine wl_begin ?_
  refine sq (r_move rfl) rfl ?_
  refine sq (r_move rfl) rfl ?_
  refine sq (r_addNi (a := n) (b := 1) rfl rfl rfl rfl (by omega)) rfl ?_
  refine sqo rfl fun K119 hK120 => ow_call (X := []) (L := []) (lb := []) hs109 (times_ok (n := n + 1) hz104 hg106 (by simp only [List.length_cons, List.length_nil] at *; omega) (by omega)) (by kernel_rfl) rfl rfl rfl rfl rfl ?_
  rintro nv121 G7 X1 w127 ⟨o122, hz123, hv124, hg125, hl126⟩ le130 hs128 hid129
  obtain rfl : X1 = [] := List.map_eq_nil_iff.1 hid129
  replace hs128 : St w0 I (ids []) G7 [] w127 := hs128
  clear hs109 hid129
  refine hK120 _ _ ?_; clear hK120 K119
  refine sq (r_assign rfl) rfl ?_
  refine wl_nil ?_
  refine hK118 _ _ ?_; (try clear hK118 K117)
  refine wl_begin ?_
  refine sq (r_move rfl) rfl ?_
  refine sq (r_addi rfl rfl rfl rfl (by omega)) rfl ?_
  refine sq (r_assign rfl) rfl ?_
  refine wl_nil ?_
  refine rounds_S (m := 0) ?_
  refine nrm (vals := [(0, .int .i64 ((n : Nat) : Int)), (2, .int .i64 0), (3, nv121), (4, .int .i64 6), (7, .bool true)]) (.cons rfl (.cons rfl (.cons rfl (.cons rfl (.cons rfl .nil))))) fun g131 => ?_
  refine wp_seq_k fun K132 hK133 => ?_
  refine wp_seq_k fun K134 hK135 => ?_
  refine wl_begin ?_
  refine sq (r_move rfl) rfl ?_
  refine sq (r_lti rfl rfl rfl rfl) rfl ?_
  refine wl_nil ?_
  refine hK135 _ _ ?_; (try clear hK135 K134)
  refine condF rfl rfl ?_
  refine wp_exit ?_
  refine hK14 _ _ ?_; (try clear hK14 K13)
  refine wp_seq_k fun K136 hK137 => ?_
  refine wl_begin ?_
  refine sq (r_move rfl) rfl ?_
  refine sqo rfl fun K138 hK139 => ow_call (X := []) (L := []) (lb := []) hs128 (length_ok hz123 hg125 (by simp only [List.length_cons, List.length_nil] at *; omega)) (by kernel_rfl) rfl rfl rfl rfl rfl ?_
  rintro _ _ X1 w143 ⟨r140, rfl, hr141, hb142, rfl⟩ - hs144 hid145
  obtain rfl : X1 = [] := List.map_eq_nil_iff.1 hid145
  replace hs144 : St w0 I (ids []) G7 [] w143 := hs144
  clear hs128 hid145
  refine hK139 _ _ ?_; clear hK139 K138
  refine sq (r_addNi (a := 17) (b := r140) rfl rfl rfl rfl (by omega)) rfl ?_
  refine sq (r_subNi (a := (17 + r140)) (b := 1) rfl rfl rfl rfl (by omega) (by omega)) rfl ?_
  refine sq (r_assign rfl) rfl ?_
  refine wl_nil ?_
  refine hK137 _ _ ?_; (try clear hK137 K136)
  refine wp_ret ?_
  exact leave (X' := []) (L := []) hs144 rfl (res_one (v := .int .i64 ((((17 + r140) - 1) : Nat) : Int)) rfl (.tmp rfl rfl .nil)) ⟨r140, by rw [show 17 + r140 - 1 = 16 + r140 by omega], by rw [hv124, hv105, hv86, hv67, hv48, hv29] at hr141; simpa [valD, Nat.pow_succ, Nat.mul_assoc] using hr141⟩
/-- Calls: their kinds, keys and values. -/
abbrev OpL := List (Int × Bs × Bs)
def OpCells (I : GH) : List Value → OpL → Prop
  | [], [] => True
  | c :: kv :: xv :: cs, p :: l => c = .int .i64 p.1 ∧ BytesAt I kv p.2.1 ∧ BytesAt I xv p.2.2 ∧ OpCells I cs l
  | _, _ => False
theorem OpCells.up {I J : GH} (hle : I.le J) : ∀ {cs : List Value} {l : OpL}, OpCells I cs l → OpCells J cs l
  | [], [], _ => trivial
  | _ :: _ :: _ :: _, _ :: _, ⟨h0, h1, h2, h3⟩ => ⟨h0, h1.up hle, h2.up hle, OpCells.up hle h3⟩
  | [], _ :: _, h => h.elim
  | [_], l, h => by cases l <;> exact h.elim
  | [_, _], l, h => by cases l <;> exact h.elim
  | _ :: _ :: _ :: _, [], h => h.elim
theorem OpCells.length {I : GH} : ∀ {cs : List Value} {l : OpL}, OpCells I cs l → cs.length = l.length * 3
  | [], [], _ => rfl
  | _ :: _ :: _ :: cs, _ :: l, ⟨_, _, _, h3⟩ => by have := OpCells.length h3; simp only [List.length_cons]; omega
  | [], _ :: _, h => h.elim
  | [_], l, h => by cases l <;> exact h.elim
  | [_, _], l, h => by cases l <;> exact h.elim
  | _ :: _ :: _ :: _, [], h => h.elim
theorem OpCells.get {I : GH} : ∀ {cs : List Value} {l : OpL} {i : Nat}, OpCells I cs l → (h : i < l.length) →
    ∃ kv xv, (cs.drop (i * 3)).take 3 = [.int .i64 l[i].1, kv, xv] ∧ BytesAt I kv l[i].2.1 ∧ BytesAt I xv l[i].2.2
  | c :: kv :: xv :: _, _ :: _, 0, ⟨h0, h1, h2, _⟩, _ => ⟨kv, xv, by rw [h0]; simp, h1, h2⟩
  | _ :: _ :: _ :: cs, _ :: l, i + 1, ⟨_, _, _, h3⟩, h => by
    obtain ⟨kv, xv, h4, h5, h6⟩ := OpCells.get h3 (i := i) (by simpa using h)
    refine ⟨kv, xv, ?_, h5, h6⟩
    rw [show (i + 1) * 3 = i * 3 + 1 + 1 + 1 by omega]
    simpa using h4
  | [], _ :: _, _, h, _ => h.elim
  | [_], l, _, h, _ => by cases l <;> exact h.elim
  | [_, _], l, _, h, _ => by cases l <;> exact h.elim
  | _ :: _ :: _ :: _, [], _, h, _ => h.elim
  | [], [], _, _, h => by simp at h
def OpsAt (I : GH) (v : Value) (l : OpL) : Prop := ∃ cs, SliceAt I v l.length 3 cs ∧ OpCells I cs l
theorem OpsAt.up {I J : GH} {v : Value} {l : OpL} (h : OpsAt I v l) (hle : I.le J) : OpsAt J v l := by
  obtain ⟨cs, h1, h2⟩ := h; exact ⟨cs, h1.up hle, h2.up hle⟩
theorem OpsAt.slc {I : GH} {v : Value} {l : OpL} (h : OpsAt I v l) : ∃ ad cap, v = .slice ad l.length cap := by
  obtain ⟨cs, ⟨a, cap, h1, _⟩, _⟩ := h; exact ⟨a, cap, h1⟩
theorem OpsAt.at {I : GH} {ad : Option Addr} {cap i : Nat} {l : OpL} (hs : OpsAt I (.slice ad l.length cap) l) (hi : i < l.length) :
    ∃ b off cs T fz kv xv, ad = some ⟨b, off, none⟩ ∧ I b = some (.cells cs T fz) ∧ (cs.toList.drop (off + i * 3)).take 3 = [.int .i64 l[i].1, kv, xv] ∧ BytesAt I kv l[i].2.1 ∧ BytesAt I xv l[i].2.2 := by
  obtain ⟨xs, h1, h2⟩ := hs
  have hne : xs ≠ [] := by
    intro e
    have := h2.length
    rw [e, List.length_nil] at this
    omega
  obtain ⟨b, off, cs, T, fz, g1, g2, g3⟩ := h1.open hne
  obtain ⟨kv, xv, k1, k2, k3⟩ := h2.get hi
  exact ⟨b, off, cs, T, fz, kv, xv, g1, g2, by rw [part_of g3 hi, k1], k2, k3⟩
def fineO (o : Int × Bs × Bs) : Bool := decide (o.2.1.length ≤ 100) && decide (o.2.2.length ≤ 100)
def fineB (l : OpL) (most : Nat) : Bool := decide (l.length ≤ most) && l.all fineO
theorem fine_no1 {l : OpL} {most : Nat} (h : most < l.length) : fineB l most = false := by
  unfold fineB; rw [show decide (l.length ≤ most) = false by simpa using h]; rfl
theorem fine_no2 {l : OpL} {most : Nat} {k : Nat} (hk : k < l.length) (h : fineO l[k] = false) : fineB l most = false := by
  unfold fineB
  rw [show l.all fineO = false by rw [List.all_eq_false]; exact ⟨_, List.getElem_mem hk, by simp [h]⟩, Bool.and_false]
theorem fine_yes {l : OpL} {most : Nat} (h0 : l.length ≤ most) (h : ∀ i, (hi : i < l.length) → i < l.length → fineO l[i] = true) : fineB l most = true := by
  unfold fineB
  rw [show decide (l.length ≤ most) = true by simpa using h0, Bool.true_and, List.all_eq_true]
  intro x hx
  obtain ⟨i, hi, rfl⟩ := List.getElem_of_mem hx
  exact h i hi hi
set_option maxRecDepth 100000 in
theorem fine_ok {I : GH} {v0 : Value} {l : OpL} {most : Nat} (hl : OpsAt I v0 l) (hll : l.length ≤ 9223372036854775807) : Fn Tryd.prog 11 #[v0, .int .i64 ((most : Nat) : Int)] I [] (fun v J _ => v = .bool (fineB l most) ∧ I = J) := by
  obtain ⟨ad, cap, rfl⟩ := hl.slc
  refine enter (args := [.slice ad l.length cap, .int .i64 ((most : Nat) : Int)]) Tryd.func11 rfl rfl fun w0 hs0 => ?_
  refine wp_seq_k fun K1 hK2 => ?_
  refine wl_begin ?_
  refine sq (r_assign rfl) rfl ?_
  refine wl_nil ?_
  refine hK2 _ _ ?_; (try clear hK2 K1)
  refine wp_seq_k fun K3 hK4 => ?_
  refine wp_seq_k fun K5 hK6 => ?_
  refine wl_begin ?_
  refine sq (r_move rfl) rfl ?_
  refine sq (r_lens rfl (by kernel_rfl) rfl) rfl ?_
  refine sq (r_move rfl) rfl ?_
  refine sq (r_gti rfl rfl rfl rfl) rfl ?_
  refine wl_nil ?_
  refine hK6 _ _ ?_; (try clear hK6 K5)
  refine condS rfl rfl (fun h7 => ?_) (fun h7 => ?_)
  ·
    have p8 := of_decide_eq_true h7
    refine wp_seq_k fun K9 hK10 => ?_
    refine wl_begin ?_
    refine sq (r_assign rfl) rfl ?_
    refine wl_nil ?_
    refine hK10 _ _ ?_; (try clear hK10 K9)
    refine wp_ret ?_
    exact leave (X' := []) (L := []) hs0 rfl (res_one (v := .bool false) rfl (.tmp rfl rfl .nil)) ⟨by rw [fine_no1 (by omega)], rfl⟩
  ·
    have p11 := of_decide_eq_false h7
    refine wp_skip ?_
    refine hK4 _ _ ?_; (try clear hK4 K3)
    refine wp_seq_k fun K12 hK13 => ?_
    refine wp_seq_k fun K14 hK15 => ?_
    refine wl_begin ?_
    refine sq (r_move rfl) rfl ?_
    refine sq (r_lens rfl (by kernel_rfl) rfl) rfl ?_
    refine sq (r_move rfl) rfl ?_
    refine wl_nil ?_
    refine hK15 _ _ ?_; (try clear hK15 K14)
    refine wp_block ?_
    refine lp (σ := Nat) (fun m17 f18 w19 => ∃ (g16 : Nat → Value) (k : Nat), m17 = l.length - k ∧ f18 = updL g16 [(0, .slice ad l.length cap), (1, .int .i64 ((most : Nat) : Int)), (10, .bool (decide (((most : Nat) : Int) < ((l.length : Nat) : Int)))), (11, .slice ad l.length cap), (12, .int .i64 ((l.length : Nat) : Int)), (13, .int .i64 ((k : Nat) : Int))] ∧ (k ≤ l.length) ∧ (∀ j, (hj : j < l.length) → j < k → fineO (l[j]'hj) = true) ∧ St w0 I (ids []) I [] w19) (fun m => m) (l.length) ⟨_, 0, rfl, updL_self (.cons rfl (.cons rfl (.cons rfl (.cons rfl (.cons rfl (.cons rfl .nil)))))), (Nat.zero_le _), (fun j _ h => absurd h (Nat.not_lt_zero _)), hs0⟩ ?_
    clear hs0
    rintro m17 f18 w19 ⟨g16, k, rfl, rfl, hkl, hn, hs20⟩
    refine wp_seq_k fun K21 hK22 => ?_
    refine wl_begin ?_
    refine sq (r_lti rfl rfl rfl rfl) rfl ?_
    refine wl_nil ?_
    refine hK22 _ _ ?_; (try clear hK22 K21)
    refine wp_seq_k fun K23 hK24 => ?_
    refine condS rfl rfl (fun h25 => ?_) (fun h25 => ?_)
    ·
      have p26 := of_decide_eq_true h25
      have hlt : k < l.length := by omega
      obtain ⟨b, off, cs, T0, fz, kv, xv, hbe, hb, hcs, hk, hx⟩ := OpsAt.at hl hlt
      cases hbe
      obtain ⟨ka, kc, rfl⟩ := bytes_slc hk
      obtain ⟨xa, xc, rfl⟩ := bytes_slc hx
      refine wp_skip ?_
      refine hK24 _ _ ?_; (try clear hK24 K23)
      refine wp_seq_k fun K27 hK28 => ?_
      refine wp_block ?_
      refine wp_seq_k fun K29 hK30 => ?_
      refine wl_begin ?_
      refine sq (r_index (e := 35) (sz := 3) (i := k) rfl rfl (by kernel_rfl) rfl rfl hlt) rfl ?_
      refine sq (r_loadN (m := 3) (vs := [.int .i64 (l[k]'hlt).1, .slice ka (l[k]'hlt).2.1.length kc, .slice xa (l[k]'hlt).2.2.length xc]) rfl (by kernel_rfl) rfl (hs20.imm hb) hcs rfl) rfl ?_
      refine sqo rfl fun K31 hK32 => ow_newbox (mk := fun b => .pointer (some ⟨b, 0, none⟩)) hs20 (r_alloc (cs := [.int .i64 0, .slice none 0 0, .slice none 0 0]) (by kernel_rfl)) rfl ?_
      rintro b33 w34 (hs35 : St w0 I (ids []) I [⟨b33, #[.int .i64 0, .slice none 0 0, .slice none 0 0], 35⟩] w34)
      clear hs20
      refine hK32 _ _ ?_; clear hK32 K31
      refine sqo rfl fun K36 hK37 => ow_store (vs := [.int .i64 (l[k]'hlt).1, .slice ka (l[k]'hlt).2.1.length kc, .slice xa (l[k]'hlt).2.2.length xc]) hs35 rfl rfl (by kernel_rfl) rfl rfl (.cons trivial (.cons trivial (.cons trivial .nil))) rfl ?_
      rintro w38 (hs39 : St w0 I (ids []) I [⟨b33, #[.int .i64 (l[k]'hlt).1, .slice ka (l[k]'hlt).2.1.length kc, .slice xa (l[k]'hlt).2.2.length xc], 35⟩] w38)
      clear hs35
      refine hK37 _ _ ?_; clear hK37 K36
      refine wl_nil ?_
      refine hK30 _ _ ?_; (try clear hK30 K29)
      refine wp_seq_k fun K40 hK41 => ?_
      refine wl_begin ?_
      refine sq (r_fieldAddr (off := 1) rfl (by kernel_rfl) rfl) rfl ?_
      refine sq (r_load rfl (by kernel_rfl) rfl (hs39.box (.head _)) rfl) rfl ?_
      refine sq (r_lens rfl (by kernel_rfl) rfl) rfl ?_
      refine sq (r_gti rfl rfl rfl rfl) rfl ?_
      refine sq (r_move rfl) rfl ?_
      refine bsplit (decide (100 < (((l[k]'hlt).2.1.length : Nat) : Int))) (fun h42 => ?_) (fun h42 => ?_)
      ·
        have p43 := of_decide_eq_true h42
        refine sqN (wantedF rfl rfl rfl (congrArg Value.bool h42)) rfl ?_
        refine sqN (wantedF rfl rfl rfl (congrArg Value.bool h42)) rfl ?_
        refine sqN (wantedF rfl rfl rfl (congrArg Value.bool h42)) rfl ?_
        refine sqN (wantedF rfl rfl rfl (congrArg Value.bool h42)) rfl ?_
        refine sq (r_pick rfl rfl rfl (congrArg Value.bool h42)) rfl ?_
        refine wl_nil ?_
        refine hK41 _ _ ?_; (try clear hK41 K40)
        refine condT rfl rfl ?_
        refine wp_seq_k fun K44 hK45 => ?_
        refine nrm (vals := [(0, .slice (some ⟨b, off, none⟩) l.length cap), (1, .int .i64 ((most : Nat) : Int)), (6, .pointer (some ⟨b33, 0, none⟩)), (10, .bool (decide (((most : Nat) : Int) < ((l.length : Nat) : Int)))), (11, .slice (some ⟨b, off, none⟩) l.length cap), (12, .int .i64 ((l.length : Nat) : Int)), (13, .int .i64 ((k : Nat) : Int)), (14, .bool (decide (((k : Nat) : Int) < ((l.length : Nat) : Int)))), (26, .bool true)]) (.cons rfl (.cons rfl (.cons rfl (.cons rfl (.cons rfl (.cons rfl (.cons rfl (.cons rfl (.cons rfl .nil))))))))) fun g46 => ?_
        refine wl_begin ?_
        refine sq (r_assign rfl) rfl ?_
        refine wl_nil ?_
        refine hK45 _ _ ?_; (try clear hK45 K44)
        refine wp_ret ?_
        exact leave (X' := []) (L := [⟨b33, #[.int .i64 (l[k]'hlt).1, .slice ka (l[k]'hlt).2.1.length kc, .slice xa (l[k]'hlt).2.2.length xc], 35⟩]) hs39 rfl (res_one (v := .bool false) rfl (.tmp rfl rfl .nil)) ⟨by rw [fine_no2 hlt (by unfold fineO; rw [Bool.and_eq_false_iff]; simp only [decide_eq_false_iff_not]; omega)], rfl⟩
      ·
        have p47 := of_decide_eq_false h42
        refine sqG (wantedT rfl rfl rfl (congrArg Value.bool h42)) (r_fieldAddr (off := 2) rfl (by kernel_rfl) rfl) rfl ?_
        refine sqG (wantedT rfl rfl rfl (congrArg Value.bool h42)) (r_load rfl (by kernel_rfl) rfl (hs39.box (.head _)) rfl) rfl ?_
        refine sqG (wantedT rfl rfl rfl (congrArg Value.bool h42)) (r_lens rfl (by kernel_rfl) rfl) rfl ?_
        refine sqG (wantedT rfl rfl rfl (congrArg Value.bool h42)) (r_gti rfl rfl rfl rfl) rfl ?_
        refine sq (r_pick rfl rfl rfl (congrArg Value.bool h42)) rfl ?_
        refine wl_nil ?_
        refine hK41 _ _ ?_; (try clear hK41 K40)
        refine condS rfl rfl (fun h48 => ?_) (fun h48 => ?_)
        ·
          have p49 := of_decide_eq_true h48
          refine wp_seq_k fun K50 hK51 => ?_
          refine nrm (vals := [(0, .slice (some ⟨b, off, none⟩) l.length cap), (1, .int .i64 ((most : Nat) : Int)), (6, .pointer (some ⟨b33, 0, none⟩)), (10, .bool (decide (((most : Nat) : Int) < ((l.length : Nat) : Int)))), (11, .slice (some ⟨b, off, none⟩) l.length cap), (12, .int .i64 ((l.length : Nat) : Int)), (13, .int .i64 ((k : Nat) : Int)), (14, .bool (decide (((k : Nat) : Int) < ((l.length : Nat) : Int)))), (26, .bool (decide (100 < (((l[k]'hlt).2.2.length : Nat) : Int))))]) (.cons rfl (.cons rfl (.cons rfl (.cons rfl (.cons rfl (.cons rfl (.cons rfl (.cons rfl (.cons rfl .nil))))))))) fun g52 => ?_
          refine wl_begin ?_
          refine sq (r_assign rfl) rfl ?_
          refine wl_nil ?_
          refine hK51 _ _ ?_; (try clear hK51 K50)
          refine wp_ret ?_
          exact leave (X' := []) (L := [⟨b33, #[.int .i64 (l[k]'hlt).1, .slice ka (l[k]'hlt).2.1.length kc, .slice xa (l[k]'hlt).2.2.length xc], 35⟩]) hs39 rfl (res_one (v := .bool false) rfl (.tmp rfl rfl .nil)) ⟨by rw [fine_no2 hlt (by unfold fineO; rw [Bool.and_eq_false_iff]; simp only [decide_eq_false_iff_not]; omega)], rfl⟩
        ·
          have p53 := of_decide_eq_false h48
          refine wp_skip ?_
          refine hK28 _ _ ?_; (try clear hK28 K27)
          refine nrm (vals := [(0, .slice (some ⟨b, off, none⟩) l.length cap), (1, .int .i64 ((most : Nat) : Int)), (6, .pointer (some ⟨b33, 0, none⟩)), (10, .bool (decide (((most : Nat) : Int) < ((l.length : Nat) : Int)))), (11, .slice (some ⟨b, off, none⟩) l.length cap), (12, .int .i64 ((l.length : Nat) : Int)), (13, .int .i64 ((k : Nat) : Int)), (14, .bool (decide (((k : Nat) : Int) < ((l.length : Nat) : Int)))), (26, .bool (decide (100 < (((l[k]'hlt).2.2.length : Nat) : Int))))]) (.cons rfl (.cons rfl (.cons rfl (.cons rfl (.cons rfl (.cons rfl (.cons rfl (.cons rfl (.cons rfl .nil))))))))) fun g54 => ?_
          refine wl_begin ?_
          refine sq (r_addi rfl rfl rfl rfl (by omega)) rfl ?_
          refine sq (r_move rfl) rfl ?_
          refine wl_nil ?_
          have hs55 : St w0 I (ids []) I [] w38 := hs39.drop
          exact ⟨_, _, rfl, ⟨_, (k + 1), rfl, updL_self (.cons rfl (.cons rfl (.cons rfl (.cons rfl (.cons rfl (.cons rfl .nil)))))), (by omega), (fun j hj hjk => if h : j < k then hn j hj h else by obtain rfl : j = k := (by omega); simp only [fineO, Bool.and_eq_true, decide_eq_true_eq]; omega), hs55⟩, (by omega)⟩
    ·
      have p56 := of_decide_eq_false h25
      obtain rfl : k = l.length := by omega
      refine wp_exit ?_
      refine hK13 _ _ ?_; (try clear hK13 K12)
      refine wp_seq_k fun K57 hK58 => ?_
      refine wl_begin ?_
      refine sq (r_assign rfl) rfl ?_
      refine wl_nil ?_
      refine hK58 _ _ ?_; (try clear hK58 K57)
      refine wp_ret ?_
      exact leave (X' := []) (L := []) hs20 rfl (res_one (v := .bool true) rfl (.tmp rfl rfl .nil)) ⟨by rw [fine_yes (by omega) hn], rfl⟩
end Go.Proofs.YtlnlodfnplkckaaDoor
/- The contract of a step of the law. -/
namespace Go.Proofs.YtlnlodfnplkckaaDoor
set_option linter.unusedVariables false
set_option linter.unusedSimpArgs false
/-- A call of a trie and of its model. -/
def stepN (s : Nat → UInt8) (kd : Int) (k x : Bs) (n : N) (l : List (Bs × Bs)) : N × List (Bs × Bs) × Bool × Nat × Nat :=
  if kd = 1 then ((N.ins (hashN s k) k x n 0).1, putL l k x, !((N.ins (hashN s k) k x n 0).2 == (getL l k).isSome), N.insV (hashN s k) k n 0, N.insC (hashN s k) k n 0)
  else if kd = 2 then ((N.rem (hashN s k) k n 0).getD n, withoutL l k, (N.rem (hashN s k) k n 0).isSome == (getL l k).isSome, N.remV (hashN s k) k n 0, N.remC (hashN s k) k n 0)
  else if kd = 3 then (n, l, ((N.endGet (hashN s k) k (N.way (hashN s k) n 0).1).isSome == (getL l k).isSome) && decide ((N.endGet (hashN s k) k (N.way (hashN s k) n 0).1).getD [] = (getL l k).getD []),
    (N.way (hashN s k) n 0).2 + N.endV (hashN s k) k (N.way (hashN s k) n 0).1, N.endC (hashN s k) k (N.way (hashN s k) n 0).1)
  else (n, l, true, 0, 0)
set_option maxRecDepth 100000 in
theorem step_ok {I : GH} {m : Option Nat} {v c : Nat} {s : Nat → UInt8} {n : N} {nv y0 kv xv : Value} {kd : Int} {k x : Bs} {l : List (Bs × Bs)} (ht : TabG I) (hst : StartG I) (h1 : k.length ≤ 1000000) (h2 : x.length ≤ 1000000) (hw : N.WF 0 0 n) (hsz : n.size ≤ 999000)
    (hn : NodeAt I nv n) (hk : BytesAt I kv k) (hx : BytesAt I xv x) (hy : SPairsAt I y0 l) (hxl : l.length ≤ 100000) (hkeys : ∀ p ∈ l, p.1.length ≤ 1000000000) :
    Fn Tryd.prog 15 #[.agg #[bV (s 0), bV (s 1), bV (s 2), bV (s 3), bV (s 4), bV (s 5), bV (s 6), bV (s 7), bV (s 8), bV (s 9), bV (s 10), bV (s 11), bV (s 12), bV (s 13), bV (s 14), bV (s 15), nv], y0, .agg #[.int .i64 kd, kv, xv], mV m] I (mX m v c) (fun r J X => ∃ u y, r = .tuple #[.agg #[bV (s 0), bV (s 1), bV (s 2), bV (s 3), bV (s 4), bV (s 5), bV (s 6), bV (s 7), bV (s 8), bV (s 9), bV (s 10), bV (s 11), bV (s 12), bV (s 13), bV (s 14), bV (s 15), u], y, .bool (stepN s kd k x n l).2.2.1] ∧ NodeAt J u (stepN s kd k x n l).1 ∧ SPairsAt J y (stepN s kd k x n l).2.1 ∧ X = mX m (v + (stepN s kd k x n l).2.2.2.1) (c + (stepN s kd k x n l).2.2.2.2)) := by
  refine enter (args := [.agg #[(bV (s 0)), (bV (s 1)), (bV (s 2)), (bV (s 3)), (bV (s 4)), (bV (s 5)), (bV (s 6)), (bV (s 7)), (bV (s 8)), (bV (s 9)), (bV (s 10)), (bV (s 11)), (bV (s 12)), (bV (s 13)), (bV (s 14)), (bV (s 15)), nv], y0, .agg #[.int .i64 kd, kv, xv], (mV m)]) Tryd.func15 rfl rfl fun w0 hs0 => ?_
  replace hs0 : St w0 I (ids (mX m (v) (c))) I (mX m (v) (c) ++ []) w0 := by simpa using hs0
  refine wp_seq_k fun K1 hK2 => ?_
  refine wl_begin ?_
  refine sqo rfl fun K3 hK4 => ow_newbox (mk := fun b => .pointer (some ⟨b, 0, none⟩)) hs0 (r_box rfl rfl) rfl ?_
  rintro b5 w6 (hs7 : St w0 I (ids (mX m (v) (c))) I (⟨b5, #[(bV (s 0)), (bV (s 1)), (bV (s 2)), (bV (s 3)), (bV (s 4)), (bV (s 5)), (bV (s 6)), (bV (s 7)), (bV (s 8)), (bV (s 9)), (bV (s 10)), (bV (s 11)), (bV (s 12)), (bV (s 13)), (bV (s 14)), (bV (s 15)), nv], 30⟩ :: (mX m (v) (c) ++ [])) w6)
  clear hs0
  refine hK4 _ _ ?_; clear hK4 K3
  refine sqo rfl fun K8 hK9 => ow_newbox (mk := fun b => .pointer (some ⟨b, 0, none⟩)) hs7 (r_box rfl rfl) rfl ?_
  rintro b10 w11 (hs12 : St w0 I (ids (mX m (v) (c))) I (⟨b10, #[.int .i64 kd, kv, xv], 35⟩ :: (⟨b5, #[(bV (s 0)), (bV (s 1)), (bV (s 2)), (bV (s 3)), (bV (s 4)), (bV (s 5)), (bV (s 6)), (bV (s 7)), (bV (s 8)), (bV (s 9)), (bV (s 10)), (bV (s 11)), (bV (s 12)), (bV (s 13)), (bV (s 14)), (bV (s 15)), nv], 30⟩ :: (mX m (v) (c) ++ []))) w11)
  clear hs7
  refine hK9 _ _ ?_; clear hK9 K8
  refine sqo rfl fun K13 hK14 => ow_newbox (mk := fun b => .pointer (some ⟨b, 0, none⟩)) hs12 (r_alloc (cs := [.int .u8 0, .int .u8 0, .int .u8 0, .int .u8 0, .int .u8 0, .int .u8 0, .int .u8 0, .int .u8 0, .int .u8 0, .int .u8 0, .int .u8 0, .int .u8 0, .int .u8 0, .int .u8 0, .int .u8 0, .int .u8 0, .nilIface]) (by kernel_rfl)) rfl ?_
  rintro b15 w16 (hs17 : St w0 I (ids (mX m (v) (c))) I (⟨b15, #[.int .u8 0, .int .u8 0, .int .u8 0, .int .u8 0, .int .u8 0, .int .u8 0, .int .u8 0, .int .u8 0, .int .u8 0, .int .u8 0, .int .u8 0, .int .u8 0, .int .u8 0, .int .u8 0, .int .u8 0, .int .u8 0, .nilIface], 30⟩ :: (⟨b10, #[.int .i64 kd, kv, xv], 35⟩ :: (⟨b5, #[(bV (s 0)), (bV (s 1)), (bV (s 2)), (bV (s 3)), (bV (s 4)), (bV (s 5)), (bV (s 6)), (bV (s 7)), (bV (s 8)), (bV (s 9)), (bV (s 10)), (bV (s 11)), (bV (s 12)), (bV (s 13)), (bV (s 14)), (bV (s 15)), nv], 30⟩ :: (mX m (v) (c) ++ [])))) w16)
  clear hs12
  refine hK14 _ _ ?_; clear hK14 K13
  refine sq (r_assign rfl) rfl ?_
  refine sq (r_assign rfl) rfl ?_
  refine wl_nil ?_
  refine hK2 _ _ ?_; (try clear hK2 K1)
  refine wp_seq_k fun K18 hK19 => ?_
  refine wl_begin ?_
  refine sq (r_fieldAddr (off := 1) rfl (by kernel_rfl) rfl) rfl ?_
  refine sq (r_load rfl (by kernel_rfl) rfl (hs17.box (.tail _ (.head _))) rfl) rfl ?_
  refine sq (r_bytesStr (e := 5) rfl (by kernel_rfl) (by kernel_rfl) rfl hk (fun _ _ z => hs17.imm z)) rfl ?_
  refine sq (r_assign rfl) rfl ?_
  refine wl_nil ?_
  refine hK19 _ _ ?_; (try clear hK19 K18)
  refine wp_seq_k fun K20 hK21 => ?_
  refine wl_begin ?_
  refine sq (r_move rfl) rfl ?_
  refine sq (r_move rfl) rfl ?_
  refine sqo rfl fun K22 hK23 => ow_call (X := []) (L := (⟨b15, #[.int .u8 0, .int .u8 0, .int .u8 0, .int .u8 0, .int .u8 0, .int .u8 0, .int .u8 0, .int .u8 0, .int .u8 0, .int .u8 0, .int .u8 0, .int .u8 0, .int .u8 0, .int .u8 0, .int .u8 0, .int .u8 0, .nilIface], 30⟩ :: (⟨b10, #[.int .i64 kd, kv, xv], 35⟩ :: (⟨b5, #[(bV (s 0)), (bV (s 1)), (bV (s 2)), (bV (s 3)), (bV (s 4)), (bV (s 5)), (bV (s 6)), (bV (s 7)), (bV (s 8)), (bV (s 9)), (bV (s 10)), (bV (s 11)), (bV (s 12)), (bV (s 13)), (bV (s 14)), (bV (s 15)), nv], 30⟩ :: (mX m (v) (c) ++ []))))) (lb := []) hs17 (refget_ok (key := k) hy (Nat.le_trans hxl (by decide))) (by kernel_rfl) rfl rfl rfl rfl rfl ?_
  rintro _ _ X1 w24 ⟨rfl, rfl⟩ - hs25 hid26
  obtain rfl : X1 = [] := List.map_eq_nil_iff.1 hid26
  replace hs25 : St w0 I (ids (mX m (v) (c))) I (⟨b15, #[.int .u8 0, .int .u8 0, .int .u8 0, .int .u8 0, .int .u8 0, .int .u8 0, .int .u8 0, .int .u8 0, .int .u8 0, .int .u8 0, .int .u8 0, .int .u8 0, .int .u8 0, .int .u8 0, .int .u8 0, .int .u8 0, .nilIface], 30⟩ :: (⟨b10, #[.int .i64 kd, kv, xv], 35⟩ :: (⟨b5, #[(bV (s 0)), (bV (s 1)), (bV (s 2)), (bV (s 3)), (bV (s 4)), (bV (s 5)), (bV (s 6)), (bV (s 7)), (bV (s 8)), (bV (s 9)), (bV (s 10)), (bV (s 11)), (bV (s 12)), (bV (s 13)), (bV (s 14)), (bV (s 15)), nv], 30⟩ :: (mX m (v) (c) ++ [])))) w24 := hs25
  clear hs17 hid26
  refine hK23 _ _ ?_; clear hK23 K22
  refine sq (r_move rfl) rfl ?_
  refine sq (r_extract rfl rfl rfl) rfl ?_
  refine sq (r_extract rfl rfl rfl) rfl ?_
  refine sq (r_assign rfl) rfl ?_
  refine sq (r_assign rfl) rfl ?_
  refine wl_nil ?_
  refine hK21 _ _ ?_; (try clear hK21 K20)
  refine wp_seq_k fun K27 hK28 => ?_
  refine wp_seq_k fun K29 hK30 => ?_
  refine nrm (vals := [(0, .agg #[(bV (s 0)), (bV (s 1)), (bV (s 2)), (bV (s 3)), (bV (s 4)), (bV (s 5)), (bV (s 6)), (bV (s 7)), (bV (s 8)), (bV (s 9)), (bV (s 10)), (bV (s 11)), (bV (s 12)), (bV (s 13)), (bV (s 14)), (bV (s 15)), nv]), (1, y0), (2, .agg #[.int .i64 kd, kv, xv]), (3, (mV m)), (4, .pointer (some ⟨b5, 0, none⟩)), (6, .pointer (some ⟨b10, 0, none⟩)), (8, .pointer (some ⟨b15, 0, none⟩)), (9, .slice none 0 0), (10, .bool false), (11, .string ⟨(k).toArray⟩), (12, .string ⟨(((getL l k).getD [])).toArray⟩), (13, .bool ((getL l k).isSome))]) (.cons rfl (.cons rfl (.cons rfl (.cons rfl (.cons rfl (.cons rfl (.cons rfl (.cons rfl (.cons rfl (.cons rfl (.cons rfl (.cons rfl .nil)))))))))))) fun g31 => ?_
  refine wl_begin ?_
  refine sq (r_fieldAddr (off := 0) rfl (by kernel_rfl) rfl) rfl ?_
  refine sq (r_load rfl (by kernel_rfl) rfl (hs25.box (.tail _ (.head _))) rfl) rfl ?_
  refine wl_nil ?_
  refine hK30 _ _ ?_; (try clear hK30 K29)
  refine wp_block ?_
  refine wp_seq_k fun K32 hK33 => ?_
  refine wl_begin ?_
  refine sq (r_eqi rfl rfl rfl rfl) rfl ?_
  refine sq (r_assign rfl) rfl ?_
  refine wl_nil ?_
  refine hK33 _ _ ?_; (try clear hK33 K32)
  refine condS rfl rfl (fun h34 => ?_) (fun h34 => ?_)
  ·
    have p35 := of_decide_eq_true h34
    refine wp_seq_k fun K36 hK37 => ?_
    refine wl_begin ?_
    refine sq (r_loadN (m := 17) (vs := [(bV (s 0)), (bV (s 1)), (bV (s 2)), (bV (s 3)), (bV (s 4)), (bV (s 5)), (bV (s 6)), (bV (s 7)), (bV (s 8)), (bV (s 9)), (bV (s 10)), (bV (s 11)), (bV (s 12)), (bV (s 13)), (bV (s 14)), (bV (s 15)), nv]) rfl (by kernel_rfl) rfl (hs25.box (.tail _ (.tail _ (.head _)))) (by kernel_rfl) rfl) rfl ?_
    refine sq (r_fieldAddr (off := 1) rfl (by kernel_rfl) rfl) rfl ?_
    refine sq (r_load rfl (by kernel_rfl) rfl (hs25.box (.tail _ (.head _))) rfl) rfl ?_
    refine sq (r_fieldAddr (off := 2) rfl (by kernel_rfl) rfl) rfl ?_
    refine sq (r_load rfl (by kernel_rfl) rfl (hs25.box (.tail _ (.head _))) rfl) rfl ?_
    refine sq (r_build (.cons rfl (One.cells (hk).one) (.cons rfl (One.cells (hx).one) .nil)) (cells := #[kv, xv]) (by kernel_rfl)) rfl ?_
    refine sq (r_move rfl) rfl ?_
    have hs42 : St w0 I (ids (mX m (v) (c))) I (mX m (v) (c) ++ ([⟨b15, #[.int .u8 0, .int .u8 0, .int .u8 0, .int .u8 0, .int .u8 0, .int .u8 0, .int .u8 0, .int .u8 0, .int .u8 0, .int .u8 0, .int .u8 0, .int .u8 0, .int .u8 0, .int .u8 0, .int .u8 0, .int .u8 0, .nilIface], 30⟩, ⟨b10, #[.int .i64 kd, kv, xv], 35⟩, ⟨b5, #[(bV (s 0)), (bV (s 1)), (bV (s 2)), (bV (s 3)), (bV (s 4)), (bV (s 5)), (bV (s 6)), (bV (s 7)), (bV (s 8)), (bV (s 9)), (bV (s 10)), (bV (s 11)), (bV (s 12)), (bV (s 13)), (bV (s 14)), (bV (s 15)), nv], 30⟩] : List Bx)) w24 := hs25.perm (List.Perm.trans ((List.Perm.trans ((List.Perm.trans ((List.Perm.refl _).cons _) (List.perm_middle (l₁ := (mX m (v) (c) : List Bx)) (a := (⟨b5, #[(bV (s 0)), (bV (s 1)), (bV (s 2)), (bV (s 3)), (bV (s 4)), (bV (s 5)), (bV (s 6)), (bV (s 7)), (bV (s 8)), (bV (s 9)), (bV (s 10)), (bV (s 11)), (bV (s 12)), (bV (s 13)), (bV (s 14)), (bV (s 15)), nv], 30⟩ : Bx)) (l₂ := [])).symm).cons _) (List.perm_middle (l₁ := (mX m (v) (c) : List Bx)) (a := (⟨b10, #[.int .i64 kd, kv, xv], 35⟩ : Bx)) (l₂ := [⟨b5, #[(bV (s 0)), (bV (s 1)), (bV (s 2)), (bV (s 3)), (bV (s 4)), (bV (s 5)), (bV (s 6)), (bV (s 7)), (bV (s 8)), (bV (s 9)), (bV (s 10)), (bV (s 11)), (bV (s 12)), (bV (s 13)), (bV (s 14)), (bV (s 15)), nv], 30⟩])).symm).cons _) (List.perm_middle (l₁ := (mX m (v) (c) : List Bx)) (a := (⟨b15, #[.int .u8 0, .int .u8 0, .int .u8 0, .int .u8 0, .int .u8 0, .int .u8 0, .int .u8 0, .int .u8 0, .int .u8 0, .int .u8 0, .int .u8 0, .int .u8 0, .int .u8 0, .int .u8 0, .int .u8 0, .int .u8 0, .nilIface], 30⟩ : Bx)) (l₂ := [⟨b10, #[.int .i64 kd, kv, xv], 35⟩, ⟨b5, #[(bV (s 0)), (bV (s 1)), (bV (s 2)), (bV (s 3)), (bV (s 4)), (bV (s 5)), (bV (s 6)), (bV (s 7)), (bV (s 8)), (bV (s 9)), (bV (s 10)), (bV (s 11)), (bV (s 12)), (bV (s 13)), (bV (s 14)), (bV (s 15)), nv], 30⟩])).symm); clear hs25
    refine sqo rfl fun K38 hK39 => ow_call (X := mX m (v) (c)) (L := [⟨b15, #[.int .u8 0, .int .u8 0, .int .u8 0, .int .u8 0, .int .u8 0, .int .u8 0, .int .u8 0, .int .u8 0, .int .u8 0, .int .u8 0, .int .u8 0, .int .u8 0, .int .u8 0, .int .u8 0, .int .u8 0, .int .u8 0, .nilIface], 30⟩, ⟨b10, #[.int .i64 kd, kv, xv], 35⟩, ⟨b5, #[(bV (s 0)), (bV (s 1)), (bV (s 2)), (bV (s 3)), (bV (s 4)), (bV (s 5)), (bV (s 6)), (bV (s 7)), (bV (s 8)), (bV (s 9)), (bV (s 10)), (bV (s 11)), (bV (s 12)), (bV (s 13)), (bV (s 14)), (bV (s 15)), nv], 30⟩]) (lb := []) hs42 (trie_put_ok ht hst h1 h2 hw hsz hn hk hx) (by kernel_rfl) rfl rfl rfl rfl rfl ?_
    rintro _ G1 X1 w43 ⟨u40, rfl, hn41, rfl⟩ le46 hs44 hid45
    replace hs44 : St w0 I (ids (mX m (v) (c))) G1 (mX m (v + N.insV (hashN s k) k n 0) (c + N.insC (hashN s k) k n 0) ++ ([⟨b15, #[.int .u8 0, .int .u8 0, .int .u8 0, .int .u8 0, .int .u8 0, .int .u8 0, .int .u8 0, .int .u8 0, .int .u8 0, .int .u8 0, .int .u8 0, .int .u8 0, .int .u8 0, .int .u8 0, .int .u8 0, .int .u8 0, .nilIface], 30⟩, ⟨b10, #[.int .i64 kd, kv, xv], 35⟩, ⟨b5, #[(bV (s 0)), (bV (s 1)), (bV (s 2)), (bV (s 3)), (bV (s 4)), (bV (s 5)), (bV (s 6)), (bV (s 7)), (bV (s 8)), (bV (s 9)), (bV (s 10)), (bV (s 11)), (bV (s 12)), (bV (s 13)), (bV (s 14)), (bV (s 15)), nv], 30⟩] : List Bx)) w43 := hs44
    clear hs42 hid45
    refine hK39 _ _ ?_; clear hK39 K38
    refine sq (r_move rfl) rfl ?_
    refine sq (r_extract rfl rfl rfl) rfl ?_
    refine sq (r_extract rfl rfl rfl) rfl ?_
    refine sqo rfl fun K47 hK48 => ow_newbox (mk := fun b => .pointer (some ⟨b, 0, none⟩)) hs44 (r_alloc (cs := [.int .u8 0, .int .u8 0, .int .u8 0, .int .u8 0, .int .u8 0, .int .u8 0, .int .u8 0, .int .u8 0, .int .u8 0, .int .u8 0, .int .u8 0, .int .u8 0, .int .u8 0, .int .u8 0, .int .u8 0, .int .u8 0, .nilIface]) (by kernel_rfl)) rfl ?_
    rintro b49 w50 (hs51 : St w0 I (ids (mX m (v) (c))) G1 (⟨b49, #[.int .u8 0, .int .u8 0, .int .u8 0, .int .u8 0, .int .u8 0, .int .u8 0, .int .u8 0, .int .u8 0, .int .u8 0, .int .u8 0, .int .u8 0, .int .u8 0, .int .u8 0, .int .u8 0, .int .u8 0, .int .u8 0, .nilIface], 30⟩ :: (mX m (v + N.insV (hashN s k) k n 0) (c + N.insC (hashN s k) k n 0) ++ ([⟨b15, #[.int .u8 0, .int .u8 0, .int .u8 0, .int .u8 0, .int .u8 0, .int .u8 0, .int .u8 0, .int .u8 0, .int .u8 0, .int .u8 0, .int .u8 0, .int .u8 0, .int .u8 0, .int .u8 0, .int .u8 0, .int .u8 0, .nilIface], 30⟩, ⟨b10, #[.int .i64 kd, kv, xv], 35⟩, ⟨b5, #[(bV (s 0)), (bV (s 1)), (bV (s 2)), (bV (s 3)), (bV (s 4)), (bV (s 5)), (bV (s 6)), (bV (s 7)), (bV (s 8)), (bV (s 9)), (bV (s 10)), (bV (s 11)), (bV (s 12)), (bV (s 13)), (bV (s 14)), (bV (s 15)), nv], 30⟩] : List Bx))) w50)
    clear hs44
    refine hK48 _ _ ?_; clear hK48 K47
    refine sqo rfl fun K52 hK53 => ow_storeK (vs := [(bV (s 0)), (bV (s 1)), (bV (s 2)), (bV (s 3)), (bV (s 4)), (bV (s 5)), (bV (s 6)), (bV (s 7)), (bV (s 8)), (bV (s 9)), (bV (s 10)), (bV (s 11)), (bV (s 12)), (bV (s 13)), (bV (s 14)), (bV (s 15)), u40]) (cs' := #[(bV (s 0)), (bV (s 1)), (bV (s 2)), (bV (s 3)), (bV (s 4)), (bV (s 5)), (bV (s 6)), (bV (s 7)), (bV (s 8)), (bV (s 9)), (bV (s 10)), (bV (s 11)), (bV (s 12)), (bV (s 13)), (bV (s 14)), (bV (s 15)), u40]) hs51 rfl rfl (by kernel_rfl) rfl rfl (.cons trivial (.cons trivial (.cons trivial (.cons trivial (.cons trivial (.cons trivial (.cons trivial (.cons trivial (.cons trivial (.cons trivial (.cons trivial (.cons trivial (.cons trivial (.cons trivial (.cons trivial (.cons trivial (.cons hn41.one .nil))))))))))))))))) (by kernel_rfl) (by kernel_rfl) ?_
    rintro w54 (hs55 : St w0 I (ids (mX m (v) (c))) G1 (⟨b49, #[(bV (s 0)), (bV (s 1)), (bV (s 2)), (bV (s 3)), (bV (s 4)), (bV (s 5)), (bV (s 6)), (bV (s 7)), (bV (s 8)), (bV (s 9)), (bV (s 10)), (bV (s 11)), (bV (s 12)), (bV (s 13)), (bV (s 14)), (bV (s 15)), u40], 30⟩ :: (mX m (v + N.insV (hashN s k) k n 0) (c + N.insC (hashN s k) k n 0) ++ ([⟨b15, #[.int .u8 0, .int .u8 0, .int .u8 0, .int .u8 0, .int .u8 0, .int .u8 0, .int .u8 0, .int .u8 0, .int .u8 0, .int .u8 0, .int .u8 0, .int .u8 0, .int .u8 0, .int .u8 0, .int .u8 0, .int .u8 0, .nilIface], 30⟩, ⟨b10, #[.int .i64 kd, kv, xv], 35⟩, ⟨b5, #[(bV (s 0)), (bV (s 1)), (bV (s 2)), (bV (s 3)), (bV (s 4)), (bV (s 5)), (bV (s 6)), (bV (s 7)), (bV (s 8)), (bV (s 9)), (bV (s 10)), (bV (s 11)), (bV (s 12)), (bV (s 13)), (bV (s 14)), (bV (s 15)), nv], 30⟩] : List Bx))) w54)
    clear hs51
    refine hK53 _ _ ?_; clear hK53 K52
    refine sq (r_assign rfl) rfl ?_
    refine wl_nil ?_
    refine hK37 _ _ ?_; (try clear hK37 K36)
    refine wp_seq_k fun K56 hK57 => ?_
    refine nrm (vals := [(0, .agg #[(bV (s 0)), (bV (s 1)), (bV (s 2)), (bV (s 3)), (bV (s 4)), (bV (s 5)), (bV (s 6)), (bV (s 7)), (bV (s 8)), (bV (s 9)), (bV (s 10)), (bV (s 11)), (bV (s 12)), (bV (s 13)), (bV (s 14)), (bV (s 15)), nv]), (1, y0), (2, .agg #[.int .i64 kd, kv, xv]), (3, (mV m)), (4, .pointer (some ⟨b5, 0, none⟩)), (6, .pointer (some ⟨b10, 0, none⟩)), (8, .pointer (some ⟨b15, 0, none⟩)), (9, .slice none 0 0), (10, .bool false), (11, .string ⟨(k).toArray⟩), (12, .string ⟨(((getL l k).getD [])).toArray⟩), (13, .bool ((getL l k).isSome)), (14, .pointer (some ⟨b49, 0, none⟩)), (15, .bool ((N.ins (hashN s k) k x n 0).2)), (30, .int .i64 kd), (31, .bool (decide (kd = 1)))]) (.cons rfl (.cons rfl (.cons rfl (.cons rfl (.cons rfl (.cons rfl (.cons rfl (.cons rfl (.cons rfl (.cons rfl (.cons rfl (.cons rfl (.cons rfl (.cons rfl (.cons rfl (.cons rfl .nil)))))))))))))))) fun g58 => ?_
    refine draw_begin (S := SS G1 [⟨b49, #[(bV (s 0)), (bV (s 1)), (bV (s 2)), (bV (s 3)), (bV (s 4)), (bV (s 5)), (bV (s 6)), (bV (s 7)), (bV (s 8)), (bV (s 9)), (bV (s 10)), (bV (s 11)), (bV (s 12)), (bV (s 13)), (bV (s 14)), (bV (s 15)), u40], 30⟩, ⟨b10, #[.int .i64 kd, kv, xv], 35⟩, ⟨b5, #[(bV (s 0)), (bV (s 1)), (bV (s 2)), (bV (s 3)), (bV (s 4)), (bV (s 5)), (bV (s 6)), (bV (s 7)), (bV (s 8)), (bV (s 9)), (bV (s 10)), (bV (s 11)), (bV (s 12)), (bV (s 13)), (bV (s 14)), (bV (s 15)), nv], 30⟩]) (by kernel_rfl) ?_
    have hs59 := hs55.drew; clear hs55
    have hss := hs59.ss (I := G1) (GH.le.refl _) (SubL.sub (.cons (.head _) (.cons (.tail _ (List.mem_append_right _ (.tail _ (.head _)))) (.cons (.tail _ (List.mem_append_right _ (.tail _ (.tail _ (.head _))))) .nil))))
    refine dt 0 rfl (by kernel_rfl) (fun _ _ _ h => h) hss (fun _ h => r_loadN (m := 17) (vs := [(bV (s 0)), (bV (s 1)), (bV (s 2)), (bV (s 3)), (bV (s 4)), (bV (s 5)), (bV (s 6)), (bV (s 7)), (bV (s 8)), (bV (s 9)), (bV (s 10)), (bV (s 11)), (bV (s 12)), (bV (s 13)), (bV (s 14)), (bV (s 15)), u40]) rfl (by kernel_rfl) rfl (h.box (.head _)) (by kernel_rfl) rfl) rfl ?_
    refine dt 1 rfl (by kernel_rfl) (fun _ _ _ h => h) hss (fun _ h => r_move rfl) rfl ?_
    refine dt 2 rfl (by kernel_rfl) (fun _ _ _ h => h) hss (fun _ h => r_move rfl) rfl ?_
    refine dt 3 rfl (by kernel_rfl) (fun _ _ _ h => h) hss (fun _ h => (r_fieldAddr (off := 2) rfl (by kernel_rfl) rfl)) rfl ?_
    refine dt 4 rfl (by kernel_rfl) (fun _ _ _ h => h) hss (fun _ h => r_load rfl (by kernel_rfl) rfl (h.box (.tail _ (.head _))) rfl) rfl ?_
    refine dt 5 rfl (by kernel_rfl) (fun _ _ _ h => h) hss (fun _ h => (r_bytesStr (e := 5) rfl (by kernel_rfl) (by kernel_rfl) rfl (hx.up le46) (fun _ _ z => h.imm z))) rfl ?_
    refine dt 6 rfl (by kernel_rfl) (fun _ _ _ h => h) hss (fun _ h => (r_build (.cons rfl rfl (.cons rfl rfl .nil)) (cells := #[.string ⟨(k).toArray⟩, .string ⟨(x).toArray⟩]) (by kernel_rfl))) rfl ?_
    refine dt 8 rfl (by kernel_rfl) (fun _ _ _ h => h) hss (fun _ h => r_move rfl) rfl ?_
    refine dt 9 rfl (by kernel_rfl) (fun _ _ _ h => h) hss (fun _ h => r_move rfl) rfl ?_
    refine dt 10 rfl (by kernel_rfl) (fun _ _ _ h => h) hss (fun _ h => (r_neb rfl rfl (by kernel_rfl) rfl rfl)) rfl ?_
    refine dro 7 (by kernel_rfl) rfl (ow_call (X := []) (L := (⟨b49, #[(bV (s 0)), (bV (s 1)), (bV (s 2)), (bV (s 3)), (bV (s 4)), (bV (s 5)), (bV (s 6)), (bV (s 7)), (bV (s 8)), (bV (s 9)), (bV (s 10)), (bV (s 11)), (bV (s 12)), (bV (s 13)), (bV (s 14)), (bV (s 15)), u40], 30⟩ :: (mX m (v + N.insV (hashN s k) k n 0) (c + N.insC (hashN s k) k n 0) ++ ([⟨b15, #[.int .u8 0, .int .u8 0, .int .u8 0, .int .u8 0, .int .u8 0, .int .u8 0, .int .u8 0, .int .u8 0, .int .u8 0, .int .u8 0, .int .u8 0, .int .u8 0, .int .u8 0, .int .u8 0, .int .u8 0, .int .u8 0, .nilIface], 30⟩, ⟨b10, #[.int .i64 kd, kv, xv], 35⟩, ⟨b5, #[(bV (s 0)), (bV (s 1)), (bV (s 2)), (bV (s 3)), (bV (s 4)), (bV (s 5)), (bV (s 6)), (bV (s 7)), (bV (s 8)), (bV (s 9)), (bV (s 10)), (bV (s 11)), (bV (s 12)), (bV (s 13)), (bV (s 14)), (bV (s 15)), nv], 30⟩] : List Bx)))) (lb := []) hs59 (refput_ok (key := k) (x := x) (hy.up le46) hxl hkeys) (by kernel_rfl) rfl rfl rfl rfl rfl ?_)
    rintro y60 G2 X1 w62 hy61 le65 hs63 hid64
    obtain rfl : X1 = [] := List.map_eq_nil_iff.1 hid64
    replace hs63 : St w0 I (ids (mX m (v) (c))) G2 (⟨b49, #[(bV (s 0)), (bV (s 1)), (bV (s 2)), (bV (s 3)), (bV (s 4)), (bV (s 5)), (bV (s 6)), (bV (s 7)), (bV (s 8)), (bV (s 9)), (bV (s 10)), (bV (s 11)), (bV (s 12)), (bV (s 13)), (bV (s 14)), (bV (s 15)), u40], 30⟩ :: (mX m (v + N.insV (hashN s k) k n 0) (c + N.insC (hashN s k) k n 0) ++ ([⟨b15, #[.int .u8 0, .int .u8 0, .int .u8 0, .int .u8 0, .int .u8 0, .int .u8 0, .int .u8 0, .int .u8 0, .int .u8 0, .int .u8 0, .int .u8 0, .int .u8 0, .int .u8 0, .int .u8 0, .int .u8 0, .int .u8 0, .nilIface], 30⟩, ⟨b10, #[.int .i64 kd, kv, xv], 35⟩, ⟨b5, #[(bV (s 0)), (bV (s 1)), (bV (s 2)), (bV (s 3)), (bV (s 4)), (bV (s 5)), (bV (s 6)), (bV (s 7)), (bV (s 8)), (bV (s 9)), (bV (s 10)), (bV (s 11)), (bV (s 12)), (bV (s 13)), (bV (s 14)), (bV (s 15)), nv], 30⟩] : List Bx))) w62 := hs63
    clear hs59 hid64
    replace hss := hs63.ss (I := G1) le65 (SubL.sub (.cons (.head _) (.cons (.tail _ (List.mem_append_right _ (.tail _ (.head _)))) (.cons (.tail _ (List.mem_append_right _ (.tail _ (.tail _ (.head _))))) .nil))))
    refine ⟨hss, ?_⟩
    have hs66 : St w0 I (ids (mX m (v) (c))) G2 (⟨b15, #[.int .u8 0, .int .u8 0, .int .u8 0, .int .u8 0, .int .u8 0, .int .u8 0, .int .u8 0, .int .u8 0, .int .u8 0, .int .u8 0, .int .u8 0, .int .u8 0, .int .u8 0, .int .u8 0, .int .u8 0, .int .u8 0, .nilIface], 30⟩ :: (⟨b49, #[(bV (s 0)), (bV (s 1)), (bV (s 2)), (bV (s 3)), (bV (s 4)), (bV (s 5)), (bV (s 6)), (bV (s 7)), (bV (s 8)), (bV (s 9)), (bV (s 10)), (bV (s 11)), (bV (s 12)), (bV (s 13)), (bV (s 14)), (bV (s 15)), u40], 30⟩ :: (mX m (v + N.insV (hashN s k) k n 0) (c + N.insC (hashN s k) k n 0) ++ ([⟨b10, #[.int .i64 kd, kv, xv], 35⟩, ⟨b5, #[(bV (s 0)), (bV (s 1)), (bV (s 2)), (bV (s 3)), (bV (s 4)), (bV (s 5)), (bV (s 6)), (bV (s 7)), (bV (s 8)), (bV (s 9)), (bV (s 10)), (bV (s 11)), (bV (s 12)), (bV (s 13)), (bV (s 14)), (bV (s 15)), nv], 30⟩] : List Bx)))) w62 := hs63.perm (List.Perm.trans ((List.Perm.trans ((List.Perm.refl _).append_left _) (List.perm_middle (l₁ := (mX m (v + N.insV (hashN s k) k n 0) (c + N.insC (hashN s k) k n 0) : List Bx)) (a := (⟨b15, #[.int .u8 0, .int .u8 0, .int .u8 0, .int .u8 0, .int .u8 0, .int .u8 0, .int .u8 0, .int .u8 0, .int .u8 0, .int .u8 0, .int .u8 0, .int .u8 0, .int .u8 0, .int .u8 0, .int .u8 0, .int .u8 0, .nilIface], 30⟩ : Bx)) (l₂ := [⟨b10, #[.int .i64 kd, kv, xv], 35⟩, ⟨b5, #[(bV (s 0)), (bV (s 1)), (bV (s 2)), (bV (s 3)), (bV (s 4)), (bV (s 5)), (bV (s 6)), (bV (s 7)), (bV (s 8)), (bV (s 9)), (bV (s 10)), (bV (s 11)), (bV (s 12)), (bV (s 13)), (bV (s 14)), (bV (s 15)), nv], 30⟩]))).cons _) (List.Perm.swap _ _ _)); clear hs63
    refine dro 11 (by kernel_rfl) rfl (ow_storeK (vs := [(bV (s 0)), (bV (s 1)), (bV (s 2)), (bV (s 3)), (bV (s 4)), (bV (s 5)), (bV (s 6)), (bV (s 7)), (bV (s 8)), (bV (s 9)), (bV (s 10)), (bV (s 11)), (bV (s 12)), (bV (s 13)), (bV (s 14)), (bV (s 15)), u40]) (cs' := #[(bV (s 0)), (bV (s 1)), (bV (s 2)), (bV (s 3)), (bV (s 4)), (bV (s 5)), (bV (s 6)), (bV (s 7)), (bV (s 8)), (bV (s 9)), (bV (s 10)), (bV (s 11)), (bV (s 12)), (bV (s 13)), (bV (s 14)), (bV (s 15)), u40]) hs66 rfl rfl (by kernel_rfl) rfl rfl (.cons trivial (.cons trivial (.cons trivial (.cons trivial (.cons trivial (.cons trivial (.cons trivial (.cons trivial (.cons trivial (.cons trivial (.cons trivial (.cons trivial (.cons trivial (.cons trivial (.cons trivial (.cons trivial (.cons hn41.one .nil))))))))))))))))) (by kernel_rfl) (by kernel_rfl) ?_)
    rintro w67 (hs68 : St w0 I (ids (mX m (v) (c))) G2 (⟨b15, #[(bV (s 0)), (bV (s 1)), (bV (s 2)), (bV (s 3)), (bV (s 4)), (bV (s 5)), (bV (s 6)), (bV (s 7)), (bV (s 8)), (bV (s 9)), (bV (s 10)), (bV (s 11)), (bV (s 12)), (bV (s 13)), (bV (s 14)), (bV (s 15)), u40], 30⟩ :: (⟨b49, #[(bV (s 0)), (bV (s 1)), (bV (s 2)), (bV (s 3)), (bV (s 4)), (bV (s 5)), (bV (s 6)), (bV (s 7)), (bV (s 8)), (bV (s 9)), (bV (s 10)), (bV (s 11)), (bV (s 12)), (bV (s 13)), (bV (s 14)), (bV (s 15)), u40], 30⟩ :: (mX m (v + N.insV (hashN s k) k n 0) (c + N.insC (hashN s k) k n 0) ++ ([⟨b10, #[.int .i64 kd, kv, xv], 35⟩, ⟨b5, #[(bV (s 0)), (bV (s 1)), (bV (s 2)), (bV (s 3)), (bV (s 4)), (bV (s 5)), (bV (s 6)), (bV (s 7)), (bV (s 8)), (bV (s 9)), (bV (s 10)), (bV (s 11)), (bV (s 12)), (bV (s 13)), (bV (s 14)), (bV (s 15)), nv], 30⟩] : List Bx)))) w67)
    clear hs66
    replace hss := hs68.ss (I := G1) le65 (SubL.sub (.cons (.tail _ (.head _)) (.cons (.tail _ (.tail _ (List.mem_append_right _ (.head _)))) (.cons (.tail _ (.tail _ (List.mem_append_right _ (.tail _ (.head _))))) .nil))))
    refine ⟨hss, ?_⟩
    refine dt 12 rfl (by kernel_rfl) (fun _ _ _ h => h) hss (fun _ h => r_assign rfl) rfl ?_
    refine dt 13 rfl (by kernel_rfl) (fun _ _ _ h => h) hss (fun _ h => r_assign rfl) rfl ?_
    refine nrmD (vals := [(0, .agg #[(bV (s 0)), (bV (s 1)), (bV (s 2)), (bV (s 3)), (bV (s 4)), (bV (s 5)), (bV (s 6)), (bV (s 7)), (bV (s 8)), (bV (s 9)), (bV (s 10)), (bV (s 11)), (bV (s 12)), (bV (s 13)), (bV (s 14)), (bV (s 15)), nv]), (1, y0), (2, .agg #[.int .i64 kd, kv, xv]), (3, (mV m)), (4, .pointer (some ⟨b5, 0, none⟩)), (6, .pointer (some ⟨b10, 0, none⟩)), (8, .pointer (some ⟨b15, 0, none⟩)), (9, y60), (10, .bool (!(((N.ins (hashN s k) k x n 0).2) == ((getL l k).isSome)))), (11, .string ⟨(k).toArray⟩), (12, .string ⟨(((getL l k).getD [])).toArray⟩), (13, .bool ((getL l k).isSome)), (14, .pointer (some ⟨b49, 0, none⟩)), (15, .bool ((N.ins (hashN s k) k x n 0).2)), (30, .int .i64 kd), (31, .bool (decide (kd = 1)))]) (.cons rfl (.cons rfl (.cons rfl (.cons rfl (.cons rfl (.cons rfl (.cons rfl (.cons rfl (.cons rfl (.cons rfl (.cons rfl (.cons rfl (.cons rfl (.cons rfl (.cons rfl (.cons rfl .nil)))))))))))))))) fun g69 => ?_
    refine draw_done (by kernel_rfl) ?_
    refine hK57 _ _ ?_; (try clear hK57 K56)
    refine wp_ret ?_
    have hs70 : St w0 I (ids (mX m (v) (c))) G2 (mX m (v + N.insV (hashN s k) k n 0) (c + N.insC (hashN s k) k n 0) ++ ([⟨b15, #[(bV (s 0)), (bV (s 1)), (bV (s 2)), (bV (s 3)), (bV (s 4)), (bV (s 5)), (bV (s 6)), (bV (s 7)), (bV (s 8)), (bV (s 9)), (bV (s 10)), (bV (s 11)), (bV (s 12)), (bV (s 13)), (bV (s 14)), (bV (s 15)), u40], 30⟩, ⟨b49, #[(bV (s 0)), (bV (s 1)), (bV (s 2)), (bV (s 3)), (bV (s 4)), (bV (s 5)), (bV (s 6)), (bV (s 7)), (bV (s 8)), (bV (s 9)), (bV (s 10)), (bV (s 11)), (bV (s 12)), (bV (s 13)), (bV (s 14)), (bV (s 15)), u40], 30⟩, ⟨b10, #[.int .i64 kd, kv, xv], 35⟩, ⟨b5, #[(bV (s 0)), (bV (s 1)), (bV (s 2)), (bV (s 3)), (bV (s 4)), (bV (s 5)), (bV (s 6)), (bV (s 7)), (bV (s 8)), (bV (s 9)), (bV (s 10)), (bV (s 11)), (bV (s 12)), (bV (s 13)), (bV (s 14)), (bV (s 15)), nv], 30⟩] : List Bx)) w67 := hs68.perm (List.Perm.trans ((List.Perm.trans ((List.Perm.refl _).cons _) (List.perm_middle (l₁ := (mX m (v + N.insV (hashN s k) k n 0) (c + N.insC (hashN s k) k n 0) : List Bx)) (a := (⟨b49, #[(bV (s 0)), (bV (s 1)), (bV (s 2)), (bV (s 3)), (bV (s 4)), (bV (s 5)), (bV (s 6)), (bV (s 7)), (bV (s 8)), (bV (s 9)), (bV (s 10)), (bV (s 11)), (bV (s 12)), (bV (s 13)), (bV (s 14)), (bV (s 15)), u40], 30⟩ : Bx)) (l₂ := [⟨b10, #[.int .i64 kd, kv, xv], 35⟩, ⟨b5, #[(bV (s 0)), (bV (s 1)), (bV (s 2)), (bV (s 3)), (bV (s 4)), (bV (s 5)), (bV (s 6)), (bV (s 7)), (bV (s 8)), (bV (s 9)), (bV (s 10)), (bV (s 11)), (bV (s 12)), (bV (s 13)), (bV (s 14)), (bV (s 15)), nv], 30⟩])).symm).cons _) (List.perm_middle (l₁ := (mX m (v + N.insV (hashN s k) k n 0) (c + N.insC (hashN s k) k n 0) : List Bx)) (a := (⟨b15, #[(bV (s 0)), (bV (s 1)), (bV (s 2)), (bV (s 3)), (bV (s 4)), (bV (s 5)), (bV (s 6)), (bV (s 7)), (bV (s 8)), (bV (s 9)), (bV (s 10)), (bV (s 11)), (bV (s 12)), (bV (s 13)), (bV (s 14)), (bV (s 15)), u40], 30⟩ : Bx)) (l₂ := [⟨b49, #[(bV (s 0)), (bV (s 1)), (bV (s 2)), (bV (s 3)), (bV (s 4)), (bV (s 5)), (bV (s 6)), (bV (s 7)), (bV (s 8)), (bV (s 9)), (bV (s 10)), (bV (s 11)), (bV (s 12)), (bV (s 13)), (bV (s 14)), (bV (s 15)), u40], 30⟩, ⟨b10, #[.int .i64 kd, kv, xv], 35⟩, ⟨b5, #[(bV (s 0)), (bV (s 1)), (bV (s 2)), (bV (s 3)), (bV (s 4)), (bV (s 5)), (bV (s 6)), (bV (s 7)), (bV (s 8)), (bV (s 9)), (bV (s 10)), (bV (s 11)), (bV (s 12)), (bV (s 13)), (bV (s 14)), (bV (s 15)), nv], 30⟩])).symm); clear hs68
    exact leave (X' := mX m (v + N.insV (hashN s k) k n 0) (c + N.insC (hashN s k) k n 0)) (L := [⟨b15, #[(bV (s 0)), (bV (s 1)), (bV (s 2)), (bV (s 3)), (bV (s 4)), (bV (s 5)), (bV (s 6)), (bV (s 7)), (bV (s 8)), (bV (s 9)), (bV (s 10)), (bV (s 11)), (bV (s 12)), (bV (s 13)), (bV (s 14)), (bV (s 15)), u40], 30⟩, ⟨b49, #[(bV (s 0)), (bV (s 1)), (bV (s 2)), (bV (s 3)), (bV (s 4)), (bV (s 5)), (bV (s 6)), (bV (s 7)), (bV (s 8)), (bV (s 9)), (bV (s 10)), (bV (s 11)), (bV (s 12)), (bV (s 13)), (bV (s 14)), (bV (s 15)), u40], 30⟩, ⟨b10, #[.int .i64 kd, kv, xv], 35⟩, ⟨b5, #[(bV (s 0)), (bV (s 1)), (bV (s 2)), (bV (s 3)), (bV (s 4)), (bV (s 5)), (bV (s 6)), (bV (s 7)), (bV (s 8)), (bV (s 9)), (bV (s 10)), (bV (s 11)), (bV (s 12)), (bV (s 13)), (bV (s 14)), (bV (s 15)), nv], 30⟩]) hs70 (mX_ids _ _ _ _ _) (res_many (vs := [.agg #[(bV (s 0)), (bV (s 1)), (bV (s 2)), (bV (s 3)), (bV (s 4)), (bV (s 5)), (bV (s 6)), (bV (s 7)), (bV (s 8)), (bV (s 9)), (bV (s 10)), (bV (s 11)), (bV (s 12)), (bV (s 13)), (bV (s 14)), (bV (s 15)), u40], y60, .bool (!(((N.ins (hashN s k) k x n 0).2) == ((getL l k).isSome)))]) rfl (.agg (m := 17) (us := [(bV (s 0)), (bV (s 1)), (bV (s 2)), (bV (s 3)), (bV (s 4)), (bV (s 5)), (bV (s 6)), (bV (s 7)), (bV (s 8)), (bV (s 9)), (bV (s 10)), (bV (s 11)), (bV (s 12)), (bV (s 13)), (bV (s 14)), (bV (s 15)), u40]) rfl rfl (by kernel_rfl) (hs70.box (List.mem_append_right _ (.head _))) (by kernel_rfl) rfl (.tmp rfl rfl (.tmp rfl rfl .nil))) rfl) (by have e : stepN s kd k x n l = _ := if_pos (by assumption); exact ⟨_, _, by rw [e], by rw [e]; exact (hn41.up le65), by rw [e]; exact hy61, by rw [e]⟩)
  ·
    have p71 := of_decide_eq_false h34
    refine wp_seq_k fun K72 hK73 => ?_
    refine wl_begin ?_
    refine sq (r_eqi rfl rfl rfl rfl) rfl ?_
    refine sq (r_assign rfl) rfl ?_
    refine wl_nil ?_
    refine hK73 _ _ ?_; (try clear hK73 K72)
    refine condS rfl rfl (fun h74 => ?_) (fun h74 => ?_)
    ·
      have p75 := of_decide_eq_true h74
      refine wp_seq_k fun K76 hK77 => ?_
      refine wl_begin ?_
      refine sq (r_loadN (m := 17) (vs := [(bV (s 0)), (bV (s 1)), (bV (s 2)), (bV (s 3)), (bV (s 4)), (bV (s 5)), (bV (s 6)), (bV (s 7)), (bV (s 8)), (bV (s 9)), (bV (s 10)), (bV (s 11)), (bV (s 12)), (bV (s 13)), (bV (s 14)), (bV (s 15)), nv]) rfl (by kernel_rfl) rfl (hs25.box (.tail _ (.tail _ (.head _)))) (by kernel_rfl) rfl) rfl ?_
      refine sq (r_fieldAddr (off := 1) rfl (by kernel_rfl) rfl) rfl ?_
      refine sq (r_load rfl (by kernel_rfl) rfl (hs25.box (.tail _ (.head _))) rfl) rfl ?_
      refine sq (r_move rfl) rfl ?_
      have hs82 : St w0 I (ids (mX m (v) (c))) I (mX m (v) (c) ++ ([⟨b15, #[.int .u8 0, .int .u8 0, .int .u8 0, .int .u8 0, .int .u8 0, .int .u8 0, .int .u8 0, .int .u8 0, .int .u8 0, .int .u8 0, .int .u8 0, .int .u8 0, .int .u8 0, .int .u8 0, .int .u8 0, .int .u8 0, .nilIface], 30⟩, ⟨b10, #[.int .i64 kd, kv, xv], 35⟩, ⟨b5, #[(bV (s 0)), (bV (s 1)), (bV (s 2)), (bV (s 3)), (bV (s 4)), (bV (s 5)), (bV (s 6)), (bV (s 7)), (bV (s 8)), (bV (s 9)), (bV (s 10)), (bV (s 11)), (bV (s 12)), (bV (s 13)), (bV (s 14)), (bV (s 15)), nv], 30⟩] : List Bx)) w24 := hs25.perm (List.Perm.trans ((List.Perm.trans ((List.Perm.trans ((List.Perm.refl _).cons _) (List.perm_middle (l₁ := (mX m (v) (c) : List Bx)) (a := (⟨b5, #[(bV (s 0)), (bV (s 1)), (bV (s 2)), (bV (s 3)), (bV (s 4)), (bV (s 5)), (bV (s 6)), (bV (s 7)), (bV (s 8)), (bV (s 9)), (bV (s 10)), (bV (s 11)), (bV (s 12)), (bV (s 13)), (bV (s 14)), (bV (s 15)), nv], 30⟩ : Bx)) (l₂ := [])).symm).cons _) (List.perm_middle (l₁ := (mX m (v) (c) : List Bx)) (a := (⟨b10, #[.int .i64 kd, kv, xv], 35⟩ : Bx)) (l₂ := [⟨b5, #[(bV (s 0)), (bV (s 1)), (bV (s 2)), (bV (s 3)), (bV (s 4)), (bV (s 5)), (bV (s 6)), (bV (s 7)), (bV (s 8)), (bV (s 9)), (bV (s 10)), (bV (s 11)), (bV (s 12)), (bV (s 13)), (bV (s 14)), (bV (s 15)), nv], 30⟩])).symm).cons _) (List.perm_middle (l₁ := (mX m (v) (c) : List Bx)) (a := (⟨b15, #[.int .u8 0, .int .u8 0, .int .u8 0, .int .u8 0, .int .u8 0, .int .u8 0, .int .u8 0, .int .u8 0, .int .u8 0, .int .u8 0, .int .u8 0, .int .u8 0, .int .u8 0, .int .u8 0, .int .u8 0, .int .u8 0, .nilIface], 30⟩ : Bx)) (l₂ := [⟨b10, #[.int .i64 kd, kv, xv], 35⟩, ⟨b5, #[(bV (s 0)), (bV (s 1)), (bV (s 2)), (bV (s 3)), (bV (s 4)), (bV (s 5)), (bV (s 6)), (bV (s 7)), (bV (s 8)), (bV (s 9)), (bV (s 10)), (bV (s 11)), (bV (s 12)), (bV (s 13)), (bV (s 14)), (bV (s 15)), nv], 30⟩])).symm); clear hs25
      refine sqo rfl fun K78 hK79 => ow_call (X := mX m (v) (c)) (L := [⟨b15, #[.int .u8 0, .int .u8 0, .int .u8 0, .int .u8 0, .int .u8 0, .int .u8 0, .int .u8 0, .int .u8 0, .int .u8 0, .int .u8 0, .int .u8 0, .int .u8 0, .int .u8 0, .int .u8 0, .int .u8 0, .int .u8 0, .nilIface], 30⟩, ⟨b10, #[.int .i64 kd, kv, xv], 35⟩, ⟨b5, #[(bV (s 0)), (bV (s 1)), (bV (s 2)), (bV (s 3)), (bV (s 4)), (bV (s 5)), (bV (s 6)), (bV (s 7)), (bV (s 8)), (bV (s 9)), (bV (s 10)), (bV (s 11)), (bV (s 12)), (bV (s 13)), (bV (s 14)), (bV (s 15)), nv], 30⟩]) (lb := []) hs82 (trie_delete_ok ht hst h1 hw hsz hn hk) (by kernel_rfl) rfl rfl rfl rfl rfl ?_
      rintro _ G3 X1 w83 ⟨u80, rfl, hn81, rfl⟩ le86 hs84 hid85
      replace hs84 : St w0 I (ids (mX m (v) (c))) G3 (mX m (v + N.remV (hashN s k) k n 0) (c + N.remC (hashN s k) k n 0) ++ ([⟨b15, #[.int .u8 0, .int .u8 0, .int .u8 0, .int .u8 0, .int .u8 0, .int .u8 0, .int .u8 0, .int .u8 0, .int .u8 0, .int .u8 0, .int .u8 0, .int .u8 0, .int .u8 0, .int .u8 0, .int .u8 0, .int .u8 0, .nilIface], 30⟩, ⟨b10, #[.int .i64 kd, kv, xv], 35⟩, ⟨b5, #[(bV (s 0)), (bV (s 1)), (bV (s 2)), (bV (s 3)), (bV (s 4)), (bV (s 5)), (bV (s 6)), (bV (s 7)), (bV (s 8)), (bV (s 9)), (bV (s 10)), (bV (s 11)), (bV (s 12)), (bV (s 13)), (bV (s 14)), (bV (s 15)), nv], 30⟩] : List Bx)) w83 := hs84
      clear hs82 hid85
      refine hK79 _ _ ?_; clear hK79 K78
      refine sq (r_move rfl) rfl ?_
      refine sq (r_extract rfl rfl rfl) rfl ?_
      refine sq (r_extract rfl rfl rfl) rfl ?_
      refine sqo rfl fun K87 hK88 => ow_newbox (mk := fun b => .pointer (some ⟨b, 0, none⟩)) hs84 (r_alloc (cs := [.int .u8 0, .int .u8 0, .int .u8 0, .int .u8 0, .int .u8 0, .int .u8 0, .int .u8 0, .int .u8 0, .int .u8 0, .int .u8 0, .int .u8 0, .int .u8 0, .int .u8 0, .int .u8 0, .int .u8 0, .int .u8 0, .nilIface]) (by kernel_rfl)) rfl ?_
      rintro b89 w90 (hs91 : St w0 I (ids (mX m (v) (c))) G3 (⟨b89, #[.int .u8 0, .int .u8 0, .int .u8 0, .int .u8 0, .int .u8 0, .int .u8 0, .int .u8 0, .int .u8 0, .int .u8 0, .int .u8 0, .int .u8 0, .int .u8 0, .int .u8 0, .int .u8 0, .int .u8 0, .int .u8 0, .nilIface], 30⟩ :: (mX m (v + N.remV (hashN s k) k n 0) (c + N.remC (hashN s k) k n 0) ++ ([⟨b15, #[.int .u8 0, .int .u8 0, .int .u8 0, .int .u8 0, .int .u8 0, .int .u8 0, .int .u8 0, .int .u8 0, .int .u8 0, .int .u8 0, .int .u8 0, .int .u8 0, .int .u8 0, .int .u8 0, .int .u8 0, .int .u8 0, .nilIface], 30⟩, ⟨b10, #[.int .i64 kd, kv, xv], 35⟩, ⟨b5, #[(bV (s 0)), (bV (s 1)), (bV (s 2)), (bV (s 3)), (bV (s 4)), (bV (s 5)), (bV (s 6)), (bV (s 7)), (bV (s 8)), (bV (s 9)), (bV (s 10)), (bV (s 11)), (bV (s 12)), (bV (s 13)), (bV (s 14)), (bV (s 15)), nv], 30⟩] : List Bx))) w90)
      clear hs84
      refine hK88 _ _ ?_; clear hK88 K87
      refine sqo rfl fun K92 hK93 => ow_storeK (vs := [(bV (s 0)), (bV (s 1)), (bV (s 2)), (bV (s 3)), (bV (s 4)), (bV (s 5)), (bV (s 6)), (bV (s 7)), (bV (s 8)), (bV (s 9)), (bV (s 10)), (bV (s 11)), (bV (s 12)), (bV (s 13)), (bV (s 14)), (bV (s 15)), u80]) (cs' := #[(bV (s 0)), (bV (s 1)), (bV (s 2)), (bV (s 3)), (bV (s 4)), (bV (s 5)), (bV (s 6)), (bV (s 7)), (bV (s 8)), (bV (s 9)), (bV (s 10)), (bV (s 11)), (bV (s 12)), (bV (s 13)), (bV (s 14)), (bV (s 15)), u80]) hs91 rfl rfl (by kernel_rfl) rfl rfl (.cons trivial (.cons trivial (.cons trivial (.cons trivial (.cons trivial (.cons trivial (.cons trivial (.cons trivial (.cons trivial (.cons trivial (.cons trivial (.cons trivial (.cons trivial (.cons trivial (.cons trivial (.cons trivial (.cons hn81.one .nil))))))))))))))))) (by kernel_rfl) (by kernel_rfl) ?_
      rintro w94 (hs95 : St w0 I (ids (mX m (v) (c))) G3 (⟨b89, #[(bV (s 0)), (bV (s 1)), (bV (s 2)), (bV (s 3)), (bV (s 4)), (bV (s 5)), (bV (s 6)), (bV (s 7)), (bV (s 8)), (bV (s 9)), (bV (s 10)), (bV (s 11)), (bV (s 12)), (bV (s 13)), (bV (s 14)), (bV (s 15)), u80], 30⟩ :: (mX m (v + N.remV (hashN s k) k n 0) (c + N.remC (hashN s k) k n 0) ++ ([⟨b15, #[.int .u8 0, .int .u8 0, .int .u8 0, .int .u8 0, .int .u8 0, .int .u8 0, .int .u8 0, .int .u8 0, .int .u8 0, .int .u8 0, .int .u8 0, .int .u8 0, .int .u8 0, .int .u8 0, .int .u8 0, .int .u8 0, .nilIface], 30⟩, ⟨b10, #[.int .i64 kd, kv, xv], 35⟩, ⟨b5, #[(bV (s 0)), (bV (s 1)), (bV (s 2)), (bV (s 3)), (bV (s 4)), (bV (s 5)), (bV (s 6)), (bV (s 7)), (bV (s 8)), (bV (s 9)), (bV (s 10)), (bV (s 11)), (bV (s 12)), (bV (s 13)), (bV (s 14)), (bV (s 15)), nv], 30⟩] : List Bx))) w94)
      clear hs91
      refine hK93 _ _ ?_; clear hK93 K92
      refine sq (r_assign rfl) rfl ?_
      refine wl_nil ?_
      refine hK77 _ _ ?_; (try clear hK77 K76)
      refine wp_seq_k fun K96 hK97 => ?_
      refine nrm (vals := [(0, .agg #[(bV (s 0)), (bV (s 1)), (bV (s 2)), (bV (s 3)), (bV (s 4)), (bV (s 5)), (bV (s 6)), (bV (s 7)), (bV (s 8)), (bV (s 9)), (bV (s 10)), (bV (s 11)), (bV (s 12)), (bV (s 13)), (bV (s 14)), (bV (s 15)), nv]), (1, y0), (2, .agg #[.int .i64 kd, kv, xv]), (3, (mV m)), (4, .pointer (some ⟨b5, 0, none⟩)), (6, .pointer (some ⟨b10, 0, none⟩)), (8, .pointer (some ⟨b15, 0, none⟩)), (9, .slice none 0 0), (10, .bool false), (11, .string ⟨(k).toArray⟩), (12, .string ⟨(((getL l k).getD [])).toArray⟩), (13, .bool ((getL l k).isSome)), (16, .pointer (some ⟨b89, 0, none⟩)), (17, .bool ((N.rem (hashN s k) k n 0).isSome)), (30, .int .i64 kd), (31, .bool (decide (kd = 1))), (55, .bool (decide (kd = 2)))]) (.cons rfl (.cons rfl (.cons rfl (.cons rfl (.cons rfl (.cons rfl (.cons rfl (.cons rfl (.cons rfl (.cons rfl (.cons rfl (.cons rfl (.cons rfl (.cons rfl (.cons rfl (.cons rfl (.cons rfl .nil))))))))))))))))) fun g98 => ?_
      refine draw_begin (S := SS G3 [⟨b89, #[(bV (s 0)), (bV (s 1)), (bV (s 2)), (bV (s 3)), (bV (s 4)), (bV (s 5)), (bV (s 6)), (bV (s 7)), (bV (s 8)), (bV (s 9)), (bV (s 10)), (bV (s 11)), (bV (s 12)), (bV (s 13)), (bV (s 14)), (bV (s 15)), u80], 30⟩, ⟨b10, #[.int .i64 kd, kv, xv], 35⟩, ⟨b5, #[(bV (s 0)), (bV (s 1)), (bV (s 2)), (bV (s 3)), (bV (s 4)), (bV (s 5)), (bV (s 6)), (bV (s 7)), (bV (s 8)), (bV (s 9)), (bV (s 10)), (bV (s 11)), (bV (s 12)), (bV (s 13)), (bV (s 14)), (bV (s 15)), nv], 30⟩]) (by kernel_rfl) ?_
      have hs99 := hs95.drew; clear hs95
      have hss := hs99.ss (I := G3) (GH.le.refl _) (SubL.sub (.cons (.head _) (.cons (.tail _ (List.mem_append_right _ (.tail _ (.head _)))) (.cons (.tail _ (List.mem_append_right _ (.tail _ (.tail _ (.head _))))) .nil))))
      refine dt 0 rfl (by kernel_rfl) (fun _ _ _ h => h) hss (fun _ h => r_loadN (m := 17) (vs := [(bV (s 0)), (bV (s 1)), (bV (s 2)), (bV (s 3)), (bV (s 4)), (bV (s 5)), (bV (s 6)), (bV (s 7)), (bV (s 8)), (bV (s 9)), (bV (s 10)), (bV (s 11)), (bV (s 12)), (bV (s 13)), (bV (s 14)), (bV (s 15)), u80]) rfl (by kernel_rfl) rfl (h.box (.head _)) (by kernel_rfl) rfl) rfl ?_
      refine dt 1 rfl (by kernel_rfl) (fun _ _ _ h => h) hss (fun _ h => r_move rfl) rfl ?_
      refine dt 2 rfl (by kernel_rfl) (fun _ _ _ h => h) hss (fun _ h => r_move rfl) rfl ?_
      refine dt 4 rfl (by kernel_rfl) (fun _ _ _ h => h) hss (fun _ h => r_move rfl) rfl ?_
      refine dt 5 rfl (by kernel_rfl) (fun _ _ _ h => h) hss (fun _ h => r_move rfl) rfl ?_
      refine dt 6 rfl (by kernel_rfl) (fun _ _ _ h => h) hss (fun _ h => (r_eqb rfl rfl (by kernel_rfl) rfl rfl)) rfl ?_
      refine dro 3 (by kernel_rfl) rfl (ow_call (X := []) (L := (⟨b89, #[(bV (s 0)), (bV (s 1)), (bV (s 2)), (bV (s 3)), (bV (s 4)), (bV (s 5)), (bV (s 6)), (bV (s 7)), (bV (s 8)), (bV (s 9)), (bV (s 10)), (bV (s 11)), (bV (s 12)), (bV (s 13)), (bV (s 14)), (bV (s 15)), u80], 30⟩ :: (mX m (v + N.remV (hashN s k) k n 0) (c + N.remC (hashN s k) k n 0) ++ ([⟨b15, #[.int .u8 0, .int .u8 0, .int .u8 0, .int .u8 0, .int .u8 0, .int .u8 0, .int .u8 0, .int .u8 0, .int .u8 0, .int .u8 0, .int .u8 0, .int .u8 0, .int .u8 0, .int .u8 0, .int .u8 0, .int .u8 0, .nilIface], 30⟩, ⟨b10, #[.int .i64 kd, kv, xv], 35⟩, ⟨b5, #[(bV (s 0)), (bV (s 1)), (bV (s 2)), (bV (s 3)), (bV (s 4)), (bV (s 5)), (bV (s 6)), (bV (s 7)), (bV (s 8)), (bV (s 9)), (bV (s 10)), (bV (s 11)), (bV (s 12)), (bV (s 13)), (bV (s 14)), (bV (s 15)), nv], 30⟩] : List Bx)))) (lb := []) hs99 (refwithout_ok (key := k) (hy.up le86) (Nat.le_trans hxl (by decide))) (by kernel_rfl) rfl rfl rfl rfl rfl ?_)
      rintro y100 G4 X1 w102 hy101 le105 hs103 hid104
      obtain rfl : X1 = [] := List.map_eq_nil_iff.1 hid104
      replace hs103 : St w0 I (ids (mX m (v) (c))) G4 (⟨b89, #[(bV (s 0)), (bV (s 1)), (bV (s 2)), (bV (s 3)), (bV (s 4)), (bV (s 5)), (bV (s 6)), (bV (s 7)), (bV (s 8)), (bV (s 9)), (bV (s 10)), (bV (s 11)), (bV (s 12)), (bV (s 13)), (bV (s 14)), (bV (s 15)), u80], 30⟩ :: (mX m (v + N.remV (hashN s k) k n 0) (c + N.remC (hashN s k) k n 0) ++ ([⟨b15, #[.int .u8 0, .int .u8 0, .int .u8 0, .int .u8 0, .int .u8 0, .int .u8 0, .int .u8 0, .int .u8 0, .int .u8 0, .int .u8 0, .int .u8 0, .int .u8 0, .int .u8 0, .int .u8 0, .int .u8 0, .int .u8 0, .nilIface], 30⟩, ⟨b10, #[.int .i64 kd, kv, xv], 35⟩, ⟨b5, #[(bV (s 0)), (bV (s 1)), (bV (s 2)), (bV (s 3)), (bV (s 4)), (bV (s 5)), (bV (s 6)), (bV (s 7)), (bV (s 8)), (bV (s 9)), (bV (s 10)), (bV (s 11)), (bV (s 12)), (bV (s 13)), (bV (s 14)), (bV (s 15)), nv], 30⟩] : List Bx))) w102 := hs103
      clear hs99 hid104
      replace hss := hs103.ss (I := G3) le105 (SubL.sub (.cons (.head _) (.cons (.tail _ (List.mem_append_right _ (.tail _ (.head _)))) (.cons (.tail _ (List.mem_append_right _ (.tail _ (.tail _ (.head _))))) .nil))))
      refine ⟨hss, ?_⟩
      have hs106 : St w0 I (ids (mX m (v) (c))) G4 (⟨b15, #[.int .u8 0, .int .u8 0, .int .u8 0, .int .u8 0, .int .u8 0, .int .u8 0, .int .u8 0, .int .u8 0, .int .u8 0, .int .u8 0, .int .u8 0, .int .u8 0, .int .u8 0, .int .u8 0, .int .u8 0, .int .u8 0, .nilIface], 30⟩ :: (⟨b89, #[(bV (s 0)), (bV (s 1)), (bV (s 2)), (bV (s 3)), (bV (s 4)), (bV (s 5)), (bV (s 6)), (bV (s 7)), (bV (s 8)), (bV (s 9)), (bV (s 10)), (bV (s 11)), (bV (s 12)), (bV (s 13)), (bV (s 14)), (bV (s 15)), u80], 30⟩ :: (mX m (v + N.remV (hashN s k) k n 0) (c + N.remC (hashN s k) k n 0) ++ ([⟨b10, #[.int .i64 kd, kv, xv], 35⟩, ⟨b5, #[(bV (s 0)), (bV (s 1)), (bV (s 2)), (bV (s 3)), (bV (s 4)), (bV (s 5)), (bV (s 6)), (bV (s 7)), (bV (s 8)), (bV (s 9)), (bV (s 10)), (bV (s 11)), (bV (s 12)), (bV (s 13)), (bV (s 14)), (bV (s 15)), nv], 30⟩] : List Bx)))) w102 := hs103.perm (List.Perm.trans ((List.Perm.trans ((List.Perm.refl _).append_left _) (List.perm_middle (l₁ := (mX m (v + N.remV (hashN s k) k n 0) (c + N.remC (hashN s k) k n 0) : List Bx)) (a := (⟨b15, #[.int .u8 0, .int .u8 0, .int .u8 0, .int .u8 0, .int .u8 0, .int .u8 0, .int .u8 0, .int .u8 0, .int .u8 0, .int .u8 0, .int .u8 0, .int .u8 0, .int .u8 0, .int .u8 0, .int .u8 0, .int .u8 0, .nilIface], 30⟩ : Bx)) (l₂ := [⟨b10, #[.int .i64 kd, kv, xv], 35⟩, ⟨b5, #[(bV (s 0)), (bV (s 1)), (bV (s 2)), (bV (s 3)), (bV (s 4)), (bV (s 5)), (bV (s 6)), (bV (s 7)), (bV (s 8)), (bV (s 9)), (bV (s 10)), (bV (s 11)), (bV (s 12)), (bV (s 13)), (bV (s 14)), (bV (s 15)), nv], 30⟩]))).cons _) (List.Perm.swap _ _ _)); clear hs103
      refine dro 7 (by kernel_rfl) rfl (ow_storeK (vs := [(bV (s 0)), (bV (s 1)), (bV (s 2)), (bV (s 3)), (bV (s 4)), (bV (s 5)), (bV (s 6)), (bV (s 7)), (bV (s 8)), (bV (s 9)), (bV (s 10)), (bV (s 11)), (bV (s 12)), (bV (s 13)), (bV (s 14)), (bV (s 15)), u80]) (cs' := #[(bV (s 0)), (bV (s 1)), (bV (s 2)), (bV (s 3)), (bV (s 4)), (bV (s 5)), (bV (s 6)), (bV (s 7)), (bV (s 8)), (bV (s 9)), (bV (s 10)), (bV (s 11)), (bV (s 12)), (bV (s 13)), (bV (s 14)), (bV (s 15)), u80]) hs106 rfl rfl (by kernel_rfl) rfl rfl (.cons trivial (.cons trivial (.cons trivial (.cons trivial (.cons trivial (.cons trivial (.cons trivial (.cons trivial (.cons trivial (.cons trivial (.cons trivial (.cons trivial (.cons trivial (.cons trivial (.cons trivial (.cons trivial (.cons hn81.one .nil))))))))))))))))) (by kernel_rfl) (by kernel_rfl) ?_)
      rintro w107 (hs108 : St w0 I (ids (mX m (v) (c))) G4 (⟨b15, #[(bV (s 0)), (bV (s 1)), (bV (s 2)), (bV (s 3)), (bV (s 4)), (bV (s 5)), (bV (s 6)), (bV (s 7)), (bV (s 8)), (bV (s 9)), (bV (s 10)), (bV (s 11)), (bV (s 12)), (bV (s 13)), (bV (s 14)), (bV (s 15)), u80], 30⟩ :: (⟨b89, #[(bV (s 0)), (bV (s 1)), (bV (s 2)), (bV (s 3)), (bV (s 4)), (bV (s 5)), (bV (s 6)), (bV (s 7)), (bV (s 8)), (bV (s 9)), (bV (s 10)), (bV (s 11)), (bV (s 12)), (bV (s 13)), (bV (s 14)), (bV (s 15)), u80], 30⟩ :: (mX m (v + N.remV (hashN s k) k n 0) (c + N.remC (hashN s k) k n 0) ++ ([⟨b10, #[.int .i64 kd, kv, xv], 35⟩, ⟨b5, #[(bV (s 0)), (bV (s 1)), (bV (s 2)), (bV (s 3)), (bV (s 4)), (bV (s 5)), (bV (s 6)), (bV (s 7)), (bV (s 8)), (bV (s 9)), (bV (s 10)), (bV (s 11)), (bV (s 12)), (bV (s 13)), (bV (s 14)), (bV (s 15)), nv], 30⟩] : List Bx)))) w107)
      clear hs106
      replace hss := hs108.ss (I := G3) le105 (SubL.sub (.cons (.tail _ (.head _)) (.cons (.tail _ (.tail _ (List.mem_append_right _ (.head _)))) (.cons (.tail _ (.tail _ (List.mem_append_right _ (.tail _ (.head _))))) .nil))))
      refine ⟨hss, ?_⟩
      refine dt 8 rfl (by kernel_rfl) (fun _ _ _ h => h) hss (fun _ h => r_assign rfl) rfl ?_
      refine dt 9 rfl (by kernel_rfl) (fun _ _ _ h => h) hss (fun _ h => r_assign rfl) rfl ?_
      refine draw_done (by kernel_rfl) ?_
      refine hK97 _ _ ?_; (try clear hK97 K96)
      refine wp_ret ?_
      have hs109 : St w0 I (ids (mX m (v) (c))) G4 (mX m (v + N.remV (hashN s k) k n 0) (c + N.remC (hashN s k) k n 0) ++ ([⟨b15, #[(bV (s 0)), (bV (s 1)), (bV (s 2)), (bV (s 3)), (bV (s 4)), (bV (s 5)), (bV (s 6)), (bV (s 7)), (bV (s 8)), (bV (s 9)), (bV (s 10)), (bV (s 11)), (bV (s 12)), (bV (s 13)), (bV (s 14)), (bV (s 15)), u80], 30⟩, ⟨b89, #[(bV (s 0)), (bV (s 1)), (bV (s 2)), (bV (s 3)), (bV (s 4)), (bV (s 5)), (bV (s 6)), (bV (s 7)), (bV (s 8)), (bV (s 9)), (bV (s 10)), (bV (s 11)), (bV (s 12)), (bV (s 13)), (bV (s 14)), (bV (s 15)), u80], 30⟩, ⟨b10, #[.int .i64 kd, kv, xv], 35⟩, ⟨b5, #[(bV (s 0)), (bV (s 1)), (bV (s 2)), (bV (s 3)), (bV (s 4)), (bV (s 5)), (bV (s 6)), (bV (s 7)), (bV (s 8)), (bV (s 9)), (bV (s 10)), (bV (s 11)), (bV (s 12)), (bV (s 13)), (bV (s 14)), (bV (s 15)), nv], 30⟩] : List Bx)) w107 := hs108.perm (List.Perm.trans ((List.Perm.trans ((List.Perm.refl _).cons _) (List.perm_middle (l₁ := (mX m (v + N.remV (hashN s k) k n 0) (c + N.remC (hashN s k) k n 0) : List Bx)) (a := (⟨b89, #[(bV (s 0)), (bV (s 1)), (bV (s 2)), (bV (s 3)), (bV (s 4)), (bV (s 5)), (bV (s 6)), (bV (s 7)), (bV (s 8)), (bV (s 9)), (bV (s 10)), (bV (s 11)), (bV (s 12)), (bV (s 13)), (bV (s 14)), (bV (s 15)), u80], 30⟩ : Bx)) (l₂ := [⟨b10, #[.int .i64 kd, kv, xv], 35⟩, ⟨b5, #[(bV (s 0)), (bV (s 1)), (bV (s 2)), (bV (s 3)), (bV (s 4)), (bV (s 5)), (bV (s 6)), (bV (s 7)), (bV (s 8)), (bV (s 9)), (bV (s 10)), (bV (s 11)), (bV (s 12)), (bV (s 13)), (bV (s 14)), (bV (s 15)), nv], 30⟩])).symm).cons _) (List.perm_middle (l₁ := (mX m (v + N.remV (hashN s k) k n 0) (c + N.remC (hashN s k) k n 0) : List Bx)) (a := (⟨b15, #[(bV (s 0)), (bV (s 1)), (bV (s 2)), (bV (s 3)), (bV (s 4)), (bV (s 5)), (bV (s 6)), (bV (s 7)), (bV (s 8)), (bV (s 9)), (bV (s 10)), (bV (s 11)), (bV (s 12)), (bV (s 13)), (bV (s 14)), (bV (s 15)), u80], 30⟩ : Bx)) (l₂ := [⟨b89, #[(bV (s 0)), (bV (s 1)), (bV (s 2)), (bV (s 3)), (bV (s 4)), (bV (s 5)), (bV (s 6)), (bV (s 7)), (bV (s 8)), (bV (s 9)), (bV (s 10)), (bV (s 11)), (bV (s 12)), (bV (s 13)), (bV (s 14)), (bV (s 15)), u80], 30⟩, ⟨b10, #[.int .i64 kd, kv, xv], 35⟩, ⟨b5, #[(bV (s 0)), (bV (s 1)), (bV (s 2)), (bV (s 3)), (bV (s 4)), (bV (s 5)), (bV (s 6)), (bV (s 7)), (bV (s 8)), (bV (s 9)), (bV (s 10)), (bV (s 11)), (bV (s 12)), (bV (s 13)), (bV (s 14)), (bV (s 15)), nv], 30⟩])).symm); clear hs108
      exact leave (X' := mX m (v + N.remV (hashN s k) k n 0) (c + N.remC (hashN s k) k n 0)) (L := [⟨b15, #[(bV (s 0)), (bV (s 1)), (bV (s 2)), (bV (s 3)), (bV (s 4)), (bV (s 5)), (bV (s 6)), (bV (s 7)), (bV (s 8)), (bV (s 9)), (bV (s 10)), (bV (s 11)), (bV (s 12)), (bV (s 13)), (bV (s 14)), (bV (s 15)), u80], 30⟩, ⟨b89, #[(bV (s 0)), (bV (s 1)), (bV (s 2)), (bV (s 3)), (bV (s 4)), (bV (s 5)), (bV (s 6)), (bV (s 7)), (bV (s 8)), (bV (s 9)), (bV (s 10)), (bV (s 11)), (bV (s 12)), (bV (s 13)), (bV (s 14)), (bV (s 15)), u80], 30⟩, ⟨b10, #[.int .i64 kd, kv, xv], 35⟩, ⟨b5, #[(bV (s 0)), (bV (s 1)), (bV (s 2)), (bV (s 3)), (bV (s 4)), (bV (s 5)), (bV (s 6)), (bV (s 7)), (bV (s 8)), (bV (s 9)), (bV (s 10)), (bV (s 11)), (bV (s 12)), (bV (s 13)), (bV (s 14)), (bV (s 15)), nv], 30⟩]) hs109 (mX_ids _ _ _ _ _) (res_many (vs := [.agg #[(bV (s 0)), (bV (s 1)), (bV (s 2)), (bV (s 3)), (bV (s 4)), (bV (s 5)), (bV (s 6)), (bV (s 7)), (bV (s 8)), (bV (s 9)), (bV (s 10)), (bV (s 11)), (bV (s 12)), (bV (s 13)), (bV (s 14)), (bV (s 15)), u80], y100, .bool (((N.rem (hashN s k) k n 0).isSome) == ((getL l k).isSome))]) rfl (.agg (m := 17) (us := [(bV (s 0)), (bV (s 1)), (bV (s 2)), (bV (s 3)), (bV (s 4)), (bV (s 5)), (bV (s 6)), (bV (s 7)), (bV (s 8)), (bV (s 9)), (bV (s 10)), (bV (s 11)), (bV (s 12)), (bV (s 13)), (bV (s 14)), (bV (s 15)), u80]) rfl rfl (by kernel_rfl) (hs109.box (List.mem_append_right _ (.head _))) (by kernel_rfl) rfl (.tmp rfl rfl (.tmp rfl rfl .nil))) rfl) (by have e : stepN s kd k x n l = _ := (if_neg (by omega)).trans (if_pos (by assumption)); exact ⟨_, _, by rw [e], by rw [e]; exact (hn81.up le105), by rw [e]; exact hy101, by rw [e]⟩)
    ·
      have p110 := of_decide_eq_false h74
      refine wp_seq_k fun K111 hK112 => ?_
      refine wl_begin ?_
      refine sq (r_eqi rfl rfl rfl rfl) rfl ?_
      refine sq (r_assign rfl) rfl ?_
      refine wl_nil ?_
      refine hK112 _ _ ?_; (try clear hK112 K111)
      refine condS rfl rfl (fun h113 => ?_) (fun h113 => ?_)
      ·
        have p114 := of_decide_eq_true h113
        refine wp_seq_k fun K115 hK116 => ?_
        refine wl_begin ?_
        refine sq (r_loadN (m := 17) (vs := [(bV (s 0)), (bV (s 1)), (bV (s 2)), (bV (s 3)), (bV (s 4)), (bV (s 5)), (bV (s 6)), (bV (s 7)), (bV (s 8)), (bV (s 9)), (bV (s 10)), (bV (s 11)), (bV (s 12)), (bV (s 13)), (bV (s 14)), (bV (s 15)), nv]) rfl (by kernel_rfl) rfl (hs25.box (.tail _ (.tail _ (.head _)))) (by kernel_rfl) rfl) rfl ?_
        refine sq (r_fieldAddr (off := 1) rfl (by kernel_rfl) rfl) rfl ?_
        refine sq (r_load rfl (by kernel_rfl) rfl (hs25.box (.tail _ (.head _))) rfl) rfl ?_
        refine sq (r_move rfl) rfl ?_
        have hs121 : St w0 I (ids (mX m (v) (c))) I (mX m (v) (c) ++ ([⟨b15, #[.int .u8 0, .int .u8 0, .int .u8 0, .int .u8 0, .int .u8 0, .int .u8 0, .int .u8 0, .int .u8 0, .int .u8 0, .int .u8 0, .int .u8 0, .int .u8 0, .int .u8 0, .int .u8 0, .int .u8 0, .int .u8 0, .nilIface], 30⟩, ⟨b10, #[.int .i64 kd, kv, xv], 35⟩, ⟨b5, #[(bV (s 0)), (bV (s 1)), (bV (s 2)), (bV (s 3)), (bV (s 4)), (bV (s 5)), (bV (s 6)), (bV (s 7)), (bV (s 8)), (bV (s 9)), (bV (s 10)), (bV (s 11)), (bV (s 12)), (bV (s 13)), (bV (s 14)), (bV (s 15)), nv], 30⟩] : List Bx)) w24 := hs25.perm (List.Perm.trans ((List.Perm.trans ((List.Perm.trans ((List.Perm.refl _).cons _) (List.perm_middle (l₁ := (mX m (v) (c) : List Bx)) (a := (⟨b5, #[(bV (s 0)), (bV (s 1)), (bV (s 2)), (bV (s 3)), (bV (s 4)), (bV (s 5)), (bV (s 6)), (bV (s 7)), (bV (s 8)), (bV (s 9)), (bV (s 10)), (bV (s 11)), (bV (s 12)), (bV (s 13)), (bV (s 14)), (bV (s 15)), nv], 30⟩ : Bx)) (l₂ := [])).symm).cons _) (List.perm_middle (l₁ := (mX m (v) (c) : List Bx)) (a := (⟨b10, #[.int .i64 kd, kv, xv], 35⟩ : Bx)) (l₂ := [⟨b5, #[(bV (s 0)), (bV (s 1)), (bV (s 2)), (bV (s 3)), (bV (s 4)), (bV (s 5)), (bV (s 6)), (bV (s 7)), (bV (s 8)), (bV (s 9)), (bV (s 10)), (bV (s 11)), (bV (s 12)), (bV (s 13)), (bV (s 14)), (bV (s 15)), nv], 30⟩])).symm).cons _) (List.perm_middle (l₁ := (mX m (v) (c) : List Bx)) (a := (⟨b15, #[.int .u8 0, .int .u8 0, .int .u8 0, .int .u8 0, .int .u8 0, .int .u8 0, .int .u8 0, .int .u8 0, .int .u8 0, .int .u8 0, .int .u8 0, .int .u8 0, .int .u8 0, .int .u8 0, .int .u8 0, .int .u8 0, .nilIface], 30⟩ : Bx)) (l₂ := [⟨b10, #[.int .i64 kd, kv, xv], 35⟩, ⟨b5, #[(bV (s 0)), (bV (s 1)), (bV (s 2)), (bV (s 3)), (bV (s 4)), (bV (s 5)), (bV (s 6)), (bV (s 7)), (bV (s 8)), (bV (s 9)), (bV (s 10)), (bV (s 11)), (bV (s 12)), (bV (s 13)), (bV (s 14)), (bV (s 15)), nv], 30⟩])).symm); clear hs25
        refine sqo rfl fun K117 hK118 => ow_call (X := mX m (v) (c)) (L := [⟨b15, #[.int .u8 0, .int .u8 0, .int .u8 0, .int .u8 0, .int .u8 0, .int .u8 0, .int .u8 0, .int .u8 0, .int .u8 0, .int .u8 0, .int .u8 0, .int .u8 0, .int .u8 0, .int .u8 0, .int .u8 0, .int .u8 0, .nilIface], 30⟩, ⟨b10, #[.int .i64 kd, kv, xv], 35⟩, ⟨b5, #[(bV (s 0)), (bV (s 1)), (bV (s 2)), (bV (s 3)), (bV (s 4)), (bV (s 5)), (bV (s 6)), (bV (s 7)), (bV (s 8)), (bV (s 9)), (bV (s 10)), (bV (s 11)), (bV (s 12)), (bV (s 13)), (bV (s 14)), (bV (s 15)), nv], 30⟩]) (lb := []) hs121 (trie_get_ok ht hst h1 hw hsz hn hk) (by kernel_rfl) rfl rfl rfl rfl rfl ?_
        rintro _ G5 X1 w122 ⟨xv119, rfl, hx120, rfl⟩ le125 hs123 hid124
        replace hs123 : St w0 I (ids (mX m (v) (c))) G5 (mX m (v + (N.way (hashN s k) n 0).2 + N.endV (hashN s k) k (N.way (hashN s k) n 0).1) (c + N.endC (hashN s k) k (N.way (hashN s k) n 0).1) ++ ([⟨b15, #[.int .u8 0, .int .u8 0, .int .u8 0, .int .u8 0, .int .u8 0, .int .u8 0, .int .u8 0, .int .u8 0, .int .u8 0, .int .u8 0, .int .u8 0, .int .u8 0, .int .u8 0, .int .u8 0, .int .u8 0, .int .u8 0, .nilIface], 30⟩, ⟨b10, #[.int .i64 kd, kv, xv], 35⟩, ⟨b5, #[(bV (s 0)), (bV (s 1)), (bV (s 2)), (bV (s 3)), (bV (s 4)), (bV (s 5)), (bV (s 6)), (bV (s 7)), (bV (s 8)), (bV (s 9)), (bV (s 10)), (bV (s 11)), (bV (s 12)), (bV (s 13)), (bV (s 14)), (bV (s 15)), nv], 30⟩] : List Bx)) w122 := hs123
        clear hs121 hid124
        refine hK118 _ _ ?_; clear hK118 K117
        refine sq (r_move rfl) rfl ?_
        refine sq (r_extract rfl rfl rfl) rfl ?_
        refine sq (r_extract rfl rfl rfl) rfl ?_
        refine sq (r_assign rfl) rfl ?_
        refine sq (r_assign rfl) rfl ?_
        refine wl_nil ?_
        refine hK116 _ _ ?_; (try clear hK116 K115)
        refine wp_seq_k fun K126 hK127 => ?_
        refine nrm (vals := [(0, .agg #[(bV (s 0)), (bV (s 1)), (bV (s 2)), (bV (s 3)), (bV (s 4)), (bV (s 5)), (bV (s 6)), (bV (s 7)), (bV (s 8)), (bV (s 9)), (bV (s 10)), (bV (s 11)), (bV (s 12)), (bV (s 13)), (bV (s 14)), (bV (s 15)), nv]), (1, y0), (2, .agg #[.int .i64 kd, kv, xv]), (3, (mV m)), (4, .pointer (some ⟨b5, 0, none⟩)), (6, .pointer (some ⟨b10, 0, none⟩)), (8, .pointer (some ⟨b15, 0, none⟩)), (9, .slice none 0 0), (10, .bool false), (11, .string ⟨(k).toArray⟩), (12, .string ⟨(((getL l k).getD [])).toArray⟩), (13, .bool ((getL l k).isSome)), (18, xv119), (19, .bool ((N.endGet (hashN s k) k (N.way (hashN s k) n 0).1).isSome)), (30, .int .i64 kd), (31, .bool (decide (kd = 1))), (55, .bool (decide (kd = 2))), (72, .bool (decide (kd = 3)))]) (.cons rfl (.cons rfl (.cons rfl (.cons rfl (.cons rfl (.cons rfl (.cons rfl (.cons rfl (.cons rfl (.cons rfl (.cons rfl (.cons rfl (.cons rfl (.cons rfl (.cons rfl (.cons rfl (.cons rfl (.cons rfl .nil)))))))))))))))))) fun g128 => ?_
        refine draw_begin (S := SS G5 [⟨b10, #[.int .i64 kd, kv, xv], 35⟩, ⟨b5, #[(bV (s 0)), (bV (s 1)), (bV (s 2)), (bV (s 3)), (bV (s 4)), (bV (s 5)), (bV (s 6)), (bV (s 7)), (bV (s 8)), (bV (s 9)), (bV (s 10)), (bV (s 11)), (bV (s 12)), (bV (s 13)), (bV (s 14)), (bV (s 15)), nv], 30⟩]) (by kernel_rfl) ?_
        have hs129 := hs123.drew; clear hs123
        have hss := hs129.ss (I := G5) (GH.le.refl _) (SubL.sub (.cons (List.mem_append_right _ (.tail _ (.head _))) (.cons (List.mem_append_right _ (.tail _ (.tail _ (.head _)))) .nil)))
        refine dt 0 rfl (by kernel_rfl) (fun _ _ _ h => h) hss (fun _ h => r_loadN (m := 17) (vs := [(bV (s 0)), (bV (s 1)), (bV (s 2)), (bV (s 3)), (bV (s 4)), (bV (s 5)), (bV (s 6)), (bV (s 7)), (bV (s 8)), (bV (s 9)), (bV (s 10)), (bV (s 11)), (bV (s 12)), (bV (s 13)), (bV (s 14)), (bV (s 15)), nv]) rfl (by kernel_rfl) rfl (h.box (.tail _ (.head _))) (by kernel_rfl) rfl) rfl ?_
        refine dt 1 rfl (by kernel_rfl) (fun _ _ _ h => h) hss (fun _ h => r_move rfl) rfl ?_
        refine dt 2 rfl (by kernel_rfl) (fun _ _ _ h => h) hss (fun _ h => r_move rfl) rfl ?_
        refine dt 3 rfl (by kernel_rfl) (fun _ _ _ h => h) hss (fun _ h => r_move rfl) rfl ?_
        refine dt 4 rfl (by kernel_rfl) (fun _ _ _ h => h) hss (fun _ h => (r_eqb rfl rfl (by kernel_rfl) rfl rfl)) rfl ?_
        refine dt 5 rfl (by kernel_rfl) (fun _ _ _ h => h) hss (fun _ h => r_move rfl) rfl ?_
        refine bsplit (((N.endGet (hashN s k) k (N.way (hashN s k) n 0).1).isSome) == ((getL l k).isSome)) (fun h130 => ?_) (fun h130 => ?_)
        ·
          refine dtG 6 rfl (wantedT rfl rfl rfl (congrArg Value.bool h130)) (by kernel_rfl) (fun _ _ _ h => h) hss (fun _ h => r_move rfl) rfl ?_
          refine dtG 7 rfl (wantedT rfl rfl rfl (congrArg Value.bool h130)) (by kernel_rfl) (fun _ _ _ h => h) hss (fun _ h => (r_bytesStr (e := 5) rfl (by kernel_rfl) (by kernel_rfl) rfl hx120 (fun _ _ z => h.imm z))) rfl ?_
          refine dtG 8 rfl (wantedT rfl rfl rfl (congrArg Value.bool h130)) (by kernel_rfl) (fun _ _ _ h => h) hss (fun _ h => r_move rfl) rfl ?_
          refine dtG 9 rfl (wantedT rfl rfl rfl (congrArg Value.bool h130)) (by kernel_rfl) (fun _ _ _ h => h) hss (fun _ h => (r_eqstr rfl rfl rfl rfl)) rfl ?_
          refine dt 10 rfl (by kernel_rfl) (fun _ _ _ h => h) hss (fun _ h => (r_pick rfl rfl rfl (congrArg Value.bool h130))) rfl ?_
          have hs131 : St w0 I (ids (mX m (v) (c))) G5 (⟨b15, #[.int .u8 0, .int .u8 0, .int .u8 0, .int .u8 0, .int .u8 0, .int .u8 0, .int .u8 0, .int .u8 0, .int .u8 0, .int .u8 0, .int .u8 0, .int .u8 0, .int .u8 0, .int .u8 0, .int .u8 0, .int .u8 0, .nilIface], 30⟩ :: (mX m (v + (N.way (hashN s k) n 0).2 + N.endV (hashN s k) k (N.way (hashN s k) n 0).1) (c + N.endC (hashN s k) k (N.way (hashN s k) n 0).1) ++ ([⟨b10, #[.int .i64 kd, kv, xv], 35⟩, ⟨b5, #[(bV (s 0)), (bV (s 1)), (bV (s 2)), (bV (s 3)), (bV (s 4)), (bV (s 5)), (bV (s 6)), (bV (s 7)), (bV (s 8)), (bV (s 9)), (bV (s 10)), (bV (s 11)), (bV (s 12)), (bV (s 13)), (bV (s 14)), (bV (s 15)), nv], 30⟩] : List Bx))) (w122.drew) := hs129.perm (List.Perm.trans ((List.Perm.refl _).append_left _) (List.perm_middle (l₁ := (mX m (v + (N.way (hashN s k) n 0).2 + N.endV (hashN s k) k (N.way (hashN s k) n 0).1) (c + N.endC (hashN s k) k (N.way (hashN s k) n 0).1) : List Bx)) (a := (⟨b15, #[.int .u8 0, .int .u8 0, .int .u8 0, .int .u8 0, .int .u8 0, .int .u8 0, .int .u8 0, .int .u8 0, .int .u8 0, .int .u8 0, .int .u8 0, .int .u8 0, .int .u8 0, .int .u8 0, .int .u8 0, .int .u8 0, .nilIface], 30⟩ : Bx)) (l₂ := [⟨b10, #[.int .i64 kd, kv, xv], 35⟩, ⟨b5, #[(bV (s 0)), (bV (s 1)), (bV (s 2)), (bV (s 3)), (bV (s 4)), (bV (s 5)), (bV (s 6)), (bV (s 7)), (bV (s 8)), (bV (s 9)), (bV (s 10)), (bV (s 11)), (bV (s 12)), (bV (s 13)), (bV (s 14)), (bV (s 15)), nv], 30⟩]))); clear hs129
          refine dro 11 (by kernel_rfl) rfl (ow_storeK (vs := [(bV (s 0)), (bV (s 1)), (bV (s 2)), (bV (s 3)), (bV (s 4)), (bV (s 5)), (bV (s 6)), (bV (s 7)), (bV (s 8)), (bV (s 9)), (bV (s 10)), (bV (s 11)), (bV (s 12)), (bV (s 13)), (bV (s 14)), (bV (s 15)), nv]) (cs' := #[(bV (s 0)), (bV (s 1)), (bV (s 2)), (bV (s 3)), (bV (s 4)), (bV (s 5)), (bV (s 6)), (bV (s 7)), (bV (s 8)), (bV (s 9)), (bV (s 10)), (bV (s 11)), (bV (s 12)), (bV (s 13)), (bV (s 14)), (bV (s 15)), nv]) hs131 rfl rfl (by kernel_rfl) rfl rfl (.cons trivial (.cons trivial (.cons trivial (.cons trivial (.cons trivial (.cons trivial (.cons trivial (.cons trivial (.cons trivial (.cons trivial (.cons trivial (.cons trivial (.cons trivial (.cons trivial (.cons trivial (.cons trivial (.cons hn.one .nil))))))))))))))))) (by kernel_rfl) (by kernel_rfl) ?_)
          rintro w132 (hs133 : St w0 I (ids (mX m (v) (c))) G5 (⟨b15, #[(bV (s 0)), (bV (s 1)), (bV (s 2)), (bV (s 3)), (bV (s 4)), (bV (s 5)), (bV (s 6)), (bV (s 7)), (bV (s 8)), (bV (s 9)), (bV (s 10)), (bV (s 11)), (bV (s 12)), (bV (s 13)), (bV (s 14)), (bV (s 15)), nv], 30⟩ :: (mX m (v + (N.way (hashN s k) n 0).2 + N.endV (hashN s k) k (N.way (hashN s k) n 0).1) (c + N.endC (hashN s k) k (N.way (hashN s k) n 0).1) ++ ([⟨b10, #[.int .i64 kd, kv, xv], 35⟩, ⟨b5, #[(bV (s 0)), (bV (s 1)), (bV (s 2)), (bV (s 3)), (bV (s 4)), (bV (s 5)), (bV (s 6)), (bV (s 7)), (bV (s 8)), (bV (s 9)), (bV (s 10)), (bV (s 11)), (bV (s 12)), (bV (s 13)), (bV (s 14)), (bV (s 15)), nv], 30⟩] : List Bx))) w132)
          clear hs131
          replace hss := hs133.ss (I := G5) (GH.le.refl _) (SubL.sub (.cons (.tail _ (List.mem_append_right _ (.head _))) (.cons (.tail _ (List.mem_append_right _ (.tail _ (.head _)))) .nil)))
          refine ⟨hss, ?_⟩
          refine dt 12 rfl (by kernel_rfl) (fun _ _ _ h => h) hss (fun _ h => r_assign rfl) rfl ?_
          refine dt 13 rfl (by kernel_rfl) (fun _ _ _ h => h) hss (fun _ h => r_assign rfl) rfl ?_
          refine nrmD (vals := [(0, .agg #[(bV (s 0)), (bV (s 1)), (bV (s 2)), (bV (s 3)), (bV (s 4)), (bV (s 5)), (bV (s 6)), (bV (s 7)), (bV (s 8)), (bV (s 9)), (bV (s 10)), (bV (s 11)), (bV (s 12)), (bV (s 13)), (bV (s 14)), (bV (s 15)), nv]), (1, y0), (2, .agg #[.int .i64 kd, kv, xv]), (3, (mV m)), (4, .pointer (some ⟨b5, 0, none⟩)), (6, .pointer (some ⟨b10, 0, none⟩)), (8, .pointer (some ⟨b15, 0, none⟩)), (9, y0), (10, .bool (decide (((N.endGet (hashN s k) k (N.way (hashN s k) n 0).1).getD []) = ((getL l k).getD [])))), (11, .string ⟨(k).toArray⟩), (12, .string ⟨(((getL l k).getD [])).toArray⟩), (13, .bool ((getL l k).isSome)), (18, xv119), (19, .bool ((N.endGet (hashN s k) k (N.way (hashN s k) n 0).1).isSome)), (30, .int .i64 kd), (31, .bool (decide (kd = 1))), (55, .bool (decide (kd = 2))), (72, .bool (decide (kd = 3)))]) (.cons rfl (.cons rfl (.cons rfl (.cons rfl (.cons rfl (.cons rfl (.cons rfl (.cons rfl (.cons rfl (.cons rfl (.cons rfl (.cons rfl (.cons rfl (.cons rfl (.cons rfl (.cons rfl (.cons rfl (.cons rfl .nil)))))))))))))))))) fun g134 => ?_
          refine draw_done (by kernel_rfl) ?_
          refine hK127 _ _ ?_; (try clear hK127 K126)
          refine wp_ret ?_
          have hs135 : St w0 I (ids (mX m (v) (c))) G5 (mX m (v + (N.way (hashN s k) n 0).2 + N.endV (hashN s k) k (N.way (hashN s k) n 0).1) (c + N.endC (hashN s k) k (N.way (hashN s k) n 0).1) ++ ([⟨b15, #[(bV (s 0)), (bV (s 1)), (bV (s 2)), (bV (s 3)), (bV (s 4)), (bV (s 5)), (bV (s 6)), (bV (s 7)), (bV (s 8)), (bV (s 9)), (bV (s 10)), (bV (s 11)), (bV (s 12)), (bV (s 13)), (bV (s 14)), (bV (s 15)), nv], 30⟩, ⟨b10, #[.int .i64 kd, kv, xv], 35⟩, ⟨b5, #[(bV (s 0)), (bV (s 1)), (bV (s 2)), (bV (s 3)), (bV (s 4)), (bV (s 5)), (bV (s 6)), (bV (s 7)), (bV (s 8)), (bV (s 9)), (bV (s 10)), (bV (s 11)), (bV (s 12)), (bV (s 13)), (bV (s 14)), (bV (s 15)), nv], 30⟩] : List Bx)) w132 := hs133.perm (List.Perm.trans ((List.Perm.refl _).cons _) (List.perm_middle (l₁ := (mX m (v + (N.way (hashN s k) n 0).2 + N.endV (hashN s k) k (N.way (hashN s k) n 0).1) (c + N.endC (hashN s k) k (N.way (hashN s k) n 0).1) : List Bx)) (a := (⟨b15, #[(bV (s 0)), (bV (s 1)), (bV (s 2)), (bV (s 3)), (bV (s 4)), (bV (s 5)), (bV (s 6)), (bV (s 7)), (bV (s 8)), (bV (s 9)), (bV (s 10)), (bV (s 11)), (bV (s 12)), (bV (s 13)), (bV (s 14)), (bV (s 15)), nv], 30⟩ : Bx)) (l₂ := [⟨b10, #[.int .i64 kd, kv, xv], 35⟩, ⟨b5, #[(bV (s 0)), (bV (s 1)), (bV (s 2)), (bV (s 3)), (bV (s 4)), (bV (s 5)), (bV (s 6)), (bV (s 7)), (bV (s 8)), (bV (s 9)), (bV (s 10)), (bV (s 11)), (bV (s 12)), (bV (s 13)), (bV (s 14)), (bV (s 15)), nv], 30⟩])).symm); clear hs133
          exact leave (X' := mX m (v + (N.way (hashN s k) n 0).2 + N.endV (hashN s k) k (N.way (hashN s k) n 0).1) (c + N.endC (hashN s k) k (N.way (hashN s k) n 0).1)) (L := [⟨b15, #[(bV (s 0)), (bV (s 1)), (bV (s 2)), (bV (s 3)), (bV (s 4)), (bV (s 5)), (bV (s 6)), (bV (s 7)), (bV (s 8)), (bV (s 9)), (bV (s 10)), (bV (s 11)), (bV (s 12)), (bV (s 13)), (bV (s 14)), (bV (s 15)), nv], 30⟩, ⟨b10, #[.int .i64 kd, kv, xv], 35⟩, ⟨b5, #[(bV (s 0)), (bV (s 1)), (bV (s 2)), (bV (s 3)), (bV (s 4)), (bV (s 5)), (bV (s 6)), (bV (s 7)), (bV (s 8)), (bV (s 9)), (bV (s 10)), (bV (s 11)), (bV (s 12)), (bV (s 13)), (bV (s 14)), (bV (s 15)), nv], 30⟩]) hs135 (mX_ids _ _ _ _ _) (res_many (vs := [.agg #[(bV (s 0)), (bV (s 1)), (bV (s 2)), (bV (s 3)), (bV (s 4)), (bV (s 5)), (bV (s 6)), (bV (s 7)), (bV (s 8)), (bV (s 9)), (bV (s 10)), (bV (s 11)), (bV (s 12)), (bV (s 13)), (bV (s 14)), (bV (s 15)), nv], y0, .bool (decide (((N.endGet (hashN s k) k (N.way (hashN s k) n 0).1).getD []) = ((getL l k).getD [])))]) rfl (.agg (m := 17) (us := [(bV (s 0)), (bV (s 1)), (bV (s 2)), (bV (s 3)), (bV (s 4)), (bV (s 5)), (bV (s 6)), (bV (s 7)), (bV (s 8)), (bV (s 9)), (bV (s 10)), (bV (s 11)), (bV (s 12)), (bV (s 13)), (bV (s 14)), (bV (s 15)), nv]) rfl rfl (by kernel_rfl) (hs135.box (List.mem_append_right _ (.head _))) (by kernel_rfl) rfl (.tmp rfl rfl (.tmp rfl rfl .nil))) rfl) (by have e : stepN s kd k x n l = _ := (if_neg (by omega)).trans ((if_neg (by omega)).trans (if_pos (by assumption))); exact ⟨nv, y0, by rw [e]; simp only [h130, Bool.true_and, Bool.false_and], by rw [e]; exact (hn.up le125), by rw [e]; exact (hy.up le125), by rw [e]; exact mX_congr (Nat.add_assoc _ _ _) rfl⟩)
        ·
          refine dtN 6 rfl (wantedF rfl rfl rfl (congrArg Value.bool h130)) (by kernel_rfl) (fun _ _ _ h => h) hss rfl ?_
          refine dtN 7 rfl (wantedF rfl rfl rfl (congrArg Value.bool h130)) (by kernel_rfl) (fun _ _ _ h => h) hss rfl ?_
          refine dtN 8 rfl (wantedF rfl rfl rfl (congrArg Value.bool h130)) (by kernel_rfl) (fun _ _ _ h => h) hss rfl ?_
          refine dtN 9 rfl (wantedF rfl rfl rfl (congrArg Value.bool h130)) (by kernel_rfl) (fun _ _ _ h => h) hss rfl ?_
          refine dt 10 rfl (by kernel_rfl) (fun _ _ _ h => h) hss (fun _ h => (r_pick rfl rfl rfl (congrArg Value.bool h130))) rfl ?_
          have hs136 : St w0 I (ids (mX m (v) (c))) G5 (⟨b15, #[.int .u8 0, .int .u8 0, .int .u8 0, .int .u8 0, .int .u8 0, .int .u8 0, .int .u8 0, .int .u8 0, .int .u8 0, .int .u8 0, .int .u8 0, .int .u8 0, .int .u8 0, .int .u8 0, .int .u8 0, .int .u8 0, .nilIface], 30⟩ :: (mX m (v + (N.way (hashN s k) n 0).2 + N.endV (hashN s k) k (N.way (hashN s k) n 0).1) (c + N.endC (hashN s k) k (N.way (hashN s k) n 0).1) ++ ([⟨b10, #[.int .i64 kd, kv, xv], 35⟩, ⟨b5, #[(bV (s 0)), (bV (s 1)), (bV (s 2)), (bV (s 3)), (bV (s 4)), (bV (s 5)), (bV (s 6)), (bV (s 7)), (bV (s 8)), (bV (s 9)), (bV (s 10)), (bV (s 11)), (bV (s 12)), (bV (s 13)), (bV (s 14)), (bV (s 15)), nv], 30⟩] : List Bx))) (w122.drew) := hs129.perm (List.Perm.trans ((List.Perm.refl _).append_left _) (List.perm_middle (l₁ := (mX m (v + (N.way (hashN s k) n 0).2 + N.endV (hashN s k) k (N.way (hashN s k) n 0).1) (c + N.endC (hashN s k) k (N.way (hashN s k) n 0).1) : List Bx)) (a := (⟨b15, #[.int .u8 0, .int .u8 0, .int .u8 0, .int .u8 0, .int .u8 0, .int .u8 0, .int .u8 0, .int .u8 0, .int .u8 0, .int .u8 0, .int .u8 0, .int .u8 0, .int .u8 0, .int .u8 0, .int .u8 0, .int .u8 0, .nilIface], 30⟩ : Bx)) (l₂ := [⟨b10, #[.int .i64 kd, kv, xv], 35⟩, ⟨b5, #[(bV (s 0)), (bV (s 1)), (bV (s 2)), (bV (s 3)), (bV (s 4)), (bV (s 5)), (bV (s 6)), (bV (s 7)), (bV (s 8)), (bV (s 9)), (bV (s 10)), (bV (s 11)), (bV (s 12)), (bV (s 13)), (bV (s 14)), (bV (s 15)), nv], 30⟩]))); clear hs129
          refine dro 11 (by kernel_rfl) rfl (ow_storeK (vs := [(bV (s 0)), (bV (s 1)), (bV (s 2)), (bV (s 3)), (bV (s 4)), (bV (s 5)), (bV (s 6)), (bV (s 7)), (bV (s 8)), (bV (s 9)), (bV (s 10)), (bV (s 11)), (bV (s 12)), (bV (s 13)), (bV (s 14)), (bV (s 15)), nv]) (cs' := #[(bV (s 0)), (bV (s 1)), (bV (s 2)), (bV (s 3)), (bV (s 4)), (bV (s 5)), (bV (s 6)), (bV (s 7)), (bV (s 8)), (bV (s 9)), (bV (s 10)), (bV (s 11)), (bV (s 12)), (bV (s 13)), (bV (s 14)), (bV (s 15)), nv]) hs136 rfl rfl (by kernel_rfl) rfl rfl (.cons trivial (.cons trivial (.cons trivial (.cons trivial (.cons trivial (.cons trivial (.cons trivial (.cons trivial (.cons trivial (.cons trivial (.cons trivial (.cons trivial (.cons trivial (.cons trivial (.cons trivial (.cons trivial (.cons hn.one .nil))))))))))))))))) (by kernel_rfl) (by kernel_rfl) ?_)
          rintro w137 (hs138 : St w0 I (ids (mX m (v) (c))) G5 (⟨b15, #[(bV (s 0)), (bV (s 1)), (bV (s 2)), (bV (s 3)), (bV (s 4)), (bV (s 5)), (bV (s 6)), (bV (s 7)), (bV (s 8)), (bV (s 9)), (bV (s 10)), (bV (s 11)), (bV (s 12)), (bV (s 13)), (bV (s 14)), (bV (s 15)), nv], 30⟩ :: (mX m (v + (N.way (hashN s k) n 0).2 + N.endV (hashN s k) k (N.way (hashN s k) n 0).1) (c + N.endC (hashN s k) k (N.way (hashN s k) n 0).1) ++ ([⟨b10, #[.int .i64 kd, kv, xv], 35⟩, ⟨b5, #[(bV (s 0)), (bV (s 1)), (bV (s 2)), (bV (s 3)), (bV (s 4)), (bV (s 5)), (bV (s 6)), (bV (s 7)), (bV (s 8)), (bV (s 9)), (bV (s 10)), (bV (s 11)), (bV (s 12)), (bV (s 13)), (bV (s 14)), (bV (s 15)), nv], 30⟩] : List Bx))) w137)
          clear hs136
          replace hss := hs138.ss (I := G5) (GH.le.refl _) (SubL.sub (.cons (.tail _ (List.mem_append_right _ (.head _))) (.cons (.tail _ (List.mem_append_right _ (.tail _ (.head _)))) .nil)))
          refine ⟨hss, ?_⟩
          refine dt 12 rfl (by kernel_rfl) (fun _ _ _ h => h) hss (fun _ h => r_assign rfl) rfl ?_
          refine dt 13 rfl (by kernel_rfl) (fun _ _ _ h => h) hss (fun _ h => r_assign rfl) rfl ?_
          refine nrmD (vals := [(0, .agg #[(bV (s 0)), (bV (s 1)), (bV (s 2)), (bV (s 3)), (bV (s 4)), (bV (s 5)), (bV (s 6)), (bV (s 7)), (bV (s 8)), (bV (s 9)), (bV (s 10)), (bV (s 11)), (bV (s 12)), (bV (s 13)), (bV (s 14)), (bV (s 15)), nv]), (1, y0), (2, .agg #[.int .i64 kd, kv, xv]), (3, (mV m)), (4, .pointer (some ⟨b5, 0, none⟩)), (6, .pointer (some ⟨b10, 0, none⟩)), (8, .pointer (some ⟨b15, 0, none⟩)), (9, y0), (10, .bool false), (11, .string ⟨(k).toArray⟩), (12, .string ⟨(((getL l k).getD [])).toArray⟩), (13, .bool ((getL l k).isSome)), (18, xv119), (19, .bool ((N.endGet (hashN s k) k (N.way (hashN s k) n 0).1).isSome)), (30, .int .i64 kd), (31, .bool (decide (kd = 1))), (55, .bool (decide (kd = 2))), (72, .bool (decide (kd = 3)))]) (.cons rfl (.cons rfl (.cons rfl (.cons rfl (.cons rfl (.cons rfl (.cons rfl (.cons rfl (.cons rfl (.cons rfl (.cons rfl (.cons rfl (.cons rfl (.cons rfl (.cons rfl (.cons rfl (.cons rfl (.cons rfl .nil)))))))))))))))))) fun g139 => ?_
          refine draw_done (by kernel_rfl) ?_
          refine hK127 _ _ ?_; (try clear hK127 K126)
          refine wp_ret ?_
          have hs140 : St w0 I (ids (mX m (v) (c))) G5 (mX m (v + (N.way (hashN s k) n 0).2 + N.endV (hashN s k) k (N.way (hashN s k) n 0).1) (c + N.endC (hashN s k) k (N.way (hashN s k) n 0).1) ++ ([⟨b15, #[(bV (s 0)), (bV (s 1)), (bV (s 2)), (bV (s 3)), (bV (s 4)), (bV (s 5)), (bV (s 6)), (bV (s 7)), (bV (s 8)), (bV (s 9)), (bV (s 10)), (bV (s 11)), (bV (s 12)), (bV (s 13)), (bV (s 14)), (bV (s 15)), nv], 30⟩, ⟨b10, #[.int .i64 kd, kv, xv], 35⟩, ⟨b5, #[(bV (s 0)), (bV (s 1)), (bV (s 2)), (bV (s 3)), (bV (s 4)), (bV (s 5)), (bV (s 6)), (bV (s 7)), (bV (s 8)), (bV (s 9)), (bV (s 10)), (bV (s 11)), (bV (s 12)), (bV (s 13)), (bV (s 14)), (bV (s 15)), nv], 30⟩] : List Bx)) w137 := hs138.perm (List.Perm.trans ((List.Perm.refl _).cons _) (List.perm_middle (l₁ := (mX m (v + (N.way (hashN s k) n 0).2 + N.endV (hashN s k) k (N.way (hashN s k) n 0).1) (c + N.endC (hashN s k) k (N.way (hashN s k) n 0).1) : List Bx)) (a := (⟨b15, #[(bV (s 0)), (bV (s 1)), (bV (s 2)), (bV (s 3)), (bV (s 4)), (bV (s 5)), (bV (s 6)), (bV (s 7)), (bV (s 8)), (bV (s 9)), (bV (s 10)), (bV (s 11)), (bV (s 12)), (bV (s 13)), (bV (s 14)), (bV (s 15)), nv], 30⟩ : Bx)) (l₂ := [⟨b10, #[.int .i64 kd, kv, xv], 35⟩, ⟨b5, #[(bV (s 0)), (bV (s 1)), (bV (s 2)), (bV (s 3)), (bV (s 4)), (bV (s 5)), (bV (s 6)), (bV (s 7)), (bV (s 8)), (bV (s 9)), (bV (s 10)), (bV (s 11)), (bV (s 12)), (bV (s 13)), (bV (s 14)), (bV (s 15)), nv], 30⟩])).symm); clear hs138
          exact leave (X' := mX m (v + (N.way (hashN s k) n 0).2 + N.endV (hashN s k) k (N.way (hashN s k) n 0).1) (c + N.endC (hashN s k) k (N.way (hashN s k) n 0).1)) (L := [⟨b15, #[(bV (s 0)), (bV (s 1)), (bV (s 2)), (bV (s 3)), (bV (s 4)), (bV (s 5)), (bV (s 6)), (bV (s 7)), (bV (s 8)), (bV (s 9)), (bV (s 10)), (bV (s 11)), (bV (s 12)), (bV (s 13)), (bV (s 14)), (bV (s 15)), nv], 30⟩, ⟨b10, #[.int .i64 kd, kv, xv], 35⟩, ⟨b5, #[(bV (s 0)), (bV (s 1)), (bV (s 2)), (bV (s 3)), (bV (s 4)), (bV (s 5)), (bV (s 6)), (bV (s 7)), (bV (s 8)), (bV (s 9)), (bV (s 10)), (bV (s 11)), (bV (s 12)), (bV (s 13)), (bV (s 14)), (bV (s 15)), nv], 30⟩]) hs140 (mX_ids _ _ _ _ _) (res_many (vs := [.agg #[(bV (s 0)), (bV (s 1)), (bV (s 2)), (bV (s 3)), (bV (s 4)), (bV (s 5)), (bV (s 6)), (bV (s 7)), (bV (s 8)), (bV (s 9)), (bV (s 10)), (bV (s 11)), (bV (s 12)), (bV (s 13)), (bV (s 14)), (bV (s 15)), nv], y0, .bool false]) rfl (.agg (m := 17) (us := [(bV (s 0)), (bV (s 1)), (bV (s 2)), (bV (s 3)), (bV (s 4)), (bV (s 5)), (bV (s 6)), (bV (s 7)), (bV (s 8)), (bV (s 9)), (bV (s 10)), (bV (s 11)), (bV (s 12)), (bV (s 13)), (bV (s 14)), (bV (s 15)), nv]) rfl rfl (by kernel_rfl) (hs140.box (List.mem_append_right _ (.head _))) (by kernel_rfl) rfl (.tmp rfl rfl (.tmp rfl rfl .nil))) rfl) (by have e : stepN s kd k x n l = _ := (if_neg (by omega)).trans ((if_neg (by omega)).trans (if_pos (by assumption))); exact ⟨nv, y0, by rw [e]; simp only [h130, Bool.true_and, Bool.false_and], by rw [e]; exact (hn.up le125), by rw [e]; exact (hy.up le125), by rw [e]; exact mX_congr (Nat.add_assoc _ _ _) rfl⟩)
      ·
        have p141 := of_decide_eq_false h113
        refine wp_skip ?_
        refine hK28 _ _ ?_; (try clear hK28 K27)
        refine wp_seq_k fun K142 hK143 => ?_
        refine wl_begin ?_
        refine sq (r_loadN (m := 17) (vs := [(bV (s 0)), (bV (s 1)), (bV (s 2)), (bV (s 3)), (bV (s 4)), (bV (s 5)), (bV (s 6)), (bV (s 7)), (bV (s 8)), (bV (s 9)), (bV (s 10)), (bV (s 11)), (bV (s 12)), (bV (s 13)), (bV (s 14)), (bV (s 15)), nv]) rfl (by kernel_rfl) rfl (hs25.box (.tail _ (.tail _ (.head _)))) (by kernel_rfl) rfl) rfl ?_
        refine sq (r_move rfl) rfl ?_
        refine sqo rfl fun K144 hK145 => ow_storeK (vs := [(bV (s 0)), (bV (s 1)), (bV (s 2)), (bV (s 3)), (bV (s 4)), (bV (s 5)), (bV (s 6)), (bV (s 7)), (bV (s 8)), (bV (s 9)), (bV (s 10)), (bV (s 11)), (bV (s 12)), (bV (s 13)), (bV (s 14)), (bV (s 15)), nv]) (cs' := #[(bV (s 0)), (bV (s 1)), (bV (s 2)), (bV (s 3)), (bV (s 4)), (bV (s 5)), (bV (s 6)), (bV (s 7)), (bV (s 8)), (bV (s 9)), (bV (s 10)), (bV (s 11)), (bV (s 12)), (bV (s 13)), (bV (s 14)), (bV (s 15)), nv]) hs25 rfl rfl (by kernel_rfl) rfl rfl (.cons trivial (.cons trivial (.cons trivial (.cons trivial (.cons trivial (.cons trivial (.cons trivial (.cons trivial (.cons trivial (.cons trivial (.cons trivial (.cons trivial (.cons trivial (.cons trivial (.cons trivial (.cons trivial (.cons hn.one .nil))))))))))))))))) (by kernel_rfl) (by kernel_rfl) ?_
        rintro w146 (hs147 : St w0 I (ids (mX m (v) (c))) I (⟨b15, #[(bV (s 0)), (bV (s 1)), (bV (s 2)), (bV (s 3)), (bV (s 4)), (bV (s 5)), (bV (s 6)), (bV (s 7)), (bV (s 8)), (bV (s 9)), (bV (s 10)), (bV (s 11)), (bV (s 12)), (bV (s 13)), (bV (s 14)), (bV (s 15)), nv], 30⟩ :: (⟨b10, #[.int .i64 kd, kv, xv], 35⟩ :: (⟨b5, #[(bV (s 0)), (bV (s 1)), (bV (s 2)), (bV (s 3)), (bV (s 4)), (bV (s 5)), (bV (s 6)), (bV (s 7)), (bV (s 8)), (bV (s 9)), (bV (s 10)), (bV (s 11)), (bV (s 12)), (bV (s 13)), (bV (s 14)), (bV (s 15)), nv], 30⟩ :: (mX m (v) (c) ++ [])))) w146)
        clear hs25
        refine hK145 _ _ ?_; clear hK145 K144
        refine sq (r_assign rfl) rfl ?_
        refine sq (r_assign rfl) rfl ?_
        refine wl_nil ?_
        refine hK143 _ _ ?_; (try clear hK143 K142)
        refine wp_ret ?_
        have hs148 : St w0 I (ids (mX m (v) (c))) I (mX m (v) (c) ++ ([⟨b15, #[(bV (s 0)), (bV (s 1)), (bV (s 2)), (bV (s 3)), (bV (s 4)), (bV (s 5)), (bV (s 6)), (bV (s 7)), (bV (s 8)), (bV (s 9)), (bV (s 10)), (bV (s 11)), (bV (s 12)), (bV (s 13)), (bV (s 14)), (bV (s 15)), nv], 30⟩, ⟨b10, #[.int .i64 kd, kv, xv], 35⟩, ⟨b5, #[(bV (s 0)), (bV (s 1)), (bV (s 2)), (bV (s 3)), (bV (s 4)), (bV (s 5)), (bV (s 6)), (bV (s 7)), (bV (s 8)), (bV (s 9)), (bV (s 10)), (bV (s 11)), (bV (s 12)), (bV (s 13)), (bV (s 14)), (bV (s 15)), nv], 30⟩] : List Bx)) w146 := hs147.perm (List.Perm.trans ((List.Perm.trans ((List.Perm.trans ((List.Perm.refl _).cons _) (List.perm_middle (l₁ := (mX m (v) (c) : List Bx)) (a := (⟨b5, #[(bV (s 0)), (bV (s 1)), (bV (s 2)), (bV (s 3)), (bV (s 4)), (bV (s 5)), (bV (s 6)), (bV (s 7)), (bV (s 8)), (bV (s 9)), (bV (s 10)), (bV (s 11)), (bV (s 12)), (bV (s 13)), (bV (s 14)), (bV (s 15)), nv], 30⟩ : Bx)) (l₂ := [])).symm).cons _) (List.perm_middle (l₁ := (mX m (v) (c) : List Bx)) (a := (⟨b10, #[.int .i64 kd, kv, xv], 35⟩ : Bx)) (l₂ := [⟨b5, #[(bV (s 0)), (bV (s 1)), (bV (s 2)), (bV (s 3)), (bV (s 4)), (bV (s 5)), (bV (s 6)), (bV (s 7)), (bV (s 8)), (bV (s 9)), (bV (s 10)), (bV (s 11)), (bV (s 12)), (bV (s 13)), (bV (s 14)), (bV (s 15)), nv], 30⟩])).symm).cons _) (List.perm_middle (l₁ := (mX m (v) (c) : List Bx)) (a := (⟨b15, #[(bV (s 0)), (bV (s 1)), (bV (s 2)), (bV (s 3)), (bV (s 4)), (bV (s 5)), (bV (s 6)), (bV (s 7)), (bV (s 8)), (bV (s 9)), (bV (s 10)), (bV (s 11)), (bV (s 12)), (bV (s 13)), (bV (s 14)), (bV (s 15)), nv], 30⟩ : Bx)) (l₂ := [⟨b10, #[.int .i64 kd, kv, xv], 35⟩, ⟨b5, #[(bV (s 0)), (bV (s 1)), (bV (s 2)), (bV (s 3)), (bV (s 4)), (bV (s 5)), (bV (s 6)), (bV (s 7)), (bV (s 8)), (bV (s 9)), (bV (s 10)), (bV (s 11)), (bV (s 12)), (bV (s 13)), (bV (s 14)), (bV (s 15)), nv], 30⟩])).symm); clear hs147
        exact leave (X' := mX m (v) (c)) (L := [⟨b15, #[(bV (s 0)), (bV (s 1)), (bV (s 2)), (bV (s 3)), (bV (s 4)), (bV (s 5)), (bV (s 6)), (bV (s 7)), (bV (s 8)), (bV (s 9)), (bV (s 10)), (bV (s 11)), (bV (s 12)), (bV (s 13)), (bV (s 14)), (bV (s 15)), nv], 30⟩, ⟨b10, #[.int .i64 kd, kv, xv], 35⟩, ⟨b5, #[(bV (s 0)), (bV (s 1)), (bV (s 2)), (bV (s 3)), (bV (s 4)), (bV (s 5)), (bV (s 6)), (bV (s 7)), (bV (s 8)), (bV (s 9)), (bV (s 10)), (bV (s 11)), (bV (s 12)), (bV (s 13)), (bV (s 14)), (bV (s 15)), nv], 30⟩]) hs148 (mX_ids _ _ _ _ _) (res_many (vs := [.agg #[(bV (s 0)), (bV (s 1)), (bV (s 2)), (bV (s 3)), (bV (s 4)), (bV (s 5)), (bV (s 6)), (bV (s 7)), (bV (s 8)), (bV (s 9)), (bV (s 10)), (bV (s 11)), (bV (s 12)), (bV (s 13)), (bV (s 14)), (bV (s 15)), nv], y0, .bool true]) rfl (.agg (m := 17) (us := [(bV (s 0)), (bV (s 1)), (bV (s 2)), (bV (s 3)), (bV (s 4)), (bV (s 5)), (bV (s 6)), (bV (s 7)), (bV (s 8)), (bV (s 9)), (bV (s 10)), (bV (s 11)), (bV (s 12)), (bV (s 13)), (bV (s 14)), (bV (s 15)), nv]) rfl rfl (by kernel_rfl) (hs148.box (List.mem_append_right _ (.head _))) (by kernel_rfl) rfl (.tmp rfl rfl (.tmp rfl rfl .nil))) rfl) (by have e : stepN s kd k x n l = _ := (if_neg (by omega)).trans ((if_neg (by omega)).trans (if_neg (by omega))); exact ⟨_, _, by rw [e], by rw [e]; exact hn, by rw [e]; exact hy, by rw [e]; rfl⟩)
end Go.Proofs.YtlnlodfnplkckaaDoor
/- The order of keys; sorted trees: what is in them; even trees: how high they are. Each theorem's conditions stand in it. -/
namespace Go.Proofs.YtlnlodfnplkckaaDoor
set_option linter.unusedVariables false
/-! ### The order of keys -/
theorem cmpB_self : ∀ k : Bs, cmpB k k = 0
  | [] => rfl
  | a :: k => by simp [cmpB, UInt8.lt_irrefl, cmpB_self k]
theorem cmpB_val : ∀ a b : Bs, cmpB a b = -1 ∨ cmpB a b = 0 ∨ cmpB a b = 1
  | [], [] => .inr (.inl rfl)
  | [], _ :: _ => .inl rfl
  | _ :: _, [] => .inr (.inr rfl)
  | x :: a, y :: b => by
    unfold cmpB
    split
    · exact .inl rfl
    · split
      · exact .inr (.inr rfl)
      · exact cmpB_val a b
theorem cmpB_eq : ∀ {a b : Bs}, cmpB a b = 0 → a = b
  | [], [], _ => rfl
  | [], _ :: _, h => by cases h
  | _ :: _, [], h => by cases h
  | x :: a, y :: b, h => by
    unfold cmpB at h
    split at h
    · cases h
    · split at h
      · cases h
      · rename_i h1 h2
        have : x = y := by
          rw [UInt8.lt_iff_toNat_lt] at h1 h2
          exact UInt8.toNat_inj.1 (by omega)
        rw [this, cmpB_eq h]
theorem cmpB_swap : ∀ a b : Bs, cmpB b a = - cmpB a b
  | [], [] => rfl
  | [], _ :: _ => rfl
  | _ :: _, [] => rfl
  | x :: a, y :: b => by
    have ih := cmpB_swap a b
    unfold cmpB
    by_cases h1 : x < y
    · have h2 : ¬ y < x := by rw [UInt8.lt_iff_toNat_lt] at *; omega
      rw [if_neg h2, if_pos h1, if_pos h1]; rfl
    · by_cases h2 : y < x
      · rw [if_pos h2, if_neg h1, if_pos h2]
      · rw [if_neg h2, if_neg h1, if_neg h1, if_neg h2, ih]
theorem cmpB_trans : ∀ {a b c : Bs}, cmpB a b = -1 → cmpB b c = -1 → cmpB a c = -1
  | [], _, [], h1, h2 => by
    rename_i b
    cases b <;> cases h1
    cases h2
  | [], _, _ :: _, _, _ => rfl
  | _ :: _, [], _, h1, _ => by cases h1
  | _ :: _, _ :: _, [], _, h2 => by cases h2
  | x :: a, y :: b, z :: c, h1, h2 => by
    unfold cmpB at h1 h2 ⊢
    by_cases hxz : x < z
    · rw [if_pos hxz]
    · rw [if_neg hxz]
      split at h1
      · rename_i hxy
        split at h2
        · rename_i hyz
          exfalso; rw [UInt8.lt_iff_toNat_lt] at *; omega
        · split at h2
          · cases h2
          · rename_i hyz hzy
            exfalso; rw [UInt8.lt_iff_toNat_lt] at *; omega
      · split at h1
        · cases h1
        · rename_i hxy hyx
          split at h2
          · rename_i hyz
            exfalso; rw [UInt8.lt_iff_toNat_lt] at *; omega
          · split at h2
            · cases h2
            · rename_i hyz hzy
              rw [if_neg (by rw [UInt8.lt_iff_toNat_lt] at *; omega)]
              exact cmpB_trans h1 h2
theorem cmpB_lt_ne {a b : Bs} (h : cmpB a b = -1) : a ≠ b := fun e => by rw [e, cmpB_self] at h; cases h

/-! ### Lists of pairs -/
/-- Sorted, no key twice. -/
def Srt (l : List (Bs × Bs)) : Prop := l.Pairwise fun p q => cmpB p.1 q.1 = -1
theorem getL_nil (k : Bs) : getL [] k = none := rfl
theorem getL_cons (p : Bs × Bs) (l : List (Bs × Bs)) (k : Bs) : getL (p :: l) k = if p.1 = k then some p.2 else getL l k := by
  unfold getL
  by_cases h : p.1 = k
  · rw [List.find?_cons_of_pos (by simpa using h), if_pos h]; rfl
  · rw [List.find?_cons_of_neg (by simpa using h), if_neg h]
theorem getL_append (l m : List (Bs × Bs)) (k : Bs) : getL (l ++ m) k = (getL l k).or (getL m k) := by
  induction l with
  | nil => rfl
  | cons p l ih =>
    rw [List.cons_append, getL_cons, getL_cons, ih]
    split <;> rfl
theorem getL_no {l : List (Bs × Bs)} {k : Bs} (h : ∀ p ∈ l, p.1 ≠ k) : getL l k = none := by
  induction l with
  | nil => rfl
  | cons p l ih =>
    rw [getL_cons, if_neg (h p (.head _))]
    exact ih fun q hq => h q (.tail _ hq)
theorem getL_some {l : List (Bs × Bs)} {k x : Bs} (h : getL l k = some x) : (k, x) ∈ l := by
  induction l with
  | nil => cases h
  | cons p l ih =>
    rw [getL_cons] at h
    split at h
    · rename_i e; cases h; rw [← e]; exact .head _
    · exact .tail _ (ih h)
theorem Srt.mid {l r : List (Bs × Bs)} {p : Bs × Bs} (h : Srt (l ++ p :: r)) : Srt l ∧ Srt r ∧ (∀ q ∈ l, cmpB q.1 p.1 = -1) ∧ (∀ q ∈ r, cmpB p.1 q.1 = -1) ∧ ∀ q ∈ l, ∀ q' ∈ r, cmpB q.1 q'.1 = -1 := by
  unfold Srt at h
  rw [List.pairwise_append] at h
  obtain ⟨h1, h2, h3⟩ := h
  rw [List.pairwise_cons] at h2
  exact ⟨h1, h2.2, fun q hq => h3 q hq p (.head _), h2.1, fun q hq q' hq' => h3 q hq q' (.tail _ hq')⟩
theorem Srt.mk {l r : List (Bs × Bs)} {p : Bs × Bs} (h1 : Srt l) (h2 : Srt r) (h3 : ∀ q ∈ l, cmpB q.1 p.1 = -1) (h4 : ∀ q ∈ r, cmpB p.1 q.1 = -1) : Srt (l ++ p :: r) := by
  unfold Srt
  rw [List.pairwise_append]
  refine ⟨h1, List.pairwise_cons.2 ⟨h4, h2⟩, fun q hq q' hq' => ?_⟩
  cases hq' with
  | head => exact h3 q hq
  | tail _ hq' => exact cmpB_trans (h3 q hq) (h4 q' hq')
theorem Srt.app {l r : List (Bs × Bs)} (h1 : Srt l) (h2 : Srt r) (h : ∀ q ∈ l, ∀ q' ∈ r, cmpB q.1 q'.1 = -1) : Srt (l ++ r) := by
  unfold Srt; rw [List.pairwise_append]; exact ⟨h1, h2, h⟩

namespace T
/-! ### What is in a sorted tree -/
section
variable {l r : List (Bs × Bs)} {tk tx k : Bs} (h : Srt (l ++ (tk, tx) :: r))
include h
theorem mid_lt (hk : cmpB k tk = -1) : getL (l ++ (tk, tx) :: r) k = getL l k := by
  rw [getL_append, getL_cons, if_neg (fun e => by rw [← e, cmpB_self] at hk; cases hk), getL_no (l := r), Option.or_none]
  intro p hp e
  have := cmpB_trans hk (h.mid.2.2.2.1 p hp)
  rw [e, cmpB_self] at this; cases this
theorem mid_gt (hk : cmpB k tk = 1) : getL (l ++ (tk, tx) :: r) k = getL r k := by
  have hk' : cmpB tk k = -1 := by rw [cmpB_swap, hk]
  rw [getL_append, getL_cons, if_neg (fun e => by rw [← e, cmpB_self] at hk; cases hk), getL_no (l := l), Option.none_or]
  intro p hp e
  have := cmpB_trans (h.mid.2.2.1 p hp) hk'
  rw [e, cmpB_self] at this; cases this
theorem mid_eq (hk : k = tk) : getL (l ++ (tk, tx) :: r) k = some tx := by
  subst hk
  rw [getL_append, getL_cons, if_pos rfl, getL_no (l := l), Option.none_or]
  intro p hp e
  have := h.mid.2.2.1 p hp
  simp only at this
  rw [e, cmpB_self] at this; cases this
end
theorem get_eq : ∀ (t : T) (k : Bs), Srt t.toList → t.get k = getL t.toList k
  | .nil, _, _ => rfl
  | .node l tk tx r, k, h => by
    have h' : Srt (l.toList ++ (tk, tx) :: r.toList) := h
    simp only [get, toList]
    by_cases h0 : cmpB k tk = 0
    · rw [if_pos h0, mid_eq h' (cmpB_eq h0)]
    · rw [if_neg h0]
      by_cases h1 : cmpB k tk = 1
      · rw [if_pos h1, mid_gt h' h1, get_eq r k h'.mid.2.1]
      · rw [if_neg h1, mid_lt h' (by rcases cmpB_val k tk with z | z | z <;> first | exact z | exact absurd z h0 | exact absurd z h1), get_eq l k h'.mid.1]
theorem put_mem : ∀ (t : T) (k x : Bs), ∀ p ∈ (t.put k x).toList, p = (k, x) ∨ p ∈ t.toList
  | .nil, k, x, p, hp => by
    have : p ∈ [(k, x)] := hp
    simp only [List.mem_singleton] at this; exact .inl this
  | .node l tk tx r, k, x, p, hp => by
    simp only [put] at hp
    simp only [toList, List.mem_append, List.mem_cons]
    split at hp
    · simp only [toList, List.mem_append, List.mem_cons] at hp
      rcases hp with h | h | h
      · exact .inr (.inl h)
      · exact .inl h
      · exact .inr (.inr (.inr h))
    · split at hp
      · rw [toList_even, List.mem_append, List.mem_cons] at hp
        rcases hp with h | h | h
        · exact .inr (.inl h)
        · exact .inr (.inr (.inl h))
        · rcases put_mem r k x p h with z | z
          · exact .inl z
          · exact .inr (.inr (.inr z))
      · rw [toList_even, List.mem_append, List.mem_cons] at hp
        rcases hp with h | h | h
        · rcases put_mem l k x p h with z | z
          · exact .inl z
          · exact .inr (.inl z)
        · exact .inr (.inr (.inl h))
        · exact .inr (.inr (.inr h))
theorem put_srt : ∀ (t : T) (k x : Bs), Srt t.toList → Srt (t.put k x).toList
  | .nil, _, _, _ => List.pairwise_singleton _ _
  | .node l tk tx r, k, x, h => by
    have h' : Srt (l.toList ++ (tk, tx) :: r.toList) := h
    obtain ⟨h1, h2, h3, h4, h5⟩ := h'.mid
    simp only [put]
    split
    · rename_i h0
      have e := cmpB_eq h0
      exact Srt.mk h1 h2 (by rw [e]; exact h3) (by rw [e]; exact h4)
    · split
      · rename_i h0 hk
        rw [toList_even]
        refine Srt.mk h1 (put_srt r k x h2) h3 fun q hq => ?_
        rcases put_mem r k x q hq with rfl | hq
        · simp only; rw [cmpB_swap, hk]
        · exact h4 q hq
      · rename_i h0 hk
        rw [toList_even]
        refine Srt.mk (put_srt l k x h1) h2 (fun q hq => ?_) h4
        rcases put_mem l k x q hq with rfl | hq
        · rcases cmpB_val k tk with z | z | z <;> first | exact z | exact absurd z h0 | exact absurd z hk
        · exact h3 q hq
theorem put_get : ∀ (t : T) (k x k' : Bs), Srt t.toList → getL (t.put k x).toList k' = if k' = k then some x else getL t.toList k'
  | .nil, k, x, k', _ => by
    show getL [(k, x)] k' = _
    rw [getL_cons]
    by_cases e : k' = k
    · rw [if_pos e.symm, if_pos e]
    · rw [if_neg (Ne.symm e), if_neg e]; rfl
  | .node l tk tx r, k, x, k', h => by
    have hs := put_srt (.node l tk tx r) k x h
    have h' : Srt (l.toList ++ (tk, tx) :: r.toList) := h
    obtain ⟨h1, h2, h3, h4, h5⟩ := h'.mid
    simp only [put] at hs ⊢
    by_cases h0 : cmpB k tk = 0
    · rw [if_pos h0] at hs ⊢
      have e := cmpB_eq h0
      subst e
      have hs' : Srt (l.toList ++ (k, x) :: r.toList) := hs
      simp only [toList]
      rcases cmpB_val k' k with z | z | z
      · rw [mid_lt hs' z, mid_lt h' z, if_neg (cmpB_lt_ne z)]
      · have e := cmpB_eq z
        rw [mid_eq hs' e, if_pos e]
      · rw [mid_gt hs' z, mid_gt h' z, if_neg (fun e => by rw [e, cmpB_self] at z; cases z)]
    · rw [if_neg h0] at hs ⊢
      by_cases hk : cmpB k tk = 1
      · rw [if_pos hk] at hs ⊢
        rw [toList_even] at hs ⊢
        simp only [toList]
        rcases cmpB_val k' tk with z | z | z
        · rw [mid_lt hs z, mid_lt h' z, if_neg (fun e => by rw [e, hk] at z; cases z)]
        · rw [mid_eq hs (cmpB_eq z), mid_eq h' (cmpB_eq z), if_neg (fun e => by rw [e] at z; exact h0 z)]
        · rw [mid_gt hs z, mid_gt h' z, put_get r k x k' h2]
      · rw [if_neg hk] at hs ⊢
        have hk' : cmpB k tk = -1 := by rcases cmpB_val k tk with z | z | z <;> first | exact z | exact absurd z h0 | exact absurd z hk
        rw [toList_even] at hs ⊢
        simp only [toList]
        rcases cmpB_val k' tk with z | z | z
        · rw [mid_lt hs z, mid_lt h' z, put_get l k x k' h1]
        · rw [mid_eq hs (cmpB_eq z), mid_eq h' (cmpB_eq z), if_neg (fun e => by rw [e] at z; exact h0 z)]
        · rw [mid_gt hs z, mid_gt h' z, if_neg (fun e => by rw [e, hk'] at z; cases z)]
theorem put_size : ∀ (t : T) (k x : Bs), Srt t.toList → (t.put k x).size = t.size + if (getL t.toList k).isSome then 0 else 1
  | .nil, _, _, _ => rfl
  | .node l tk tx r, k, x, h => by
    have h' : Srt (l.toList ++ (tk, tx) :: r.toList) := h
    obtain ⟨h1, h2, _⟩ := h'.mid
    have e : (T.node l tk tx r).toList = l.toList ++ (tk, tx) :: r.toList := rfl
    rw [e]
    simp only [put]
    by_cases h0 : cmpB k tk = 0
    · rw [if_pos h0, mid_eq h' (cmpB_eq h0)]; rfl
    · rw [if_neg h0]
      by_cases hk : cmpB k tk = 1
      · rw [if_pos hk, size_even, mid_gt h' hk, put_size r k x h2]; simp only [size]; omega
      · rw [if_neg hk, size_even, mid_lt h' (by rcases cmpB_val k tk with z | z | z <;> first | exact z | exact absurd z h0 | exact absurd z hk), put_size l k x h1]; simp only [size]; omega
theorem del_some : ∀ (t : T) (k : Bs), Srt t.toList → (t.del k).isSome = (getL t.toList k).isSome
  | .nil, _, _ => rfl
  | .node l tk tx r, k, h => by
    have h' : Srt (l.toList ++ (tk, tx) :: r.toList) := h
    obtain ⟨h1, h2, _⟩ := h'.mid
    simp only [del, toList]
    by_cases h0 : cmpB k tk = 0
    · rw [if_pos h0, mid_eq h' (cmpB_eq h0)]; rfl
    · rw [if_neg h0]
      by_cases hk : cmpB k tk = 1
      · rw [if_pos hk, Option.isSome_map, mid_gt h' hk, del_some r k h2]
      · rw [if_neg hk, Option.isSome_map, mid_lt h' (by rcases cmpB_val k tk with z | z | z <;> first | exact z | exact absurd z h0 | exact absurd z hk), del_some l k h1]
theorem del_list : ∀ (t : T) (k : Bs) (t' : T), Srt t.toList → t.del k = some t' → t'.toList = t.toList.filter fun p => !decide (p.1 = k)
  | .nil, _, _, _, hd => by cases hd
  | .node l tk tx r, k, t', h, hd => by
    have h' : Srt (l.toList ++ (tk, tx) :: r.toList) := h
    obtain ⟨h1, h2, h3, h4, h5⟩ := h'.mid
    have all : ∀ {m : List (Bs × Bs)}, (∀ q ∈ m, q.1 ≠ k) → m.filter (fun p => !decide (p.1 = k)) = m := fun hm => List.filter_eq_self.2 fun q hq => by simpa using hm q hq
    simp only [del] at hd
    simp only [toList]
    by_cases h0 : cmpB k tk = 0
    · rw [if_pos h0] at hd
      cases hd
      have e := cmpB_eq h0
      subst e
      rw [toList_pair, List.filter_append, List.filter_cons_of_neg (by simp), all (fun q hq => cmpB_lt_ne (h3 q hq)), all (fun q hq => (cmpB_lt_ne (h4 q hq)).symm)]
    · rw [if_neg h0] at hd
      by_cases hk : cmpB k tk = 1
      · rw [if_pos hk] at hd
        cases hr : r.del k with
        | none => rw [hr] at hd; cases hd
        | some u =>
          rw [hr] at hd
          cases hd
          have hk' : cmpB tk k = -1 := by rw [cmpB_swap, hk]
          rw [toList_even, del_list r k u h2 hr, List.filter_append, List.filter_cons_of_pos (by simpa using cmpB_lt_ne hk'), all (fun q hq => cmpB_lt_ne (cmpB_trans (h3 q hq) hk'))]
      · rw [if_neg hk] at hd
        have hk' : cmpB k tk = -1 := by rcases cmpB_val k tk with z | z | z <;> first | exact z | exact absurd z h0 | exact absurd z hk
        cases hr : l.del k with
        | none => rw [hr] at hd; cases hd
        | some u =>
          rw [hr] at hd
          cases hd
          rw [toList_even, del_list l k u h1 hr, List.filter_append, List.filter_cons_of_pos (by simpa using (cmpB_lt_ne hk').symm), all (m := r.toList) (fun q hq => (cmpB_lt_ne (cmpB_trans hk' (h4 q hq))).symm)]
end T
theorem getL_filter (l : List (Bs × Bs)) (k k' : Bs) : getL (l.filter fun p => !decide (p.1 = k)) k' = if k' = k then none else getL l k' := by
  induction l with
  | nil => split <;> rfl
  | cons p l ih =>
    rw [getL_cons]
    by_cases h : p.1 = k
    · rw [List.filter_cons_of_neg (by simpa using h), ih]
      by_cases e : k' = k
      · rw [if_pos e, if_pos e]
      · rw [if_neg e, if_neg e, if_neg (fun z => e (by rw [← z, h]))]
    · rw [List.filter_cons_of_pos (by simpa using h), getL_cons, ih]
      by_cases e : k' = k
      · rw [if_pos e, if_pos e, if_neg (fun z => h (by rw [z, e]))]
      · rw [if_neg e, if_neg e]
theorem Srt.filter {l : List (Bs × Bs)} (h : Srt l) (p : Bs × Bs → Bool) : Srt (l.filter p) := List.Pairwise.filter _ h

namespace T
/-! ### Even trees -/
def Bal : T → Prop
  | .nil => True
  | .node l _ _ r => evenB l.size r.size = true ∧ l.Bal ∧ r.Bal
theorem even_half (n : Nat) : evenB (n / 2) (n - 1 - n / 2) = true := by
  unfold evenB
  rw [Bool.and_eq_true, decide_eq_true_iff, decide_eq_true_iff]
  omega
theorem Bal.fromL (l : List (Bs × Bs)) : (T.fromL l).Bal := by
  induction hn : l.length using Nat.strongRecOn generalizing l with
  | _ n ih =>
    by_cases h : l = []
    · subst h; rw [T.fromL]; trivial
    · have hp := List.length_pos_iff.2 h
      rw [fromL_ne h]
      refine ⟨?_, ih _ (by simp only [List.length_take]; omega) _ rfl, ih _ (by simp only [List.length_drop]; omega) _ rfl⟩
      rw [size_fromL, size_fromL, List.length_take, List.length_drop, Nat.min_eq_left (by omega)]
      have := even_half l.length
      rwa [show l.length - 1 - l.length / 2 = l.length - (l.length / 2 + 1) by omega] at this
theorem Bal.turnL {l : T} {k x : Bs} {r t : T} (hl : l.Bal) (hr : r.Bal) (h : T.turnL l k x r = some t) : t.Bal := by
  cases r with
  | nil => cases h
  | node i k2 x2 o =>
    obtain ⟨_, hi, ho⟩ := hr
    simp only [T.turnL] at h
    split at h
    · rename_i hs
      cases h
      unfold singleB at hs
      rw [Bool.and_eq_true] at hs
      refine ⟨?_, ⟨hs.1, hl, hi⟩, ho⟩
      simp only [size]
      rw [show l.size + 1 + i.size = l.size + i.size + 1 by omega]; exact hs.2
    · cases i with
      | nil => cases h
      | node il k3 x3 ir =>
        simp only at h
        split at h
        · rename_i hs
          cases h
          rw [Bool.and_eq_true, Bool.and_eq_true] at hs
          exact ⟨hs.2, ⟨hs.1.1, hl, hi.2.1⟩, ⟨hs.1.2, hi.2.2, ho⟩⟩
        · cases h
theorem evenB_swap (a b : Nat) : evenB a b = evenB b a := by unfold evenB; rw [Bool.and_comm]
theorem Bal.turnR {l : T} {k x : Bs} {r t : T} (hl : l.Bal) (hr : r.Bal) (h : T.turnR r k x l = some t) : t.Bal := by
  cases l with
  | nil => cases h
  | node o k2 x2 i =>
    obtain ⟨_, ho, hi⟩ := hl
    simp only [T.turnR] at h
    split at h
    · rename_i hs
      cases h
      unfold singleB at hs
      rw [Bool.and_eq_true] at hs
      refine ⟨?_, ho, ⟨by rw [evenB_swap]; exact hs.1, hi, hr⟩⟩
      simp only [size]
      rw [evenB_swap, show i.size + 1 + r.size = r.size + i.size + 1 by omega]; exact hs.2
    · cases i with
      | nil => cases h
      | node il k3 x3 ir =>
        simp only at h
        split at h
        · rename_i hs
          cases h
          rw [Bool.and_eq_true, Bool.and_eq_true] at hs
          refine ⟨?_, ⟨by rw [evenB_swap]; exact hs.1.2, ho, hi.2.1⟩, ⟨by rw [evenB_swap]; exact hs.1.1, hi.2.2, hr⟩⟩
          simp only [size]
          rw [evenB_swap, show ir.size + 1 + r.size = r.size + 1 + ir.size by omega, show o.size + 1 + il.size = il.size + 1 + o.size by omega]
          exact hs.2
        · cases h
theorem Bal.even {l : T} {k x : Bs} {r : T} (hl : l.Bal) (hr : r.Bal) : (T.even l k x r).Bal := by
  unfold T.even
  split
  · rename_i h; exact ⟨h, hl, hr⟩
  · split
    · cases ht : T.turnL l k x r with
      | none => exact Bal.fromL _
      | some t => exact Bal.turnL hl hr ht
    · cases ht : T.turnR r k x l with
      | none => exact Bal.fromL _
      | some t => exact Bal.turnR hl hr ht
theorem Bal.join {l : T} {k x : Bs} {r : T} (hl : l.Bal) (hr : r.Bal) : (T.join l k x r).Bal := by
  induction hn : l.size + r.size using Nat.strongRecOn generalizing l r with
  | _ n ih =>
    rw [join.eq_def]
    split
    · rename_i h; exact ⟨h, hl, hr⟩
    · rename_i hne
      split
      · cases l with
        | nil => rename_i h; simp only [size] at h; omega
        | node ll lk lx lr =>
          simp only
          exact Bal.even hl.2.1 (ih _ (by simp only [size] at hn; omega) hl.2.2 hr rfl)
      · cases r with
        | nil =>
          rename_i h
          have h0 : l.size = 0 := by simp only [size] at h; omega
          exact absurd (by rw [h0]; simp [evenB, size]) hne
        | node rl rk rx rr =>
          simp only
          exact Bal.even (ih _ (by simp only [size] at hn; omega) hl hr.2.1 rfl) hr.2.2
theorem Bal.first : ∀ (l : T) (k x : Bs) (r : T), (T.node l k x r).Bal → (T.first l k x r).2.2.1.Bal
  | .nil, _, _, _, h => h.2.2
  | .node ll lk lx lr, k, x, r, h => Bal.even (Bal.first ll lk lx lr h.2.1) h.2.2
theorem Bal.pair {l r : T} (hl : l.Bal) (hr : r.Bal) : (T.pair l r).1.Bal := by
  cases l with
  | nil => exact hr
  | node ll lk lx lr =>
    cases r with
    | nil => exact hl
    | node rl rk rx rr => exact Bal.join hl (Bal.first _ _ _ _ hr)
theorem Bal.put : ∀ {t : T} (k x : Bs), t.Bal → (t.put k x).Bal
  | .nil, _, _, _ => ⟨by simp [evenB, size], trivial, trivial⟩
  | .node l tk tx r, k, x, h => by
    simp only [T.put]
    split
    · exact h
    · split
      · exact Bal.even h.2.1 (Bal.put k x h.2.2)
      · exact Bal.even (Bal.put k x h.2.1) h.2.2
theorem Bal.del : ∀ {t t' : T} {k : Bs}, t.Bal → t.del k = some t' → t'.Bal
  | .nil, _, _, _, hd => by cases hd
  | .node l tk tx r, t', k, h, hd => by
    simp only [T.del] at hd
    split at hd
    · cases hd; exact Bal.pair h.2.1 h.2.2
    · split at hd
      · cases hr : r.del k with
        | none => rw [hr] at hd; cases hd
        | some u => rw [hr] at hd; cases hd; exact Bal.even h.2.1 (Bal.del h.2.2 hr)
      · cases hr : l.del k with
        | none => rw [hr] at hd; cases hd
        | some u => rw [hr] at hd; cases hd; exact Bal.even (Bal.del h.2.1 hr) h.2.2

/-! ### Heights -/
def ht : T → Nat
  | .nil => 0
  | .node l _ _ r => 1 + max l.ht r.ht
theorem path_le : ∀ (t : T) (k : Bs), t.path k ≤ t.ht
  | .nil, _ => Nat.le_refl _
  | .node l tk _ r, k => by
    have h1 := path_le l k
    have h2 := path_le r k
    simp only [path, ht]
    split
    · omega
    · split <;> omega
theorem first_le : ∀ (l : T) (k x : Bs) (r : T), (first l k x r).2.2.2 ≤ (T.node l k x r).ht
  | .nil, _, _, _ => by simp only [first, ht]; omega
  | .node ll lk lx lr, k, x, r => by
    have := first_le ll lk lx lr
    simp only [first, ht] at this ⊢
    omega
theorem pair_le (l r : T) : (pair l r).2 ≤ r.ht := by
  cases l with
  | nil => exact Nat.zero_le _
  | node ll lk lx lr =>
    cases r with
    | nil => exact Nat.zero_le _
    | node rl rk rx rr => exact first_le _ _ _ _
theorem delV_le : ∀ (t : T) (k : Bs), t.delV k ≤ t.ht
  | .nil, _ => Nat.le_refl _
  | .node l tk _ r, k => by
    have h1 := delV_le l k
    have h2 := delV_le r k
    have h3 := pair_le l r
    simp only [delV, ht]
    split
    · omega
    · split <;> omega
theorem path_delV : ∀ (t : T) (k : Bs), t.path k ≤ t.delV k
  | .nil, _ => Nat.le_refl _
  | .node l tk _ r, k => by
    have h1 := path_delV l k
    have h2 := path_delV r k
    simp only [path, delV]
    split
    · omega
    · split <;> omega
theorem ht_size : ∀ (t : T), t.Bal → 4 ^ t.ht ≤ 3 ^ t.ht * (t.size + 1)
  | .nil, _ => Nat.le_refl _
  | .node l _ _ r, h => by
    obtain ⟨he, hl, hr⟩ := h
    have h1 := ht_size l hl
    have h2 := ht_size r hr
    unfold evenB at he
    rw [Bool.and_eq_true, decide_eq_true_iff, decide_eq_true_iff] at he
    simp only [ht, size]
    have key : ∀ (n s : Nat), 4 ^ n ≤ 3 ^ n * (s + 1) → 4 * (s + 1) ≤ 3 * (l.size + 1 + r.size + 1) → 4 ^ (1 + n) ≤ 3 ^ (1 + n) * (l.size + 1 + r.size + 1) := by
      intro n s a b
      rw [Nat.pow_add, Nat.pow_add, Nat.pow_one, Nat.pow_one]
      calc 4 * 4 ^ n ≤ 4 * (3 ^ n * (s + 1)) := Nat.mul_le_mul_left _ a
        _ = 3 ^ n * (4 * (s + 1)) := by rw [← Nat.mul_assoc, Nat.mul_comm 4, Nat.mul_assoc]
        _ ≤ 3 ^ n * (3 * (l.size + 1 + r.size + 1)) := Nat.mul_le_mul_left _ b
        _ = 3 * 3 ^ n * (l.size + 1 + r.size + 1) := by rw [← Nat.mul_assoc, Nat.mul_comm (3 ^ n) 3]
    rcases Nat.le_total l.ht r.ht with h' | h'
    · rw [Nat.max_eq_right h']; exact key _ _ h2 (by omega)
    · rw [Nat.max_eq_left h']; exact key _ _ h1 (by omega)
/-- The sixth power of the size is no less than two to the height. -/
theorem ht_six (t : T) (h : t.Bal) : 2 ^ t.ht ≤ (t.size + 1) ^ 6 := by
  have h1 := Nat.pow_le_pow_left (ht_size t h) 6
  rw [Nat.mul_pow, ← Nat.pow_mul, ← Nat.pow_mul, Nat.mul_comm t.ht 6, Nat.pow_mul, Nat.pow_mul] at h1
  have h2 : 2 ^ t.ht * (3 ^ 6) ^ t.ht ≤ (4 ^ 6) ^ t.ht := by
    rw [← Nat.mul_pow]; exact Nat.pow_le_pow_left (by decide) _
  have h3 : (3 ^ 6) ^ t.ht * 2 ^ t.ht ≤ (3 ^ 6) ^ t.ht * (t.size + 1) ^ 6 := by
    rw [Nat.mul_comm] at h2; exact Nat.le_trans h2 h1
  exact Nat.le_of_mul_le_mul_left h3 (Nat.pow_pos (by decide))
end T
end Go.Proofs.YtlnlodfnplkckaaDoor
