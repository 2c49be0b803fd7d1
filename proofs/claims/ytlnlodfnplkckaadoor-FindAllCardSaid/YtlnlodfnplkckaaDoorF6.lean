/- Texts of the walk, laid together. Each theorem's conditions stand in it. -/
import Derived.Test.YtlnlodfnplkckaaDoorF5
/- Layouts as such: pairs sorted, entries parted by their chunks, the node that they make. Each theorem's conditions stand in it. -/
namespace Go.Proofs.YtlnlodfnplkckaaDoor
open T (Sm)
set_option linter.unusedVariables false
/-! ### Pairs of unlike keys, sorted -/
def insK (p : Bs × Bs) : List (Bs × Bs) → List (Bs × Bs)
  | [] => [p]
  | q :: l => if cmpB p.1 q.1 < 0 then p :: q :: l else q :: insK p l
def sortK : List (Bs × Bs) → List (Bs × Bs)
  | [] => []
  | p :: l => insK p (sortK l)
theorem insK_perm (p : Bs × Bs) : ∀ l, (insK p l).Perm (p :: l)
  | [] => .refl _
  | q :: l => by
    simp only [insK]
    split
    · exact .refl _
    · exact ((insK_perm p l).cons q).trans (.swap _ _ _)
theorem sortK_perm : ∀ l, (sortK l).Perm l
  | [] => .refl _
  | p :: l => (insK_perm p _).trans ((sortK_perm l).cons p)
/-- No two keys are one. -/
def Apart (l : List (Bs × Bs)) : Prop := l.Pairwise fun p q => p.1 ≠ q.1
theorem Apart.perm {l m : List (Bs × Bs)} (h : Apart l) (hp : l.Perm m) : Apart m := (hp.pairwise_iff fun {a b} h => Ne.symm h).1 h
theorem not_lt_iff {a b : Bs} (h : ¬ cmpB b a < 0) (hne : a ≠ b) : cmpB a b = -1 := by
  rcases cmpB_val a b with z | z | z
  · exact z
  · exact absurd (cmpB_eq z) hne
  · rw [cmpB_swap, z] at h; exact absurd (by decide) h
theorem Weak.srt {l : List (Bs × Bs)} (h : Weak l) (ha : Apart l) : Srt l :=
  List.Pairwise.imp₂ (fun _ _ h1 h2 => not_lt_iff h1 h2) h ha
theorem insK_srt (p : Bs × Bs) : ∀ {l}, Srt l → (∀ q ∈ l, q.1 ≠ p.1) → Srt (insK p l)
  | [], _, _ => List.pairwise_singleton _ _
  | q :: l, h, hne => by
    have h' := List.pairwise_cons.1 h
    simp only [insK]
    split
    · rename_i hlt
      have hpq : cmpB p.1 q.1 = -1 := by rcases cmpB_val p.1 q.1 with z | z | z <;> omega
      refine List.pairwise_cons.2 ⟨fun x hx => ?_, h⟩
      cases hx with
      | head => exact hpq
      | tail _ hx => exact cmpB_trans hpq (h'.1 x hx)
    · rename_i hlt
      refine List.pairwise_cons.2 ⟨fun x hx => ?_, insK_srt p h'.2 fun x hx => hne x (.tail _ hx)⟩
      rcases List.mem_cons.1 ((insK_perm p l).mem_iff.1 hx) with rfl | hx
      · exact not_lt_iff hlt (hne q (.head _))
      · exact h'.1 x hx
theorem sortK_srt : ∀ {l}, Apart l → Srt (sortK l)
  | [], _ => .nil
  | p :: l, h => by
    have h' := List.pairwise_cons.1 h
    exact insK_srt p (sortK_srt h'.2) fun q hq => (h'.1 q ((sortK_perm l).mem_iff.1 hq)).symm
theorem srt_unique : ∀ {l m : List (Bs × Bs)}, Srt l → Srt m → l.Perm m → l = m
  | [], m, _, _, h => by rw [h.symm.eq_nil]
  | p :: l, [], _, _, h => absurd h.eq_nil (by simp)
  | p :: l, q :: m, h1, h2, h => by
    have a1 := List.pairwise_cons.1 h1
    have a2 := List.pairwise_cons.1 h2
    have e : p = q := by
      rcases List.mem_cons.1 (h.mem_iff.1 (.head _)) with e | hp
      · exact e
      · rcases List.mem_cons.1 (h.mem_iff.2 (.head _)) with e | hq
        · exact e.symm
        · have b1 := a2.1 p hp
          have b2 := a1.1 q hq
          rw [cmpB_swap, b1] at b2
          cases b2
    subst e
    rw [srt_unique a1.2 a2.2 (h.cons_inv)]
theorem sort_unique {l m : List (Bs × Bs)} (h : Weak l) (hp : l.Perm m) (ha : Apart m) : l = sortK m :=
  srt_unique (h.srt (ha.perm hp.symm)) (sortK_srt ha) (hp.trans (sortK_perm m).symm)
/-! ### The layout -/
def setOf (l : EL) (lv : Nat) : Nat := ofN (l.map fun p => chunkN p.1 lv)
def partL (l : EL) (lv c : Nat) : EL := l.filter fun p => decide (chunkN p.1 lv = c)
def layN : Nat → EL → Nat → N
  | 0, l, lv => if l = [] then .none else if mixB l = false then N.ofTree (l.headD (0, [], [])).1 (T.fromL (sortK (l.map (·.2)))) else .none
  | f + 1, l, lv => if l = [] then .none else if mixB l = false then N.ofTree (l.headD (0, [], [])).1 (T.fromL (sortK (l.map (·.2)))) else
      N.mk (setOf l lv) ((bitsL (setOf l lv)).map fun c => layN f (partL l lv c) (lv + 1))
theorem layN_nil (f lv : Nat) : layN f [] lv = .none := by cases f <;> simp [layN]
theorem layN_one {f lv : Nat} {l : EL} (h0 : l ≠ []) (h : mixB l = false) : layN f l lv = N.ofTree (l.headD (0, [], [])).1 (T.fromL (sortK (l.map (·.2)))) := by
  cases f <;> simp [layN, h0, h]
theorem layN_mix {f lv : Nat} {l : EL} (h0 : l ≠ []) (h : mixB l = true) : layN (f + 1) l lv = N.mk (setOf l lv) ((bitsL (setOf l lv)).map fun c => layN f (partL l lv c) (lv + 1)) := by
  simp [layN, h0, h]
theorem setOf_lt (l : EL) (lv : Nat) : setOf l lv < 2 ^ 32 := ofN_lt _
theorem setOf_snoc (l : EL) (q : Nat × Bs × Bs) (lv : Nat) : setOf (l ++ [q]) lv = setOf l lv ||| bitN ((chunkN q.1 lv : Nat) : Int) := by
  unfold setOf; rw [List.map_append]; exact ofN_snoc _ _
theorem setOf_bit (lv c : Nat) : ∀ l : EL, (setOf l lv).testBit c = true ↔ ∃ p ∈ l, chunkN p.1 lv = c := by
  have key : ∀ n, ∀ l : EL, l.length = n → ((setOf l lv).testBit c = true ↔ ∃ p ∈ l, chunkN p.1 lv = c) := by
    intro n
    induction n with
    | zero =>
      intro l hl
      obtain rfl := List.eq_nil_of_length_eq_zero hl
      simp [setOf, ofN]
    | succ n ih =>
      intro l hl
      have hne : l ≠ [] := fun e => by rw [e] at hl; cases hl
      have hd := List.dropLast_concat_getLast hne
      rw [← hd, setOf_snoc, or_bit (chunkN_lt _ _), Bool.or_eq_true, ih l.dropLast (by simp [hl]), decide_eq_true_iff]
      simp only [List.mem_append, List.mem_singleton]
      constructor
      · rintro (⟨p, h1, h2⟩ | h)
        · exact ⟨p, .inl h1, h2⟩
        · exact ⟨_, .inr rfl, h.symm⟩
      · rintro ⟨p, h1 | h1, h2⟩
        · exact .inl ⟨p, h1, h2⟩
        · subst h1; exact .inr h2.symm
  exact fun l => key _ l rfl
theorem partL_nil {l : EL} {lv c : Nat} : partL l lv c = [] ↔ ¬ (setOf l lv).testBit c = true := by
  rw [setOf_bit]
  unfold partL
  rw [List.filter_eq_nil_iff]
  simp
theorem partL_snoc (l : EL) (q : Nat × Bs × Bs) (lv c : Nat) : partL (l ++ [q]) lv c = if chunkN q.1 lv = c then partL l lv c ++ [q] else partL l lv c := by
  unfold partL
  rw [List.filter_append]
  by_cases h : chunkN q.1 lv = c <;> simp [h]
theorem sumL_zero {F : Nat → Nat} : ∀ l : List Nat, (∀ i ∈ l, F i = 0) → N.sumL (l.map F) = 0
  | [], _ => rfl
  | i :: l, h => by
    have h1 := h i (.head _)
    have h2 := sumL_zero l fun j hj => h j (.tail _ hj)
    simp only [List.map_cons, N.sumL, List.foldr_cons] at *
    omega
theorem parts_sum (lv : Nat) : ∀ l : EL, N.sumL ((List.range 32).map fun c => (partL l lv c).length) = l.length
  | [] => sumL_zero _ fun _ _ => rfl
  | p :: l => by
    have ih := parts_sum lv l
    have e : (partL (p :: l) lv (chunkN p.1 lv)).length = (partL l lv (chunkN p.1 lv)).length + 1 := by
      unfold partL
      rw [List.filter_cons_of_pos (by simp), List.length_cons]
    have h : N.sumL ((List.range 32).map fun c => (partL (p :: l) lv c).length) + (partL l lv (chunkN p.1 lv)).length = N.sumL ((List.range 32).map fun c => (partL l lv c).length) + (partL (p :: l) lv (chunkN p.1 lv)).length :=
      N.sum_one (n := 32) (F := fun c => (partL (p :: l) lv c).length) (G := fun c => (partL l lv c).length) (chunkN_lt p.1 lv) fun i hi => by
        unfold partL
        rw [List.filter_cons_of_neg (by simpa using Ne.symm hi)]
    rw [ih, e] at h
    rw [List.length_cons]
    omega
theorem sumL_le {F G : Nat → Nat} : ∀ l : List Nat, (∀ i ∈ l, F i ≤ G i) → N.sumL (l.map F) ≤ N.sumL (l.map G)
  | [], _ => Nat.le_refl _
  | i :: l, h => by
    have h1 := h i (.head _)
    have h2 := sumL_le l fun j hj => h j (.tail _ hj)
    simp only [List.map_cons, N.sumL, List.foldr_cons] at *
    omega
theorem layN_size : ∀ (f : Nat) (l : EL) (lv : Nat), (layN f l lv).size ≤ l.length
  | f, [], lv => by rw [layN_nil]; exact Nat.le_refl _
  | f, p :: l, lv => by
    have hne : p :: l ≠ [] := by simp
    cases hm : mixB (p :: l) with
    | false =>
      rw [layN_one hne hm, N.ofTree_size, T.size_fromL, (sortK_perm _).length_eq, List.length_map]
      exact Nat.le_refl _
    | true =>
      cases f with
      | zero => simp [layN, hm]; exact Nat.zero_le _
      | succ f =>
        rw [layN_mix hne hm]
        refine Nat.le_trans (N.mk_size_le _ _) ?_
        rw [N.sizes_sum, List.map_map, N.sum_bits, ← parts_sum lv (p :: l)]
        refine sumL_le _ fun c _ => ?_
        split
        · exact layN_size f _ _
        · exact Nat.zero_le _
theorem lay_kids_size (f : Nat) (l : EL) (lv : Nat) : N.sizes ((bitsL (setOf l lv)).map fun c => layN f (partL l lv c) (lv + 1)) ≤ l.length := by
  rw [N.sizes_sum, List.map_map, N.sum_bits, ← parts_sum lv l]
  refine sumL_le _ fun c _ => ?_
  split
  · exact layN_size f _ _
  · exact Nat.zero_le _
end Go.Proofs.YtlnlodfnplkckaaDoor
/- The parts of entries by their chunks: 32 rows of our own. Each theorem's conditions stand in it. -/
namespace Go.Proofs.YtlnlodfnplkckaaDoor
set_option linter.unusedVariables false
def rowsOf (Rf : Nat → List Bx) : List Bx := (List.range 32).flatMap Rf
def restOf (Rf : Nat → List Bx) (c : Nat) : List Bx := ((List.range 32).erase c).flatMap Rf
def updR (Rf : Nat → List Bx) (c : Nat) (R : List Bx) : Nat → List Bx := fun i => if i = c then R else Rf i
theorem rows_out {Rf : Nat → List Bx} {c : Nat} (hc : c < 32) : (rowsOf Rf).Perm (Rf c ++ restOf Rf c) :=
  (List.perm_cons_erase (List.mem_range.2 hc)).flatMap_right Rf
theorem rest_upd (Rf : Nat → List Bx) (c : Nat) (R : List Bx) : restOf (updR Rf c R) c = restOf Rf c := by
  unfold restOf
  have : ∀ i ∈ (List.range 32).erase c, updR Rf c R i = Rf i := fun i hi => by
    have := (List.Nodup.mem_erase_iff List.nodup_range).1 hi
    exact if_neg this.1
  rw [List.flatMap_def, List.flatMap_def, List.map_congr_left this]
theorem rows_in {Rf : Nat → List Bx} {c : Nat} (hc : c < 32) (R : List Bx) : (R ++ restOf Rf c).Perm (rowsOf (updR Rf c R)) := by
  have h := rows_out (Rf := updR Rf c R) hc
  rw [rest_upd, show updR Rf c R c = R from if_pos rfl] at h
  exact h.symm
/-- What the rows hold. -/
structure PartsQ (G : GH) (lv : Nat) (lt : EL) (pa : Array Value) (Rf : Nat → List Bx) : Prop where
  size : pa.size = 32
  row : ∀ c, c < 32 → ∃ v xs, pa[c]? = some v ∧ RowAt 58 3 v (partL lt lv c).length xs (Rf c) ∧ EntCells G xs (partL lt lv c)
theorem PartsQ.start (G : GH) (lv : Nat) : PartsQ G lv [] (Array.replicate 32 (.slice none 0 0)) (fun _ => []) where
  size := by simp
  row c hc := ⟨.slice none 0 0, [], by rw [Array.getElem?_replicate, if_pos hc], RowAt.nil _ _, trivial⟩
theorem PartsQ.up {G J : GH} {lv : Nat} {lt : EL} {pa : Array Value} {Rf : Nat → List Bx} (h : PartsQ G lv lt pa Rf) (hle : G.le J) : PartsQ J lv lt pa Rf where
  size := h.size
  row c hc := by
    obtain ⟨v, xs, h1, h2, h3⟩ := h.row c hc
    exact ⟨v, xs, h1, h2, h3.up hle⟩
theorem PartsQ.put {G : GH} {lv c : Nat} {lt : EL} {pa : Array Value} {Rf : Nat → List Bx} {q : Nat × Bs × Bs} {v' kv xv : Value} {xs : List Value} {R' : List Bx} (h : PartsQ G lv lt pa Rf) (hc : chunkN q.1 lv = c)
    (hrow : RowAt 58 3 v' ((partL lt lv c).length + 1) (xs ++ [.int .u64 ((q.1 : Nat) : Int), kv, xv]) R') (hx : EntCells G xs (partL lt lv c)) (hk : BytesAt G kv q.2.1) (hv : BytesAt G xv q.2.2) :
    PartsQ G lv (lt ++ [q]) (pa.setIfInBounds c v') (updR Rf c R') where
  size := by rw [Array.size_setIfInBounds]; exact h.size
  row i hi := by
    rw [partL_snoc]
    have hlt : c < pa.size := by rw [h.size, ← hc]; exact chunkN_lt _ _
    by_cases e : i = c
    · subst e
      rw [if_pos hc]
      refine ⟨v', _, Array.getElem?_setIfInBounds_self_of_lt hlt, ?_, hx.snoc hk hv⟩
      rw [List.length_append, show updR Rf i R' i = R' from if_pos rfl]
      exact hrow
    · rw [if_neg (fun z => e (by rw [← z, hc]))]
      obtain ⟨v, ys, h1, h2, h3⟩ := h.row i hi
      refine ⟨v, ys, ?_, ?_, h3⟩
      · rw [Array.getElem?_setIfInBounds_ne (Ne.symm e)]; exact h1
      · rw [show updR Rf c R' i = Rf i from if_neg e]; exact h2
/-- All rows go over to the ghost heap. -/
theorem St.freezeRows {w0 w : World} {I0 : GH} {pa : Array Value} {Rf : Nat → List Bx} {P : Nat → EL} : ∀ (cs : List Nat) {I : GH} {L : List Bx}, St w0 I0 (ids []) I (cs.flatMap Rf ++ L) w →
    (∀ c ∈ cs, ∃ v xs, pa[c]? = some v ∧ RowAt 58 3 v (P c).length xs (Rf c) ∧ EntCells I xs (P c)) → ∃ J, I.le J ∧ St w0 I0 (ids []) J L w ∧ ∀ c ∈ cs, ∃ v, pa[c]? = some v ∧ EntAt J v (P c)
  | [], I, L, hs, _ => ⟨I, GH.le.refl _, hs, fun c hc => (nomatch hc)⟩
  | c :: cs, I, L, hs, hq => by
    obtain ⟨v, xs, h1, h2, h3⟩ := hq c (.head _)
    rw [List.flatMap_cons, List.append_assoc] at hs
    obtain ⟨J1, le1, hs1, hz⟩ := hs.freezeRow h2 (fun _ h => by cases h)
    obtain ⟨J2, le2, hs2, h4⟩ := St.freezeRows (pa := pa) (P := P) cs hs1 fun i hi => by
      obtain ⟨v, xs, g1, g2, g3⟩ := hq i (.tail _ hi)
      exact ⟨v, xs, g1, g2, g3.up le1⟩
    refine ⟨J2, le1.trans le2, hs2, fun i hi => ?_⟩
    cases hi with
    | head => exact ⟨v, h1, xs, hz.up le2, h3.up (le1.trans le2)⟩
    | tail _ hi => exact h4 i hi
theorem PartsQ.freeze {w0 w : World} {I0 I : GH} {lv : Nat} {lt : EL} {pa : Array Value} {Rf : Nat → List Bx} {L : List Bx} (h : PartsQ I lv lt pa Rf) (hs : St w0 I0 (ids []) I (rowsOf Rf ++ L) w) :
    ∃ J, I.le J ∧ St w0 I0 (ids []) J L w ∧ ∀ c, c < 32 → ∃ v, pa[c]? = some v ∧ EntAt J v (partL lt lv c) := by
  obtain ⟨J, h1, h2, h3⟩ := St.freezeRows (pa := pa) (P := fun c => partL lt lv c) (List.range 32) hs fun c hc => h.row c (List.mem_range.1 hc)
  exact ⟨J, h1, h2, fun c hc => h3 c (List.mem_range.2 hc)⟩
end Go.Proofs.YtlnlodfnplkckaaDoor
/- The contract of layout.lay. -/
namespace Go.Proofs.YtlnlodfnplkckaaDoor
open T (Sm)
set_option linter.unusedVariables false
set_option linter.unusedSimpArgs false
theorem bits_mapN (m : Nat) (F : Nat → N) : (bitsF m).map (fun i => F i.val) = (bitsL m).map F := by
  rw [← bitsF_val, List.map_map]; rfl
set_option maxRecDepth 100000 in
theorem lay_step {I : GH} {f lv : Nat} (ht : TabG I) {v0 : Value} {l : EL} (hl : EntAt I v0 l) (hap : Apart (l.map (·.2))) (hsm : Sm (l.map (·.2))) (hh : ∀ p ∈ l, p.1 < 2 ^ 64) (hll : l.length ≤ 1000) (hlv : lv ≤ 13)
    (hrec : ∀ {J : GH} {u : Value} {c : Nat}, I.le J → c < 32 → mixB l = true → EntAt J u (partL l lv c) → Fn Tryd.prog 47 #[u, .int .i64 ((lv + 1 : Nat) : Int)] J [] (fun r K _ => NodeAt K r (layN f (partL l lv c) (lv + 1)))) :
    Fn Tryd.prog 47 #[v0, .int .i64 ((lv : Nat) : Int)] I [] (fun r J _ => NodeAt J r (layN (f + 1) l lv)) := by
  obtain ⟨ad, cap, rfl⟩ := hl.slc
  refine enterMC (args := [.slice ad l.length cap, .int .i64 ((lv : Nat) : Int)]) Tryd.func47 rfl rfl fun w0 hs0 => ?_
  refine wp_seq_k fun K1 hK2 => ?_
  refine wl_begin ?_
  refine sqo rfl fun K3 hK4 => ow_newbox (mk := fun b => .pointer (some ⟨b, 0, none⟩)) hs0 (r_box rfl rfl) rfl ?_
  rintro b5 w6 (hs7 : St w0 I (ids []) I [⟨b5, #[.slice ad l.length cap], 44⟩] w6)
  clear hs0
  refine hK4 _ _ ?_; clear hK4 K3
  refine sqo rfl fun K8 hK9 => ow_newbox (mk := fun b => .pointer (some ⟨b, 0, none⟩)) hs7 (r_box rfl rfl) rfl ?_
  rintro b10 w11 (hs12 : St w0 I (ids []) I [⟨b10, #[.int .i64 ((lv : Nat) : Int)], 3⟩, ⟨b5, #[.slice ad l.length cap], 44⟩] w11)
  clear hs7
  refine hK9 _ _ ?_; clear hK9 K8
  refine sq (r_assign rfl) rfl ?_
  refine wl_nil ?_
  refine hK2 _ _ ?_; (try clear hK2 K1)
  refine wp_seq_k fun K13 hK14 => ?_
  refine wp_seq_k fun K15 hK16 => ?_
  refine wl_begin ?_
  refine sq (r_load rfl (by kernel_rfl) rfl (hs12.box (.tail _ (.head _))) rfl) rfl ?_
  refine sq (r_lens rfl (by kernel_rfl) rfl) rfl ?_
  refine sq (r_eqi rfl rfl rfl rfl) rfl ?_
  refine wl_nil ?_
  refine hK16 _ _ ?_; (try clear hK16 K15)
  refine condS rfl rfl (fun h17 => ?_) (fun h17 => ?_)
  ·
    have p18 := of_decide_eq_true h17
    have hnil : l = [] := List.eq_nil_of_length_eq_zero (by omega)
    refine wp_seq_k fun K19 hK20 => ?_
    refine wl_begin ?_
    refine sq (r_assign rfl) rfl ?_
    refine wl_nil ?_
    refine hK20 _ _ ?_; (try clear hK20 K19)
    refine wp_ret ?_
    exact leaveM0 (X' := []) (L := [⟨b10, #[.int .i64 ((lv : Nat) : Int)], 3⟩, ⟨b5, #[.slice ad l.length cap], 44⟩]) hs12 rfl (res_one (v := .nilIface) rfl (.tmp rfl rfl .nil)) (by rw [hnil, layN_nil]; exact NodeAt.nil _) (.inl rfl)
  ·
    have p21 := of_decide_eq_false h17
    have hneL : l ≠ [] := by intro e; have hz : l.length = 0 := (by rw [e]; rfl); omega
    have hpos : 0 < l.length := List.length_pos_iff.2 hneL
    refine wp_skip ?_
    refine hK14 _ _ ?_; (try clear hK14 K13)
    refine wp_seq_k fun K22 hK23 => ?_
    refine wp_seq_k fun K24 hK25 => ?_
    refine wl_begin ?_
    refine sq (r_load rfl (by kernel_rfl) rfl (hs12.box (.tail _ (.head _))) rfl) rfl ?_
    refine sq (r_makeFunc (l := []) (m := [.pointer (some ⟨b5, 0, none⟩)]) rfl rfl rfl rfl) rfl ?_
    have hs28 : St w0 I (ids []) I [⟨b5, #[.slice ad l.length cap], 44⟩, ⟨b10, #[.int .i64 ((lv : Nat) : Int)], 3⟩] w11 := hs12.perm (List.Perm.trans ((List.Perm.refl _).cons _) (List.Perm.swap _ _ _)); clear hs12
    refine sqo rfl fun K26 hK27 => ow_call (X := [⟨b5, #[.slice ad l.length cap], 44⟩]) (L := [⟨b10, #[.int .i64 ((lv : Nat) : Int)], 3⟩]) (lb := []) hs28 (cfunc_ok hl hh hsm (by omega)) (by kernel_rfl) rfl rfl rfl rfl rfl ?_
    rintro _ _ X1 w29 ⟨rfl, rfl, rfl⟩ - hs30 hid31
    replace hs30 : St w0 I (ids []) I [⟨b5, #[.slice ad l.length cap], 44⟩, ⟨b10, #[.int .i64 ((lv : Nat) : Int)], 3⟩] w29 := hs30
    clear hs28 hid31
    refine hK27 _ _ ?_; clear hK27 K26
    refine sq (r_not rfl rfl) rfl ?_
    refine wl_nil ?_
    refine hK25 _ _ ?_; (try clear hK25 K24)
    refine condS rfl rfl (fun h32 => ?_) (fun h32 => ?_)
    ·
      have h33 : (mixB l) = false := by simpa using h32
      have hmix : mixB l = false := by simpa using h32
      obtain ⟨b, off, cs, T0, fz, kv, xv, hbe, hb, hcs, hk, hx⟩ := EntAt.at hl hpos
      cases hbe
      refine wp_seq_k fun K34 hK35 => ?_
      refine draw_begin (S := SS I [⟨b5, #[.slice (some ⟨b, off, none⟩) l.length cap], 44⟩, ⟨b10, #[.int .i64 ((lv : Nat) : Int)], 3⟩]) (by kernel_rfl) ?_
      have hs36 := hs30.drew; clear hs30
      have hss := hs36.ss (I := I) (GH.le.refl _) (fun _ h => h)
      refine dt 0 rfl (by kernel_rfl) (fun _ _ _ h => h) hss (fun _ h => r_load rfl (by kernel_rfl) rfl (h.box (.head _)) rfl) rfl ?_
      refine dt 1 rfl (by kernel_rfl) (fun _ _ _ h => h) hss (fun _ h => (r_index (e := 58) (sz := 3) (i := 0) rfl rfl (by kernel_rfl) rfl rfl hpos)) rfl ?_
      refine dt 2 rfl (by kernel_rfl) (fun _ _ _ h => h) hss (fun _ h => (r_fieldAddr (off := 0) rfl (by kernel_rfl) rfl)) rfl ?_
      refine nrmD (vals := [(0, .slice (some ⟨b, off, none⟩) l.length cap), (1, .int .i64 ((lv : Nat) : Int)), (2, .pointer (some ⟨b5, 0, none⟩)), (3, .pointer (some ⟨b10, 0, none⟩)), (4, .nilIface), (14, .bool (decide (((l.length : Nat) : Int) = 0))), (18, .bool (!(mixB l))), (21, .pointer (some ⟨b, (off + 0 * 3), none⟩))]) (.cons rfl (.cons rfl (.cons rfl (.cons rfl (.cons rfl (.cons rfl (.cons rfl (.cons rfl .nil)))))))) fun g37 => ?_
      refine dt 3 rfl (by kernel_rfl) (fun _ _ _ h => h) hss (fun _ h => (r_load rfl (by kernel_rfl) rfl (h.imm hb) (take3 hcs).1)) rfl ?_
      refine dt 4 rfl (by kernel_rfl) (fun _ _ _ h => h) hss (fun _ h => r_load rfl (by kernel_rfl) rfl (h.box (.head _)) rfl) rfl ?_
      refine dro 5 (by kernel_rfl) rfl (ow_call (X := []) (L := [⟨b5, #[.slice (some ⟨b, off, none⟩) l.length cap], 44⟩, ⟨b10, #[.int .i64 ((lv : Nat) : Int)], 3⟩]) (lb := []) hs36 (grow_ok hl hneL (by omega) hsm hh) (by kernel_rfl) rfl rfl rfl rfl rfl ?_)
      rintro _ G1 X1 w43 ⟨p38, l39, rfl, ht40, hperm41, hweak42⟩ le46 hs44 hid45
      obtain rfl : X1 = [] := List.map_eq_nil_iff.1 hid45
      replace hs44 : St w0 I (ids []) G1 [⟨b5, #[.slice (some ⟨b, off, none⟩) l.length cap], 44⟩, ⟨b10, #[.int .i64 ((lv : Nat) : Int)], 3⟩] w43 := hs44
      clear hs36 hid45
      replace hss := hs44.ss (I := I) le46 (fun _ h => h)
      refine ⟨hss, ?_⟩
      refine dro 6 (by kernel_rfl) rfl (ow_call (X := []) (L := [⟨b5, #[.slice (some ⟨b, off, none⟩) l.length cap], 44⟩, ⟨b10, #[.int .i64 ((lv : Nat) : Int)], 3⟩]) (lb := []) hs44 (bucket_ok (h := (l[0]'hpos).1) (hh _ (List.getElem_mem hpos)) ht40 (by rw [T.toList_fromL]; exact fun p hp => hsm p (hperm41.mem_iff.1 hp))) (by kernel_rfl) rfl rfl rfl rfl rfl ?_)
      rintro lv47 G2 X1 w49 hn48 le52 hs50 hid51
      obtain rfl : X1 = [] := List.map_eq_nil_iff.1 hid51
      replace hs50 : St w0 I (ids []) G2 [⟨b5, #[.slice (some ⟨b, off, none⟩) l.length cap], 44⟩, ⟨b10, #[.int .i64 ((lv : Nat) : Int)], 3⟩] w49 := hs50
      clear hs44 hid51
      replace hss := hs50.ss (I := I) (le46.trans le52) (fun _ h => h)
      refine ⟨hss, ?_⟩
      refine dt 7 rfl (by kernel_rfl) (fun _ _ _ h => h) hss (fun _ h => r_assign rfl) rfl ?_
      refine draw_done (by kernel_rfl) ?_
      refine hK35 _ _ ?_; (try clear hK35 K34)
      refine wp_ret ?_
      exact leaveM0 (X' := []) (L := [⟨b5, #[.slice (some ⟨b, off, none⟩) l.length cap], 44⟩, ⟨b10, #[.int .i64 ((lv : Nat) : Int)], 3⟩]) hs50 rfl (res_one (v := lv47) rfl (.tmp rfl rfl .nil)) (by rw [layN_one hneL hmix, ← sort_unique hweak42 hperm41 hap, head0 hpos]; exact hn48) (.inl rfl)
    ·
      have h53 : (mixB l) = true := by simpa using h32
      have hmix : mixB l = true := by simpa using h32
      refine wp_skip ?_
      refine hK23 _ _ ?_; (try clear hK23 K22)
      refine wp_seq_k fun K54 hK55 => ?_
      refine wl_begin ?_
      refine sq (r_assign rfl) rfl ?_
      refine wl_nil ?_
      refine hK55 _ _ ?_; (try clear hK55 K54)
      refine wp_seq_k fun K56 hK57 => ?_
      refine wl_begin ?_
      refine sqo rfl fun K58 hK59 => ow_newbox (mk := fun b => .pointer (some ⟨b, 0, none⟩)) hs30 (r_alloc (cs := [.slice none 0 0, .slice none 0 0, .slice none 0 0, .slice none 0 0, .slice none 0 0, .slice none 0 0, .slice none 0 0, .slice none 0 0, .slice none 0 0, .slice none 0 0, .slice none 0 0, .slice none 0 0, .slice none 0 0, .slice none 0 0, .slice none 0 0, .slice none 0 0, .slice none 0 0, .slice none 0 0, .slice none 0 0, .slice none 0 0, .slice none 0 0, .slice none 0 0, .slice none 0 0, .slice none 0 0, .slice none 0 0, .slice none 0 0, .slice none 0 0, .slice none 0 0, .slice none 0 0, .slice none 0 0, .slice none 0 0, .slice none 0 0]) (by kernel_rfl)) rfl ?_
      rintro b60 w61 (hs62 : St w0 I (ids []) I [⟨b60, #[.slice none 0 0, .slice none 0 0, .slice none 0 0, .slice none 0 0, .slice none 0 0, .slice none 0 0, .slice none 0 0, .slice none 0 0, .slice none 0 0, .slice none 0 0, .slice none 0 0, .slice none 0 0, .slice none 0 0, .slice none 0 0, .slice none 0 0, .slice none 0 0, .slice none 0 0, .slice none 0 0, .slice none 0 0, .slice none 0 0, .slice none 0 0, .slice none 0 0, .slice none 0 0, .slice none 0 0, .slice none 0 0, .slice none 0 0, .slice none 0 0, .slice none 0 0, .slice none 0 0, .slice none 0 0, .slice none 0 0, .slice none 0 0], 150⟩, ⟨b5, #[.slice ad l.length cap], 44⟩, ⟨b10, #[.int .i64 ((lv : Nat) : Int)], 3⟩] w61)
      clear hs30
      refine hK59 _ _ ?_; clear hK59 K58
      refine wl_nil ?_
      have hs63 : St w0 I (ids []) I ((rowsOf (fun _ => [])) ++ ([⟨b60, (Array.replicate 32 (.slice none 0 0)), 150⟩, ⟨b5, #[.slice ad l.length cap], 44⟩, ⟨b10, #[.int .i64 ((lv : Nat) : Int)], 3⟩] : List Bx)) w61 := hs62; clear hs62
      refine hK57 _ _ ?_; (try clear hK57 K56)
      refine wp_seq_k fun K64 hK65 => ?_
      refine wp_seq_k fun K66 hK67 => ?_
      refine wl_begin ?_
      refine sq (r_load rfl (by kernel_rfl) rfl (hs63.box (List.mem_append_right _ (.tail _ (.head _)))) rfl) rfl ?_
      refine sq (r_lens rfl (by kernel_rfl) rfl) rfl ?_
      refine sq (r_move rfl) rfl ?_
      refine wl_nil ?_
      refine hK67 _ _ ?_; (try clear hK67 K66)
      refine wp_block ?_
      refine lp (σ := Nat) (fun m69 f70 w71 => ∃ (g68 : Nat → Value) (k : Nat) (pa : Array Value) (Rf : Nat → List Bx) (G3 : GH), m69 = l.length - k ∧ f70 = updL g68 [(0, .slice ad l.length cap), (1, .int .i64 ((lv : Nat) : Int)), (2, .pointer (some ⟨b5, 0, none⟩)), (3, .pointer (some ⟨b10, 0, none⟩)), (4, .nilIface), (5, .int .u32 (((setOf (l.take k) lv) : Nat) : Int)), (6, .pointer (some ⟨b60, 0, none⟩)), (14, .bool (decide (((l.length : Nat) : Int) = 0))), (18, .bool (!(mixB l))), (26, .slice ad l.length cap), (27, .int .i64 ((l.length : Nat) : Int)), (28, .int .i64 ((k : Nat) : Int))] ∧ I.le G3 ∧ (k ≤ l.length) ∧ (PartsQ G3 lv (l.take k) pa Rf) ∧ St w0 I (ids []) G3 ((rowsOf Rf) ++ ([⟨b60, pa, 150⟩, ⟨b5, #[.slice ad l.length cap], 44⟩, ⟨b10, #[.int .i64 ((lv : Nat) : Int)], 3⟩] : List Bx)) w71) (fun m => m) (l.length) ⟨_, 0, _, _, I, rfl, updL_self (.cons rfl (.cons rfl (.cons rfl (.cons rfl (.cons rfl (.cons rfl (.cons rfl (.cons rfl (.cons rfl (.cons rfl (.cons rfl (.cons rfl .nil)))))))))))), GH.le.refl _, (Nat.zero_le _), (PartsQ.start _ _), hs63⟩ ?_
      clear hs63
      rintro m69 f70 w71 ⟨g68, k, pa, Rf, G3, rfl, rfl, le73, hkl, hq, hs72⟩
      refine wp_seq_k fun K74 hK75 => ?_
      refine nrm (vals := [(0, .slice ad l.length cap), (1, .int .i64 ((lv : Nat) : Int)), (2, .pointer (some ⟨b5, 0, none⟩)), (3, .pointer (some ⟨b10, 0, none⟩)), (4, .nilIface), (5, .int .u32 (((setOf (l.take k) lv) : Nat) : Int)), (6, .pointer (some ⟨b60, 0, none⟩)), (14, .bool (decide (((l.length : Nat) : Int) = 0))), (18, .bool (!(mixB l))), (26, .slice ad l.length cap), (27, .int .i64 ((l.length : Nat) : Int)), (28, .int .i64 ((k : Nat) : Int))]) (.cons rfl (.cons rfl (.cons rfl (.cons rfl (.cons rfl (.cons rfl (.cons rfl (.cons rfl (.cons rfl (.cons rfl (.cons rfl (.cons rfl .nil)))))))))))) fun g76 => ?_
      refine wl_begin ?_
      refine sq (r_lti rfl rfl rfl rfl) rfl ?_
      refine wl_nil ?_
      refine hK75 _ _ ?_; (try clear hK75 K74)
      refine wp_seq_k fun K77 hK78 => ?_
      refine condS rfl rfl (fun h79 => ?_) (fun h79 => ?_)
      ·
        have p80 := of_decide_eq_true h79
        have hlt : k < l.length := by omega
        obtain ⟨b, off, cs, T0, fz, kv, xv, hbe, hb, hcs, hk, hx⟩ := EntAt.at hl hlt
        cases hbe
        refine wp_skip ?_
        refine hK78 _ _ ?_; (try clear hK78 K77)
        refine wp_seq_k fun K81 hK82 => ?_
        refine wp_block ?_
        refine wp_seq_k fun K83 hK84 => ?_
        refine wl_begin ?_
        refine sq (r_index (e := 58) (sz := 3) (i := k) rfl rfl (by kernel_rfl) rfl rfl hlt) rfl ?_
        refine sq (r_loadN (m := 3) (vs := [.int .u64 (((l[k]'hlt).1 : Nat) : Int), kv, xv]) rfl (by kernel_rfl) rfl (hs72.imm (le73 _ _ hb)) hcs rfl) rfl ?_
        refine sqo rfl fun K85 hK86 => ow_newbox (mk := fun b => .pointer (some ⟨b, 0, none⟩)) hs72 (r_alloc (cs := [.int .u64 0, .slice none 0 0, .slice none 0 0]) (by kernel_rfl)) rfl ?_
        rintro b87 w88 (hs89 : St w0 I (ids []) G3 (⟨b87, #[.int .u64 0, .slice none 0 0, .slice none 0 0], 58⟩ :: ((rowsOf Rf) ++ ([⟨b60, pa, 150⟩, ⟨b5, #[.slice (some ⟨b, off, none⟩) l.length cap], 44⟩, ⟨b10, #[.int .i64 ((lv : Nat) : Int)], 3⟩] : List Bx))) w88)
        clear hs72
        refine hK86 _ _ ?_; clear hK86 K85
        refine sqo rfl fun K90 hK91 => ow_store (vs := [.int .u64 (((l[k]'hlt).1 : Nat) : Int), kv, xv]) hs89 rfl rfl (by kernel_rfl) rfl rfl (.cons trivial (.cons (hk).one (.cons (hx).one .nil))) rfl ?_
        rintro w92 (hs93 : St w0 I (ids []) G3 (⟨b87, #[.int .u64 (((l[k]'hlt).1 : Nat) : Int), kv, xv], 58⟩ :: ((rowsOf Rf) ++ ([⟨b60, pa, 150⟩, ⟨b5, #[.slice (some ⟨b, off, none⟩) l.length cap], 44⟩, ⟨b10, #[.int .i64 ((lv : Nat) : Int)], 3⟩] : List Bx))) w92)
        clear hs89
        refine hK91 _ _ ?_; clear hK91 K90
        refine wl_nil ?_
        refine hK84 _ _ ?_; (try clear hK84 K83)
        refine wp_seq_k fun K94 hK95 => ?_
        refine wl_begin ?_
        refine sq (r_fieldAddr (off := 0) rfl (by kernel_rfl) rfl) rfl ?_
        refine sq (r_load rfl (by kernel_rfl) rfl (hs93.box (.head _)) rfl) rfl ?_
        refine sq (r_load rfl (by kernel_rfl) rfl (hs93.box (.tail _ (List.mem_append_right _ (.tail _ (.tail _ (.head _)))))) rfl) rfl ?_
        refine sqo rfl fun K96 hK97 => ow_call (X := []) (L := (⟨b87, #[.int .u64 (((l[k]'hlt).1 : Nat) : Int), kv, xv], 58⟩ :: ((rowsOf Rf) ++ ([⟨b60, pa, 150⟩, ⟨b5, #[.slice (some ⟨b, off, none⟩) l.length cap], 44⟩, ⟨b10, #[.int .i64 ((lv : Nat) : Int)], 3⟩] : List Bx)))) (lb := []) hs93 (chunk_ok (h := (l[k]'hlt).1) (l := lv) (hh _ (List.getElem_mem hlt))) (by kernel_rfl) rfl rfl rfl rfl rfl ?_
        rintro _ _ X1 w98 ⟨rfl, rfl⟩ - hs99 hid100
        obtain rfl : X1 = [] := List.map_eq_nil_iff.1 hid100
        replace hs99 : St w0 I (ids []) G3 (⟨b87, #[.int .u64 (((l[k]'hlt).1 : Nat) : Int), kv, xv], 58⟩ :: ((rowsOf Rf) ++ ([⟨b60, pa, 150⟩, ⟨b5, #[.slice (some ⟨b, off, none⟩) l.length cap], 44⟩, ⟨b10, #[.int .i64 ((lv : Nat) : Int)], 3⟩] : List Bx))) w98 := hs99
        clear hs93 hid100
        refine hK97 _ _ ?_; clear hK97 K96
        refine sq (r_assign rfl) rfl ?_
        refine wl_nil ?_
        refine hK95 _ _ ?_; (try clear hK95 K94)
        refine wp_seq_k fun K101 hK102 => ?_
        refine wl_begin ?_
        refine sq (r_move rfl) rfl ?_
        refine sq (r_move rfl) rfl ?_
        refine sqo rfl fun K103 hK104 => ow_call (X := []) (L := (⟨b87, #[.int .u64 (((l[k]'hlt).1 : Nat) : Int), kv, xv], 58⟩ :: ((rowsOf Rf) ++ ([⟨b60, pa, 150⟩, ⟨b5, #[.slice (some ⟨b, off, none⟩) l.length cap], 44⟩, ⟨b10, #[.int .i64 ((lv : Nat) : Int)], 3⟩] : List Bx)))) (lb := []) hs99 (with_ok (setOf_lt _ _) (((chunkN ((l[k]'hlt).1) lv) : Nat) : Int)) (by kernel_rfl) rfl rfl rfl rfl rfl ?_
        rintro _ _ X1 w105 ⟨rfl, rfl⟩ - hs106 hid107
        obtain rfl : X1 = [] := List.map_eq_nil_iff.1 hid107
        replace hs106 : St w0 I (ids []) G3 (⟨b87, #[.int .u64 (((l[k]'hlt).1 : Nat) : Int), kv, xv], 58⟩ :: ((rowsOf Rf) ++ ([⟨b60, pa, 150⟩, ⟨b5, #[.slice (some ⟨b, off, none⟩) l.length cap], 44⟩, ⟨b10, #[.int .i64 ((lv : Nat) : Int)], 3⟩] : List Bx))) w105 := hs106
        clear hs99 hid107
        refine hK104 _ _ ?_; clear hK104 K103
        refine sq (r_assign rfl) rfl ?_
        refine wl_nil ?_
        refine hK102 _ _ ?_; (try clear hK102 K101)
        refine nrm (vals := [(0, .slice (some ⟨b, off, none⟩) l.length cap), (1, .int .i64 ((lv : Nat) : Int)), (2, .pointer (some ⟨b5, 0, none⟩)), (3, .pointer (some ⟨b10, 0, none⟩)), (4, .nilIface), (5, .int .u32 ((((setOf (l.take k) lv) ||| bitN (((chunkN ((l[k]'hlt).1) lv) : Nat) : Int)) : Nat) : Int)), (6, .pointer (some ⟨b60, 0, none⟩)), (8, .pointer (some ⟨b87, 0, none⟩)), (9, .int .i64 (((chunkN ((l[k]'hlt).1) lv) : Nat) : Int)), (14, .bool (decide (((l.length : Nat) : Int) = 0))), (18, .bool (!(mixB l))), (26, .slice (some ⟨b, off, none⟩) l.length cap), (27, .int .i64 ((l.length : Nat) : Int)), (28, .int .i64 ((k : Nat) : Int)), (29, .bool (decide (((k : Nat) : Int) < ((l.length : Nat) : Int))))]) (.cons rfl (.cons rfl (.cons rfl (.cons rfl (.cons rfl (.cons rfl (.cons rfl (.cons rfl (.cons rfl (.cons rfl (.cons rfl (.cons rfl (.cons rfl (.cons rfl (.cons rfl .nil))))))))))))))) fun g108 => ?_
        obtain ⟨pv, xs, hpv, hrow, hxs⟩ := hq.row (chunkN (l[k]'hlt).1 lv) (chunkN_lt _ _)
        have hpl : (partL (l.take k) lv (chunkN (l[k]'hlt).1 lv)).length ≤ 1000 := Nat.le_trans (List.length_filter_le _ _) (by rw [List.length_take]; omega)
        refine draw_begin (S := SS G3 [⟨b87, #[.int .u64 (((l[k]'hlt).1 : Nat) : Int), kv, xv], 58⟩, ⟨b5, #[.slice (some ⟨b, off, none⟩) l.length cap], 44⟩, ⟨b10, #[.int .i64 ((lv : Nat) : Int)], 3⟩]) (by kernel_rfl) ?_
        have hs109 := hs106.drew; clear hs106
        have hss := hs109.ss (I := G3) (GH.le.refl _) (SubL.sub (.cons (.head _) (.cons (.tail _ (List.mem_append_right _ (.tail _ (.head _)))) (.cons (.tail _ (List.mem_append_right _ (.tail _ (.tail _ (.head _))))) .nil))))
        refine dt 0 rfl (by kernel_rfl) (fun _ _ _ h => h) hss (fun _ h => r_move rfl) rfl ?_
        refine dt 1 rfl (by kernel_rfl) (fun _ _ _ h => h) hss (fun _ h => r_move rfl) rfl ?_
        refine dt 2 rfl (by kernel_rfl) (fun _ _ _ h => h) hss (fun _ h => (r_indexArr (len := 32) (e := 44) (sz := 1) (i := (chunkN ((l[k]'hlt).1) lv)) rfl rfl (by kernel_rfl) rfl rfl (chunkN_lt _ _))) rfl ?_
        refine dt 4 rfl (by kernel_rfl) (fun _ _ _ h => h) hss (fun _ h => r_loadN (m := 3) rfl (by kernel_rfl) rfl (h.box (.head _)) rfl rfl) rfl ?_
        refine draw_all [3, 5] (by kernel_rfl) rfl (forall_2 ?_ ?_)
        ·
          refine dmo rfl (ow_val (r_load rfl (by kernel_rfl) rfl (hs109.box (.tail _ (List.mem_append_right _ (.head _)))) (by rw [Nat.zero_add, Nat.mul_one]; exact hpv)) rfl ?_)
          replace hss := hs109.ss (I := G3) (GH.le.refl _) (SubL.sub (.cons (.head _) (.cons (.tail _ (List.mem_append_right _ (.tail _ (.head _)))) (.cons (.tail _ (List.mem_append_right _ (.tail _ (.tail _ (.head _))))) .nil))))
          refine ⟨hss, ?_⟩
          refine dro 5 (by kernel_rfl) rfl (ow_newimm (mk := fun b => .slice (some ⟨b, 0, none⟩) 1 1) hs109 (r_buildSlice (e := 58) (cells := #[.int .u64 (((l[k]'hlt).1 : Nat) : Int), kv, xv]) (.cons rfl rfl .nil) (by kernel_rfl)) rfl ?_)
          rintro b110 G4 w111 hb112 le113 hs114 ge115
          clear hs109
          replace hb112 : G4 b110 = some (.cells #[.int .u64 (((l[k]'hlt).1 : Nat) : Int), kv, xv] 58 (0, 0)) := hb112
          replace hss := hs114.ss (I := G3) le113 (SubL.sub (.cons (.head _) (.cons (.tail _ (List.mem_append_right _ (.tail _ (.head _)))) (.cons (.tail _ (List.mem_append_right _ (.tail _ (.tail _ (.head _))))) .nil))))
          refine ⟨hss, ?_⟩
          have hs116 : St w0 I (ids []) G4 ((rowsOf Rf) ++ ([⟨b87, #[.int .u64 (((l[k]'hlt).1 : Nat) : Int), kv, xv], 58⟩, ⟨b60, pa, 150⟩, ⟨b5, #[.slice (some ⟨b, off, none⟩) l.length cap], 44⟩, ⟨b10, #[.int .i64 ((lv : Nat) : Int)], 3⟩] : List Bx)) w111 := hs114.perm (List.Perm.trans ((List.Perm.refl _).cons _) (List.perm_middle (l₁ := ((rowsOf Rf) : List Bx)) (a := (⟨b87, #[.int .u64 (((l[k]'hlt).1 : Nat) : Int), kv, xv], 58⟩ : Bx)) (l₂ := [⟨b60, pa, 150⟩, ⟨b5, #[.slice (some ⟨b, off, none⟩) l.length cap], 44⟩, ⟨b10, #[.int .i64 ((lv : Nat) : Int)], 3⟩])).symm); clear hs114
          have h9 := (rows_out (Rf := Rf) (c := (chunkN (l[k]'hlt).1 lv)) (chunkN_lt _ _)).append_right ([⟨b87, #[.int .u64 (((l[k]'hlt).1 : Nat) : Int), kv, xv], 58⟩, ⟨b60, pa, 150⟩, ⟨b5, #[.slice (some ⟨b, off, none⟩) l.length cap], 44⟩, ⟨b10, #[.int .i64 ((lv : Nat) : Int)], 3⟩] : List Bx); rw [List.append_assoc] at h9
          have hs117 : St w0 I (ids []) G4 ((Rf (chunkN (l[k]'hlt).1 lv)) ++ ((restOf Rf (chunkN (l[k]'hlt).1 lv)) ++ ([⟨b87, #[.int .u64 (((l[k]'hlt).1 : Nat) : Int), kv, xv], 58⟩, ⟨b60, pa, 150⟩, ⟨b5, #[.slice (some ⟨b, off, none⟩) l.length cap], 44⟩, ⟨b10, #[.int .i64 ((lv : Nat) : Int)], 3⟩] : List Bx))) w111 := hs116.perm h9; clear hs116 h9
          refine dro 6 (by kernel_rfl) rfl (ow_append (R := (Rf (chunkN (l[k]'hlt).1 lv))) (L := ((restOf Rf (chunkN (l[k]'hlt).1 lv)) ++ ([⟨b87, #[.int .u64 (((l[k]'hlt).1 : Nat) : Int), kv, xv], 58⟩, ⟨b60, pa, 150⟩, ⟨b5, #[.slice (some ⟨b, off, none⟩) l.length cap], 44⟩, ⟨b10, #[.int .i64 ((lv : Nat) : Int)], 3⟩] : List Bx))) (E := 58) (sz := 3) (bytes := 56) (news := [.int .u64 (((l[k]'hlt).1 : Nat) : Int), kv, xv]) hs117 hrow (by kernel_rfl) rfl rfl rfl rfl rfl rfl (SliceAt.news (m := 3) (hs117.imm hb112) rfl) (ones_old (.cons trivial (.cons (hk).one (.cons (hx).one .nil)))) (by simp only [maxLen]; omega) (by omega) rfl ?_)
          rintro v118 R119 w120 hr121 hs122 hf123
          replace hs122 : St w0 I (ids []) G4 (R119 ++ ((restOf Rf (chunkN (l[k]'hlt).1 lv)) ++ ([⟨b87, #[.int .u64 (((l[k]'hlt).1 : Nat) : Int), kv, xv], 58⟩, ⟨b60, pa, 150⟩, ⟨b5, #[.slice (some ⟨b, off, none⟩) l.length cap], 44⟩, ⟨b10, #[.int .i64 ((lv : Nat) : Int)], 3⟩] : List Bx))) w120 := hs122; clear hs117 hf123
          replace hss := hs122.ss (I := G3) le113 (SubL.sub (.cons (List.mem_append_right _ (List.mem_append_right _ (.head _))) (.cons (List.mem_append_right _ (List.mem_append_right _ (.tail _ (.tail _ (.head _))))) (.cons (List.mem_append_right _ (List.mem_append_right _ (.tail _ (.tail _ (.tail _ (.head _)))))) .nil))))
          refine ⟨hss, ?_⟩
          refine dt 7 rfl (by kernel_rfl) (fun _ _ _ h => h) hss (fun _ h => (r_indexArr (len := 32) (e := 44) (sz := 1) (i := (chunkN ((l[k]'hlt).1) lv)) rfl rfl (by kernel_rfl) rfl rfl (chunkN_lt _ _))) rfl ?_
          have hs124 : St w0 I (ids []) G4 (⟨b60, pa, 150⟩ :: (R119 ++ ((restOf Rf (chunkN (l[k]'hlt).1 lv)) ++ ([⟨b87, #[.int .u64 (((l[k]'hlt).1 : Nat) : Int), kv, xv], 58⟩, ⟨b5, #[.slice (some ⟨b, off, none⟩) l.length cap], 44⟩, ⟨b10, #[.int .i64 ((lv : Nat) : Int)], 3⟩] : List Bx)))) w120 := hs122.perm (List.Perm.trans ((List.Perm.trans ((List.Perm.trans ((List.Perm.refl _).cons _) (List.Perm.swap _ _ _)).append_left _) (List.perm_middle (l₁ := ((restOf Rf (chunkN (l[k]'hlt).1 lv)) : List Bx)) (a := (⟨b60, pa, 150⟩ : Bx)) (l₂ := [⟨b87, #[.int .u64 (((l[k]'hlt).1 : Nat) : Int), kv, xv], 58⟩, ⟨b5, #[.slice (some ⟨b, off, none⟩) l.length cap], 44⟩, ⟨b10, #[.int .i64 ((lv : Nat) : Int)], 3⟩]))).append_left _) (List.perm_middle (l₁ := (R119 : List Bx)) (a := (⟨b60, pa, 150⟩ : Bx)) (l₂ := ((restOf Rf (chunkN (l[k]'hlt).1 lv)) ++ ([⟨b87, #[.int .u64 (((l[k]'hlt).1 : Nat) : Int), kv, xv], 58⟩, ⟨b5, #[.slice (some ⟨b, off, none⟩) l.length cap], 44⟩, ⟨b10, #[.int .i64 ((lv : Nat) : Int)], 3⟩] : List Bx))))); clear hs122
          refine dro 8 (by kernel_rfl) rfl (ow_store (vs := [v118]) hs124 rfl rfl (by kernel_rfl) rfl (congrArg Array.toList (One.cells hr121.one)) (.cons hr121.one .nil) (by rw [Nat.ble_eq, hq.size, Nat.zero_add, Nat.mul_one]; exact chunkN_lt _ _) ?_)
          intro w127 hs128
          rw [Nat.zero_add, Nat.mul_one] at hs128
          replace hs128 : St w0 I (ids []) G4 (⟨b60, (pa.setIfInBounds (chunkN (l[k]'hlt).1 lv) v118), 150⟩ :: (R119 ++ ((restOf Rf (chunkN (l[k]'hlt).1 lv)) ++ ([⟨b87, #[.int .u64 (((l[k]'hlt).1 : Nat) : Int), kv, xv], 58⟩, ⟨b5, #[.slice (some ⟨b, off, none⟩) l.length cap], 44⟩, ⟨b10, #[.int .i64 ((lv : Nat) : Int)], 3⟩] : List Bx)))) w127 := hs128
          clear hs124
          replace hss := hs128.ss (I := G3) le113 (SubL.sub (.cons (.tail _ (List.mem_append_right _ (List.mem_append_right _ (.head _)))) (.cons (.tail _ (List.mem_append_right _ (List.mem_append_right _ (.tail _ (.head _))))) (.cons (.tail _ (List.mem_append_right _ (List.mem_append_right _ (.tail _ (.tail _ (.head _)))))) .nil))))
          refine ⟨hss, ?_⟩
          refine draw_done (by kernel_rfl) ?_
          refine hK82 _ _ ?_; (try clear hK82 K81)
          refine wl_begin ?_
          refine sq (r_addNi (a := k) (b := 1) rfl rfl rfl rfl (by omega)) rfl ?_
          refine sq (r_move rfl) rfl ?_
          refine wl_nil ?_
          have hs129 : St w0 I (ids []) G4 ((restOf Rf (chunkN (l[k]'hlt).1 lv)) ++ (⟨b60, (pa.setIfInBounds (chunkN (l[k]'hlt).1 lv) v118), 150⟩ :: (R119 ++ ([⟨b87, #[.int .u64 (((l[k]'hlt).1 : Nat) : Int), kv, xv], 58⟩, ⟨b5, #[.slice (some ⟨b, off, none⟩) l.length cap], 44⟩, ⟨b10, #[.int .i64 ((lv : Nat) : Int)], 3⟩] : List Bx)))) w127 := hs128.perm (List.Perm.trans ((List.Perm.trans ((List.Perm.refl _).append_left _) (List.perm_append_comm_assoc _ _ _)).cons _) (List.perm_middle (l₁ := ((restOf Rf (chunkN (l[k]'hlt).1 lv)) : List Bx)) (a := (⟨b60, (pa.setIfInBounds (chunkN (l[k]'hlt).1 lv) v118), 150⟩ : Bx)) (l₂ := (R119 ++ ([⟨b87, #[.int .u64 (((l[k]'hlt).1 : Nat) : Int), kv, xv], 58⟩, ⟨b5, #[.slice (some ⟨b, off, none⟩) l.length cap], 44⟩, ⟨b10, #[.int .i64 ((lv : Nat) : Int)], 3⟩] : List Bx)))).symm); clear hs128
          have hs130 : St w0 I (ids []) G4 (R119 ++ ((restOf Rf (chunkN (l[k]'hlt).1 lv)) ++ ([⟨b60, (pa.setIfInBounds (chunkN (l[k]'hlt).1 lv) v118), 150⟩, ⟨b87, #[.int .u64 (((l[k]'hlt).1 : Nat) : Int), kv, xv], 58⟩, ⟨b5, #[.slice (some ⟨b, off, none⟩) l.length cap], 44⟩, ⟨b10, #[.int .i64 ((lv : Nat) : Int)], 3⟩] : List Bx))) w127 := hs129.perm (List.Perm.trans ((List.Perm.trans ((List.Perm.refl _).cons _) (List.perm_middle (l₁ := (R119 : List Bx)) (a := (⟨b60, (pa.setIfInBounds (chunkN (l[k]'hlt).1 lv) v118), 150⟩ : Bx)) (l₂ := [⟨b87, #[.int .u64 (((l[k]'hlt).1 : Nat) : Int), kv, xv], 58⟩, ⟨b5, #[.slice (some ⟨b, off, none⟩) l.length cap], 44⟩, ⟨b10, #[.int .i64 ((lv : Nat) : Int)], 3⟩])).symm).append_left _) (List.perm_append_comm_assoc _ _ _)); clear hs129
          have h9 := (rows_in (Rf := Rf) (c := (chunkN (l[k]'hlt).1 lv)) (chunkN_lt _ _) R119).append_right ([⟨b60, (pa.setIfInBounds (chunkN (l[k]'hlt).1 lv) v118), 150⟩, ⟨b87, #[.int .u64 (((l[k]'hlt).1 : Nat) : Int), kv, xv], 58⟩, ⟨b5, #[.slice (some ⟨b, off, none⟩) l.length cap], 44⟩, ⟨b10, #[.int .i64 ((lv : Nat) : Int)], 3⟩] : List Bx); rw [List.append_assoc] at h9
          have hs131 : St w0 I (ids []) G4 ((rowsOf (updR Rf (chunkN (l[k]'hlt).1 lv) R119)) ++ ([⟨b60, (pa.setIfInBounds (chunkN (l[k]'hlt).1 lv) v118), 150⟩, ⟨b87, #[.int .u64 (((l[k]'hlt).1 : Nat) : Int), kv, xv], 58⟩, ⟨b5, #[.slice (some ⟨b, off, none⟩) l.length cap], 44⟩, ⟨b10, #[.int .i64 ((lv : Nat) : Int)], 3⟩] : List Bx)) w127 := hs130.perm h9; clear hs130 h9
          have hs132 : St w0 I (ids []) G4 (⟨b87, #[.int .u64 (((l[k]'hlt).1 : Nat) : Int), kv, xv], 58⟩ :: ((rowsOf (updR Rf (chunkN (l[k]'hlt).1 lv) R119)) ++ ([⟨b60, (pa.setIfInBounds (chunkN (l[k]'hlt).1 lv) v118), 150⟩, ⟨b5, #[.slice (some ⟨b, off, none⟩) l.length cap], 44⟩, ⟨b10, #[.int .i64 ((lv : Nat) : Int)], 3⟩] : List Bx))) w127 := hs131.perm (List.Perm.trans ((List.Perm.trans ((List.Perm.refl _).cons _) (List.Perm.swap _ _ _)).append_left _) (List.perm_middle (l₁ := ((rowsOf (updR Rf (chunkN (l[k]'hlt).1 lv) R119)) : List Bx)) (a := (⟨b87, #[.int .u64 (((l[k]'hlt).1 : Nat) : Int), kv, xv], 58⟩ : Bx)) (l₂ := [⟨b60, (pa.setIfInBounds (chunkN (l[k]'hlt).1 lv) v118), 150⟩, ⟨b5, #[.slice (some ⟨b, off, none⟩) l.length cap], 44⟩, ⟨b10, #[.int .i64 ((lv : Nat) : Int)], 3⟩]))); clear hs131
          have hs133 : St w0 I (ids []) G4 ((rowsOf (updR Rf (chunkN (l[k]'hlt).1 lv) R119)) ++ ([⟨b60, (pa.setIfInBounds (chunkN (l[k]'hlt).1 lv) v118), 150⟩, ⟨b5, #[.slice (some ⟨b, off, none⟩) l.length cap], 44⟩, ⟨b10, #[.int .i64 ((lv : Nat) : Int)], 3⟩] : List Bx)) w127 := hs132.drop
          exact ⟨_, _, rfl, ⟨_, (k + 1), (pa.setIfInBounds (chunkN (l[k]'hlt).1 lv) v118), (updR Rf (chunkN (l[k]'hlt).1 lv) R119), G4, rfl, updL_self (.cons rfl (.cons rfl (.cons rfl (.cons rfl (.cons rfl (.cons (congrArg (fun m : Nat => Value.int .u32 ((m : Nat) : Int)) (by rw [List.take_succ_eq_append_getElem hlt, setOf_snoc])) (.cons rfl (.cons rfl (.cons rfl (.cons rfl (.cons rfl (.cons rfl .nil)))))))))))), (le73.trans le113), (by omega), (by rw [List.take_succ_eq_append_getElem hlt]; exact (hq.up le113).put rfl hr121 (hxs.up le113) (hk.up (le73.trans le113)) (hx.up (le73.trans le113))), hs133⟩, (by omega)⟩
        ·
          refine dmo rfl (ow_newimm (mk := fun b => .slice (some ⟨b, 0, none⟩) 1 1) hs109 (r_buildSlice (e := 58) (cells := #[.int .u64 (((l[k]'hlt).1 : Nat) : Int), kv, xv]) (.cons rfl rfl .nil) (by kernel_rfl)) rfl ?_)
          rintro b134 G5 w135 hb136 le137 hs138 ge139
          clear hs109
          replace hb136 : G5 b134 = some (.cells #[.int .u64 (((l[k]'hlt).1 : Nat) : Int), kv, xv] 58 (0, 0)) := hb136
          replace hss := hs138.ss (I := G3) le137 (SubL.sub (.cons (.head _) (.cons (.tail _ (List.mem_append_right _ (.tail _ (.head _)))) (.cons (.tail _ (List.mem_append_right _ (.tail _ (.tail _ (.head _))))) .nil))))
          refine ⟨hss, ?_⟩
          refine dro 3 (by kernel_rfl) rfl (ow_val (r_load rfl (by kernel_rfl) rfl (hs138.box (.tail _ (List.mem_append_right _ (.head _)))) (by rw [Nat.zero_add, Nat.mul_one]; exact hpv)) rfl ?_)
          replace hss := hs138.ss (I := G3) le137 (SubL.sub (.cons (.head _) (.cons (.tail _ (List.mem_append_right _ (.tail _ (.head _)))) (.cons (.tail _ (List.mem_append_right _ (.tail _ (.tail _ (.head _))))) .nil))))
          refine ⟨hss, ?_⟩
          have hs140 : St w0 I (ids []) G5 ((rowsOf Rf) ++ ([⟨b87, #[.int .u64 (((l[k]'hlt).1 : Nat) : Int), kv, xv], 58⟩, ⟨b60, pa, 150⟩, ⟨b5, #[.slice (some ⟨b, off, none⟩) l.length cap], 44⟩, ⟨b10, #[.int .i64 ((lv : Nat) : Int)], 3⟩] : List Bx)) w135 := hs138.perm (List.Perm.trans ((List.Perm.refl _).cons _) (List.perm_middle (l₁ := ((rowsOf Rf) : List Bx)) (a := (⟨b87, #[.int .u64 (((l[k]'hlt).1 : Nat) : Int), kv, xv], 58⟩ : Bx)) (l₂ := [⟨b60, pa, 150⟩, ⟨b5, #[.slice (some ⟨b, off, none⟩) l.length cap], 44⟩, ⟨b10, #[.int .i64 ((lv : Nat) : Int)], 3⟩])).symm); clear hs138
          have h9 := (rows_out (Rf := Rf) (c := (chunkN (l[k]'hlt).1 lv)) (chunkN_lt _ _)).append_right ([⟨b87, #[.int .u64 (((l[k]'hlt).1 : Nat) : Int), kv, xv], 58⟩, ⟨b60, pa, 150⟩, ⟨b5, #[.slice (some ⟨b, off, none⟩) l.length cap], 44⟩, ⟨b10, #[.int .i64 ((lv : Nat) : Int)], 3⟩] : List Bx); rw [List.append_assoc] at h9
          have hs141 : St w0 I (ids []) G5 ((Rf (chunkN (l[k]'hlt).1 lv)) ++ ((restOf Rf (chunkN (l[k]'hlt).1 lv)) ++ ([⟨b87, #[.int .u64 (((l[k]'hlt).1 : Nat) : Int), kv, xv], 58⟩, ⟨b60, pa, 150⟩, ⟨b5, #[.slice (some ⟨b, off, none⟩) l.length cap], 44⟩, ⟨b10, #[.int .i64 ((lv : Nat) : Int)], 3⟩] : List Bx))) w135 := hs140.perm h9; clear hs140 h9
          refine dro 6 (by kernel_rfl) rfl (ow_append (R := (Rf (chunkN (l[k]'hlt).1 lv))) (L := ((restOf Rf (chunkN (l[k]'hlt).1 lv)) ++ ([⟨b87, #[.int .u64 (((l[k]'hlt).1 : Nat) : Int), kv, xv], 58⟩, ⟨b60, pa, 150⟩, ⟨b5, #[.slice (some ⟨b, off, none⟩) l.length cap], 44⟩, ⟨b10, #[.int .i64 ((lv : Nat) : Int)], 3⟩] : List Bx))) (E := 58) (sz := 3) (bytes := 56) (news := [.int .u64 (((l[k]'hlt).1 : Nat) : Int), kv, xv]) hs141 hrow (by kernel_rfl) rfl rfl rfl rfl rfl rfl (SliceAt.news (m := 3) (hs141.imm hb136) rfl) (ones_old (.cons trivial (.cons (hk).one (.cons (hx).one .nil)))) (by simp only [maxLen]; omega) (by omega) rfl ?_)
          rintro v142 R143 w144 hr145 hs146 hf147
          replace hs146 : St w0 I (ids []) G5 (R143 ++ ((restOf Rf (chunkN (l[k]'hlt).1 lv)) ++ ([⟨b87, #[.int .u64 (((l[k]'hlt).1 : Nat) : Int), kv, xv], 58⟩, ⟨b60, pa, 150⟩, ⟨b5, #[.slice (some ⟨b, off, none⟩) l.length cap], 44⟩, ⟨b10, #[.int .i64 ((lv : Nat) : Int)], 3⟩] : List Bx))) w144 := hs146; clear hs141 hf147
          replace hss := hs146.ss (I := G3) le137 (SubL.sub (.cons (List.mem_append_right _ (List.mem_append_right _ (.head _))) (.cons (List.mem_append_right _ (List.mem_append_right _ (.tail _ (.tail _ (.head _))))) (.cons (List.mem_append_right _ (List.mem_append_right _ (.tail _ (.tail _ (.tail _ (.head _)))))) .nil))))
          refine ⟨hss, ?_⟩
          refine dt 7 rfl (by kernel_rfl) (fun _ _ _ h => h) hss (fun _ h => (r_indexArr (len := 32) (e := 44) (sz := 1) (i := (chunkN ((l[k]'hlt).1) lv)) rfl rfl (by kernel_rfl) rfl rfl (chunkN_lt _ _))) rfl ?_
          have hs148 : St w0 I (ids []) G5 (⟨b60, pa, 150⟩ :: (R143 ++ ((restOf Rf (chunkN (l[k]'hlt).1 lv)) ++ ([⟨b87, #[.int .u64 (((l[k]'hlt).1 : Nat) : Int), kv, xv], 58⟩, ⟨b5, #[.slice (some ⟨b, off, none⟩) l.length cap], 44⟩, ⟨b10, #[.int .i64 ((lv : Nat) : Int)], 3⟩] : List Bx)))) w144 := hs146.perm (List.Perm.trans ((List.Perm.trans ((List.Perm.trans ((List.Perm.refl _).cons _) (List.Perm.swap _ _ _)).append_left _) (List.perm_middle (l₁ := ((restOf Rf (chunkN (l[k]'hlt).1 lv)) : List Bx)) (a := (⟨b60, pa, 150⟩ : Bx)) (l₂ := [⟨b87, #[.int .u64 (((l[k]'hlt).1 : Nat) : Int), kv, xv], 58⟩, ⟨b5, #[.slice (some ⟨b, off, none⟩) l.length cap], 44⟩, ⟨b10, #[.int .i64 ((lv : Nat) : Int)], 3⟩]))).append_left _) (List.perm_middle (l₁ := (R143 : List Bx)) (a := (⟨b60, pa, 150⟩ : Bx)) (l₂ := ((restOf Rf (chunkN (l[k]'hlt).1 lv)) ++ ([⟨b87, #[.int .u64 (((l[k]'hlt).1 : Nat) : Int), kv, xv], 58⟩, ⟨b5, #[.slice (some ⟨b, off, none⟩) l.length cap], 44⟩, ⟨b10, #[.int .i64 ((lv : Nat) : Int)], 3⟩] : List Bx))))); clear hs146
          refine dro 8 (by kernel_rfl) rfl (ow_store (vs := [v142]) hs148 rfl rfl (by kernel_rfl) rfl (congrArg Array.toList (One.cells hr145.one)) (.cons hr145.one .nil) (by rw [Nat.ble_eq, hq.size, Nat.zero_add, Nat.mul_one]; exact chunkN_lt _ _) ?_)
          intro w151 hs152
          rw [Nat.zero_add, Nat.mul_one] at hs152
          replace hs152 : St w0 I (ids []) G5 (⟨b60, (pa.setIfInBounds (chunkN (l[k]'hlt).1 lv) v142), 150⟩ :: (R143 ++ ((restOf Rf (chunkN (l[k]'hlt).1 lv)) ++ ([⟨b87, #[.int .u64 (((l[k]'hlt).1 : Nat) : Int), kv, xv], 58⟩, ⟨b5, #[.slice (some ⟨b, off, none⟩) l.length cap], 44⟩, ⟨b10, #[.int .i64 ((lv : Nat) : Int)], 3⟩] : List Bx)))) w151 := hs152
          clear hs148
          replace hss := hs152.ss (I := G3) le137 (SubL.sub (.cons (.tail _ (List.mem_append_right _ (List.mem_append_right _ (.head _)))) (.cons (.tail _ (List.mem_append_right _ (List.mem_append_right _ (.tail _ (.head _))))) (.cons (.tail _ (List.mem_append_right _ (List.mem_append_right _ (.tail _ (.tail _ (.head _)))))) .nil))))
          refine ⟨hss, ?_⟩
          refine draw_done (by kernel_rfl) ?_
          refine hK82 _ _ ?_; (try clear hK82 K81)
          refine wl_begin ?_
          refine sq (r_addNi (a := k) (b := 1) rfl rfl rfl rfl (by omega)) rfl ?_
          refine sq (r_move rfl) rfl ?_
          refine wl_nil ?_
          have hs153 : St w0 I (ids []) G5 ((restOf Rf (chunkN (l[k]'hlt).1 lv)) ++ (⟨b60, (pa.setIfInBounds (chunkN (l[k]'hlt).1 lv) v142), 150⟩ :: (R143 ++ ([⟨b87, #[.int .u64 (((l[k]'hlt).1 : Nat) : Int), kv, xv], 58⟩, ⟨b5, #[.slice (some ⟨b, off, none⟩) l.length cap], 44⟩, ⟨b10, #[.int .i64 ((lv : Nat) : Int)], 3⟩] : List Bx)))) w151 := hs152.perm (List.Perm.trans ((List.Perm.trans ((List.Perm.refl _).append_left _) (List.perm_append_comm_assoc _ _ _)).cons _) (List.perm_middle (l₁ := ((restOf Rf (chunkN (l[k]'hlt).1 lv)) : List Bx)) (a := (⟨b60, (pa.setIfInBounds (chunkN (l[k]'hlt).1 lv) v142), 150⟩ : Bx)) (l₂ := (R143 ++ ([⟨b87, #[.int .u64 (((l[k]'hlt).1 : Nat) : Int), kv, xv], 58⟩, ⟨b5, #[.slice (some ⟨b, off, none⟩) l.length cap], 44⟩, ⟨b10, #[.int .i64 ((lv : Nat) : Int)], 3⟩] : List Bx)))).symm); clear hs152
          have hs154 : St w0 I (ids []) G5 (R143 ++ ((restOf Rf (chunkN (l[k]'hlt).1 lv)) ++ ([⟨b60, (pa.setIfInBounds (chunkN (l[k]'hlt).1 lv) v142), 150⟩, ⟨b87, #[.int .u64 (((l[k]'hlt).1 : Nat) : Int), kv, xv], 58⟩, ⟨b5, #[.slice (some ⟨b, off, none⟩) l.length cap], 44⟩, ⟨b10, #[.int .i64 ((lv : Nat) : Int)], 3⟩] : List Bx))) w151 := hs153.perm (List.Perm.trans ((List.Perm.trans ((List.Perm.refl _).cons _) (List.perm_middle (l₁ := (R143 : List Bx)) (a := (⟨b60, (pa.setIfInBounds (chunkN (l[k]'hlt).1 lv) v142), 150⟩ : Bx)) (l₂ := [⟨b87, #[.int .u64 (((l[k]'hlt).1 : Nat) : Int), kv, xv], 58⟩, ⟨b5, #[.slice (some ⟨b, off, none⟩) l.length cap], 44⟩, ⟨b10, #[.int .i64 ((lv : Nat) : Int)], 3⟩])).symm).append_left _) (List.perm_append_comm_assoc _ _ _)); clear hs153
          have h9 := (rows_in (Rf := Rf) (c := (chunkN (l[k]'hlt).1 lv)) (chunkN_lt _ _) R143).append_right ([⟨b60, (pa.setIfInBounds (chunkN (l[k]'hlt).1 lv) v142), 150⟩, ⟨b87, #[.int .u64 (((l[k]'hlt).1 : Nat) : Int), kv, xv], 58⟩, ⟨b5, #[.slice (some ⟨b, off, none⟩) l.length cap], 44⟩, ⟨b10, #[.int .i64 ((lv : Nat) : Int)], 3⟩] : List Bx); rw [List.append_assoc] at h9
          have hs155 : St w0 I (ids []) G5 ((rowsOf (updR Rf (chunkN (l[k]'hlt).1 lv) R143)) ++ ([⟨b60, (pa.setIfInBounds (chunkN (l[k]'hlt).1 lv) v142), 150⟩, ⟨b87, #[.int .u64 (((l[k]'hlt).1 : Nat) : Int), kv, xv], 58⟩, ⟨b5, #[.slice (some ⟨b, off, none⟩) l.length cap], 44⟩, ⟨b10, #[.int .i64 ((lv : Nat) : Int)], 3⟩] : List Bx)) w151 := hs154.perm h9; clear hs154 h9
          have hs156 : St w0 I (ids []) G5 (⟨b87, #[.int .u64 (((l[k]'hlt).1 : Nat) : Int), kv, xv], 58⟩ :: ((rowsOf (updR Rf (chunkN (l[k]'hlt).1 lv) R143)) ++ ([⟨b60, (pa.setIfInBounds (chunkN (l[k]'hlt).1 lv) v142), 150⟩, ⟨b5, #[.slice (some ⟨b, off, none⟩) l.length cap], 44⟩, ⟨b10, #[.int .i64 ((lv : Nat) : Int)], 3⟩] : List Bx))) w151 := hs155.perm (List.Perm.trans ((List.Perm.trans ((List.Perm.refl _).cons _) (List.Perm.swap _ _ _)).append_left _) (List.perm_middle (l₁ := ((rowsOf (updR Rf (chunkN (l[k]'hlt).1 lv) R143)) : List Bx)) (a := (⟨b87, #[.int .u64 (((l[k]'hlt).1 : Nat) : Int), kv, xv], 58⟩ : Bx)) (l₂ := [⟨b60, (pa.setIfInBounds (chunkN (l[k]'hlt).1 lv) v142), 150⟩, ⟨b5, #[.slice (some ⟨b, off, none⟩) l.length cap], 44⟩, ⟨b10, #[.int .i64 ((lv : Nat) : Int)], 3⟩]))); clear hs155
          have hs157 : St w0 I (ids []) G5 ((rowsOf (updR Rf (chunkN (l[k]'hlt).1 lv) R143)) ++ ([⟨b60, (pa.setIfInBounds (chunkN (l[k]'hlt).1 lv) v142), 150⟩, ⟨b5, #[.slice (some ⟨b, off, none⟩) l.length cap], 44⟩, ⟨b10, #[.int .i64 ((lv : Nat) : Int)], 3⟩] : List Bx)) w151 := hs156.drop
          exact ⟨_, _, rfl, ⟨_, (k + 1), (pa.setIfInBounds (chunkN (l[k]'hlt).1 lv) v142), (updR Rf (chunkN (l[k]'hlt).1 lv) R143), G5, rfl, updL_self (.cons rfl (.cons rfl (.cons rfl (.cons rfl (.cons rfl (.cons (congrArg (fun m : Nat => Value.int .u32 ((m : Nat) : Int)) (by rw [List.take_succ_eq_append_getElem hlt, setOf_snoc])) (.cons rfl (.cons rfl (.cons rfl (.cons rfl (.cons rfl (.cons rfl .nil)))))))))))), (le73.trans le137), (by omega), (by rw [List.take_succ_eq_append_getElem hlt]; exact (hq.up le137).put rfl hr145 (hxs.up le137) (hk.up (le73.trans le137)) (hx.up (le73.trans le137))), hs157⟩, (by omega)⟩
      ·
        have p158 := of_decide_eq_false h79
        obtain rfl : k = l.length := by omega
        rw [List.take_length] at hq
        refine nrm (vals := [(0, .slice ad l.length cap), (1, .int .i64 ((lv : Nat) : Int)), (2, .pointer (some ⟨b5, 0, none⟩)), (3, .pointer (some ⟨b10, 0, none⟩)), (4, .nilIface), (5, .int .u32 (((setOf l lv) : Nat) : Int)), (6, .pointer (some ⟨b60, 0, none⟩)), (14, .bool (decide (((l.length : Nat) : Int) = 0))), (18, .bool (!(mixB l))), (26, .slice ad l.length cap), (27, .int .i64 ((l.length : Nat) : Int)), (28, .int .i64 ((l.length : Nat) : Int))]) (.cons rfl (.cons rfl (.cons rfl (.cons rfl (.cons rfl (.cons (by show Value.int .u32 ((setOf (l.take l.length) lv : Nat) : Int) = _; rw [List.take_length]) (.cons rfl (.cons rfl (.cons rfl (.cons rfl (.cons rfl (.cons rfl .nil)))))))))))) fun g159 => ?_
        obtain ⟨G6, le160, hs161, hparts⟩ := hq.freeze hs72; clear hs72
        replace hs161 : St w0 I (ids []) G6 [⟨b60, pa, 150⟩, ⟨b5, #[.slice ad l.length cap], 44⟩, ⟨b10, #[.int .i64 ((lv : Nat) : Int)], 3⟩] w71 := hs161
        refine wp_exit ?_
        refine hK65 _ _ ?_; (try clear hK65 K64)
        refine wp_seq_k fun K162 hK163 => ?_
        refine wl_begin ?_
        refine sqo rfl fun K164 hK165 => ow_newbox (mk := fun b => .pointer (some ⟨b, 0, none⟩)) hs161 (r_alloc (cs := [.slice none 0 0]) (by kernel_rfl)) rfl ?_
        rintro b166 w167 (hs168 : St w0 I (ids []) G6 [⟨b166, #[.slice none 0 0], 135⟩, ⟨b60, pa, 150⟩, ⟨b5, #[.slice ad l.length cap], 44⟩, ⟨b10, #[.int .i64 ((lv : Nat) : Int)], 3⟩] w167)
        clear hs161
        refine hK165 _ _ ?_; clear hK165 K164
        refine wl_nil ?_
        refine hK163 _ _ ?_; (try clear hK163 K162)
        refine wp_seq_k fun K169 hK170 => ?_
        refine wp_seq_k fun K171 hK172 => ?_
        refine wl_begin ?_
        refine sq (r_move rfl) rfl ?_
        refine sqo rfl fun K173 hK174 => ow_call (X := []) (L := [⟨b166, #[.slice none 0 0], 135⟩, ⟨b60, pa, 150⟩, ⟨b5, #[.slice ad l.length cap], 44⟩, ⟨b10, #[.int .i64 ((lv : Nat) : Int)], 3⟩]) (lb := []) hs168 (all_ok (ht.up (le73.trans le160)) (setOf_lt _ _)) (by kernel_rfl) rfl rfl rfl rfl rfl ?_
        rintro _ G7 X1 w177 ⟨b175, rfl, hq176⟩ le180 hs178 hid179
        obtain rfl : X1 = [] := List.map_eq_nil_iff.1 hid179
        replace hs178 : St w0 I (ids []) G7 [⟨b166, #[.slice none 0 0], 135⟩, ⟨b60, pa, 150⟩, ⟨b5, #[.slice ad l.length cap], 44⟩, ⟨b10, #[.int .i64 ((lv : Nat) : Int)], 3⟩] w177 := hs178
        clear hs168 hid179
        refine hK174 _ _ ?_; clear hK174 K173
        refine wl_nil ?_
        refine hK172 _ _ ?_; (try clear hK172 K171)
        refine wp_block ?_
        refine nrm (vals := [(0, .slice ad l.length cap), (1, .int .i64 ((lv : Nat) : Int)), (2, .pointer (some ⟨b5, 0, none⟩)), (3, .pointer (some ⟨b10, 0, none⟩)), (4, .nilIface), (5, .int .u32 (((setOf l lv) : Nat) : Int)), (6, .pointer (some ⟨b60, 0, none⟩)), (10, .pointer (some ⟨b166, 0, none⟩)), (14, .bool (decide (((l.length : Nat) : Int) = 0))), (18, .bool (!(mixB l))), (26, .slice ad l.length cap), (27, .int .i64 ((l.length : Nat) : Int)), (28, .int .i64 ((l.length : Nat) : Int)), (49, .func (.func 117) #[] #[.pointer (some ⟨b175, 0, none⟩)])]) (.cons rfl (.cons rfl (.cons rfl (.cons rfl (.cons rfl (.cons rfl (.cons rfl (.cons rfl (.cons rfl (.cons rfl (.cons rfl (.cons rfl (.cons rfl (.cons rfl .nil)))))))))))))) fun g181 => ?_
        refine rangeF (α := Fin 32) (enc := encF) hs178 rfl rfl (by kernel_rfl) hq176 rfl (fun (pre : List (Fin 32)) (G8 : GH) (LL : List Bx) => ∃ (rv : Value), ∃ (vs : List Value), ∃ (RR : List Bx), LL = (⟨b166, #[rv], 135⟩ :: (⟨b60, pa, 150⟩ :: (⟨b5, #[.slice ad l.length cap], 44⟩ :: (⟨b10, #[.int .i64 ((lv : Nat) : Int)], 3⟩ :: (RR ++ []))))) ∧ (RowAt 28 1 rv pre.length vs RR) ∧ (NodesAt G8 vs (pre.map (fun i => layN f (partL l lv i.val) (lv + 1))))) (fun _ _ _ _ => False) ⟨_, [], [], rfl, RowAt.nil _ _, rfl⟩ (fun x => upd (upd (updL g181 [(0, .slice ad l.length cap), (1, .int .i64 ((lv : Nat) : Int)), (2, .pointer (some ⟨b5, 0, none⟩)), (3, .pointer (some ⟨b10, 0, none⟩)), (4, .nilIface), (5, .int .u32 (((setOf l lv) : Nat) : Int)), (6, .pointer (some ⟨b60, 0, none⟩)), (10, .pointer (some ⟨b166, 0, none⟩)), (14, .bool (decide (((l.length : Nat) : Int) = 0))), (18, .bool (!(mixB l))), (26, .slice ad l.length cap), (27, .int .i64 ((l.length : Nat) : Int)), (28, .int .i64 ((l.length : Nat) : Int)), (49, .func (.func 117) #[] #[.pointer (some ⟨b175, 0, none⟩)])]) 50 (encF x)) 11 (.int .i64 ((x.val : Nat) : Int))) ?_ ?_ ?_ ?_
        ·
          intro l9 x W K hK
          refine wl_beginR (by kernel_rfl) (fun _ _ h => h) ?_
          refine sq (r_assign rfl) rfl ?_
          refine wl_nil ?_
          exact hK
        ·
          rintro l9 pre x G8 LL W186 hlen185 le182 ⟨rv, vs, RR, rfl, hrow, hks⟩ hown184 hs183
          clear hs178
          replace hs183 : St W186 G8 (ids (⟨b166, #[rv], 135⟩ :: (⟨b60, pa, 150⟩ :: (⟨b5, #[.slice ad l.length cap], 44⟩ :: (⟨b10, #[.int .i64 ((lv : Nat) : Int)], 3⟩ :: (RR ++ [])))))) G8 (⟨b166, #[rv], 135⟩ :: (⟨b60, pa, 150⟩ :: (⟨b5, #[.slice ad l.length cap], 44⟩ :: (⟨b10, #[.int .i64 ((lv : Nat) : Int)], 3⟩ :: (RR ++ []))))) W186 := hs183
          refine blockR ?_
          obtain ⟨pv, hpv, hpe⟩ := hparts x.val x.isLt
          refine draw_beginR (S := SS G8 [⟨b60, pa, 150⟩, ⟨b5, #[.slice ad l.length cap], 44⟩, ⟨b10, #[.int .i64 ((lv : Nat) : Int)], 3⟩]) (by kernel_rfl) (by kernel_rfl) (fun _ _ h => h) ?_
          have hs187 := hs183.drew; clear hs183
          have hss := hs187.ss (I := G8) (GH.le.refl _) (SubL.sub (.cons (.tail _ (.head _)) (.cons (.tail _ (.tail _ (.head _))) (.cons (.tail _ (.tail _ (.tail _ (.head _)))) .nil))))
          refine dt 1 rfl (by kernel_rfl) (fun _ _ _ h => h) hss (fun _ h => r_move rfl) rfl ?_
          refine dt 2 rfl (by kernel_rfl) (fun _ _ _ h => h) hss (fun _ h => (r_indexArr (len := 32) (e := 44) (sz := 1) (i := x.val) rfl rfl (by kernel_rfl) rfl rfl x.isLt)) rfl ?_
          refine dt 3 rfl (by kernel_rfl) (fun _ _ _ h => h) hss (fun _ h => (r_load rfl (by kernel_rfl) rfl (h.box (.head _)) (by rw [Nat.zero_add, Nat.mul_one]; exact hpv))) rfl ?_
          refine dt 4 rfl (by kernel_rfl) (fun _ _ _ h => h) hss (fun _ h => r_load rfl (by kernel_rfl) rfl (h.box (.tail _ (.tail _ (.head _)))) rfl) rfl ?_
          refine dt 5 rfl (by kernel_rfl) (fun _ _ _ h => h) hss (fun _ h => (r_addNi (a := lv) (b := 1) rfl rfl rfl rfl (by omega))) rfl ?_
          refine draw_all [0, 6] (by kernel_rfl) rfl (forall_2 ?_ ?_)
          ·
            refine dmo rfl (ow_val (r_load rfl (by kernel_rfl) rfl (hs187.box (.head _)) rfl) rfl ?_)
            replace hss := hs187.ss (I := G8) (GH.le.refl _) (SubL.sub (.cons (.tail _ (.head _)) (.cons (.tail _ (.tail _ (.head _))) (.cons (.tail _ (.tail _ (.tail _ (.head _)))) .nil))))
            refine ⟨hss, ?_⟩
            refine dro 6 (by kernel_rfl) rfl (ow_call (X := []) (L := (⟨b166, #[rv], 135⟩ :: (⟨b60, pa, 150⟩ :: (⟨b5, #[.slice ad l.length cap], 44⟩ :: (⟨b10, #[.int .i64 ((lv : Nat) : Int)], 3⟩ :: (RR ++ [])))))) (lb := []) hs187 (hrec (((le73.trans le160).trans le180).trans le182) x.isLt hmix (hpe.up (le180.trans le182))) (by kernel_rfl) rfl rfl rfl rfl rfl ?_)
            rintro v188 G9 X1 w190 hn189 le193 hs191 hid192
            obtain rfl : X1 = [] := List.map_eq_nil_iff.1 hid192
            replace hs191 : St W186 G8 (ids (⟨b166, #[rv], 135⟩ :: (⟨b60, pa, 150⟩ :: (⟨b5, #[.slice ad l.length cap], 44⟩ :: (⟨b10, #[.int .i64 ((lv : Nat) : Int)], 3⟩ :: (RR ++ [])))))) G9 (⟨b166, #[rv], 135⟩ :: (⟨b60, pa, 150⟩ :: (⟨b5, #[.slice ad l.length cap], 44⟩ :: (⟨b10, #[.int .i64 ((lv : Nat) : Int)], 3⟩ :: (RR ++ []))))) w190 := hs191
            clear hs187 hid192
            replace hss := hs191.ss (I := G8) le193 (SubL.sub (.cons (.tail _ (.head _)) (.cons (.tail _ (.tail _ (.head _))) (.cons (.tail _ (.tail _ (.tail _ (.head _)))) .nil))))
            refine ⟨hss, ?_⟩
            refine dro 7 (by kernel_rfl) rfl (ow_newimm (mk := fun b => .slice (some ⟨b, 0, none⟩) 1 1) hs191 (r_buildSlice (e := 28) (cells := #[v188]) (.cons rfl (One.cells hn189.one) .nil) (by kernel_rfl)) rfl ?_)
            rintro b194 G10 w195 hb196 le197 hs198 ge199
            clear hs191
            replace hb196 : G10 b194 = some (.cells #[v188] 28 (0, 0)) := hb196
            replace hss := hs198.ss (I := G8) (le193.trans le197) (SubL.sub (.cons (.tail _ (.head _)) (.cons (.tail _ (.tail _ (.head _))) (.cons (.tail _ (.tail _ (.tail _ (.head _)))) .nil))))
            refine ⟨hss, ?_⟩
            have hs200 : St W186 G8 (ids (⟨b166, #[rv], 135⟩ :: (⟨b60, pa, 150⟩ :: (⟨b5, #[.slice ad l.length cap], 44⟩ :: (⟨b10, #[.int .i64 ((lv : Nat) : Int)], 3⟩ :: (RR ++ [])))))) G10 (RR ++ ([⟨b166, #[rv], 135⟩, ⟨b60, pa, 150⟩, ⟨b5, #[.slice ad l.length cap], 44⟩, ⟨b10, #[.int .i64 ((lv : Nat) : Int)], 3⟩] : List Bx)) w195 := hs198.perm (List.Perm.trans ((List.Perm.trans ((List.Perm.trans ((List.Perm.trans ((List.Perm.refl _).cons _) (List.perm_middle (l₁ := (RR : List Bx)) (a := (⟨b10, #[.int .i64 ((lv : Nat) : Int)], 3⟩ : Bx)) (l₂ := [])).symm).cons _) (List.perm_middle (l₁ := (RR : List Bx)) (a := (⟨b5, #[.slice ad l.length cap], 44⟩ : Bx)) (l₂ := [⟨b10, #[.int .i64 ((lv : Nat) : Int)], 3⟩])).symm).cons _) (List.perm_middle (l₁ := (RR : List Bx)) (a := (⟨b60, pa, 150⟩ : Bx)) (l₂ := [⟨b5, #[.slice ad l.length cap], 44⟩, ⟨b10, #[.int .i64 ((lv : Nat) : Int)], 3⟩])).symm).cons _) (List.perm_middle (l₁ := (RR : List Bx)) (a := (⟨b166, #[rv], 135⟩ : Bx)) (l₂ := [⟨b60, pa, 150⟩, ⟨b5, #[.slice ad l.length cap], 44⟩, ⟨b10, #[.int .i64 ((lv : Nat) : Int)], 3⟩])).symm); clear hs198
            refine dro 8 (by kernel_rfl) rfl (ow_append (R := RR) (L := [⟨b166, #[rv], 135⟩, ⟨b60, pa, 150⟩, ⟨b5, #[.slice ad l.length cap], 44⟩, ⟨b10, #[.int .i64 ((lv : Nat) : Int)], 3⟩]) (E := 28) (sz := 1) (bytes := 16) (news := [v188]) hs200 hrow (by kernel_rfl) rfl rfl rfl rfl rfl rfl (SliceAt.news (m := 1) (hs200.imm hb196) rfl) (ones_old (.cons hn189.one .nil)) (by simp only [maxLen]; omega) (by omega) rfl ?_)
            rintro v201 R202 w203 hr204 hs205 hf206
            replace hs205 : St W186 G8 (ids (⟨b166, #[rv], 135⟩ :: (⟨b60, pa, 150⟩ :: (⟨b5, #[.slice ad l.length cap], 44⟩ :: (⟨b10, #[.int .i64 ((lv : Nat) : Int)], 3⟩ :: (RR ++ [])))))) G10 (R202 ++ ([⟨b166, #[rv], 135⟩, ⟨b60, pa, 150⟩, ⟨b5, #[.slice ad l.length cap], 44⟩, ⟨b10, #[.int .i64 ((lv : Nat) : Int)], 3⟩] : List Bx)) w203 := hs205; clear hs200 hf206
            replace hss := hs205.ss (I := G8) (le193.trans le197) (SubL.sub (.cons (List.mem_append_right _ (.tail _ (.head _))) (.cons (List.mem_append_right _ (.tail _ (.tail _ (.head _)))) (.cons (List.mem_append_right _ (.tail _ (.tail _ (.tail _ (.head _))))) .nil))))
            refine ⟨hss, ?_⟩
            have hs207 : St W186 G8 (ids (⟨b166, #[rv], 135⟩ :: (⟨b60, pa, 150⟩ :: (⟨b5, #[.slice ad l.length cap], 44⟩ :: (⟨b10, #[.int .i64 ((lv : Nat) : Int)], 3⟩ :: (RR ++ [])))))) G10 (⟨b166, #[rv], 135⟩ :: (R202 ++ ([⟨b60, pa, 150⟩, ⟨b5, #[.slice ad l.length cap], 44⟩, ⟨b10, #[.int .i64 ((lv : Nat) : Int)], 3⟩] : List Bx))) w203 := hs205.perm (List.Perm.trans ((List.Perm.refl _).append_left _) (List.perm_middle (l₁ := (R202 : List Bx)) (a := (⟨b166, #[rv], 135⟩ : Bx)) (l₂ := [⟨b60, pa, 150⟩, ⟨b5, #[.slice ad l.length cap], 44⟩, ⟨b10, #[.int .i64 ((lv : Nat) : Int)], 3⟩]))); clear hs205
            refine dro 9 (by kernel_rfl) rfl (ow_store (vs := [v201]) hs207 rfl rfl (by kernel_rfl) rfl (congrArg Array.toList (One.cells hr204.one)) (.cons hr204.one .nil) rfl ?_)
            rintro w208 (hs209 : St W186 G8 (ids (⟨b166, #[rv], 135⟩ :: (⟨b60, pa, 150⟩ :: (⟨b5, #[.slice ad l.length cap], 44⟩ :: (⟨b10, #[.int .i64 ((lv : Nat) : Int)], 3⟩ :: (RR ++ [])))))) G10 (⟨b166, #[v201], 135⟩ :: (R202 ++ ([⟨b60, pa, 150⟩, ⟨b5, #[.slice ad l.length cap], 44⟩, ⟨b10, #[.int .i64 ((lv : Nat) : Int)], 3⟩] : List Bx))) w208)
            clear hs207
            replace hss := hs209.ss (I := G8) (le193.trans le197) (SubL.sub (.cons (.tail _ (List.mem_append_right _ (.head _))) (.cons (.tail _ (List.mem_append_right _ (.tail _ (.head _)))) (.cons (.tail _ (List.mem_append_right _ (.tail _ (.tail _ (.head _))))) .nil))))
            refine ⟨hss, ?_⟩
            refine draw_done (by kernel_rfl) ?_
            have hs210 : St W186 G8 (ids (⟨b166, #[rv], 135⟩ :: (⟨b60, pa, 150⟩ :: (⟨b5, #[.slice ad l.length cap], 44⟩ :: (⟨b10, #[.int .i64 ((lv : Nat) : Int)], 3⟩ :: (RR ++ [])))))) G10 (R202 ++ ([⟨b166, #[v201], 135⟩, ⟨b60, pa, 150⟩, ⟨b5, #[.slice ad l.length cap], 44⟩, ⟨b10, #[.int .i64 ((lv : Nat) : Int)], 3⟩] : List Bx)) w208 := hs209.perm (List.Perm.trans ((List.Perm.refl _).cons _) (List.perm_middle (l₁ := (R202 : List Bx)) (a := (⟨b166, #[v201], 135⟩ : Bx)) (l₂ := [⟨b60, pa, 150⟩, ⟨b5, #[.slice ad l.length cap], 44⟩, ⟨b10, #[.int .i64 ((lv : Nat) : Int)], 3⟩])).symm); clear hs209
            have hs211 : St W186 G8 (ids (⟨b166, #[rv], 135⟩ :: (⟨b60, pa, 150⟩ :: (⟨b5, #[.slice ad l.length cap], 44⟩ :: (⟨b10, #[.int .i64 ((lv : Nat) : Int)], 3⟩ :: (RR ++ [])))))) G10 (⟨b10, #[.int .i64 ((lv : Nat) : Int)], 3⟩ :: (R202 ++ ([⟨b166, #[v201], 135⟩, ⟨b60, pa, 150⟩, ⟨b5, #[.slice ad l.length cap], 44⟩] : List Bx))) w208 := hs210.perm (List.Perm.trans ((List.Perm.trans ((List.Perm.trans ((List.Perm.trans ((List.Perm.refl _).cons _) (List.Perm.swap _ _ _)).cons _) (List.Perm.swap _ _ _)).cons _) (List.Perm.swap _ _ _)).append_left _) (List.perm_middle (l₁ := (R202 : List Bx)) (a := (⟨b10, #[.int .i64 ((lv : Nat) : Int)], 3⟩ : Bx)) (l₂ := [⟨b166, #[v201], 135⟩, ⟨b60, pa, 150⟩, ⟨b5, #[.slice ad l.length cap], 44⟩]))); clear hs210
            have hs212 : St W186 G8 (ids (⟨b166, #[rv], 135⟩ :: (⟨b60, pa, 150⟩ :: (⟨b5, #[.slice ad l.length cap], 44⟩ :: (⟨b10, #[.int .i64 ((lv : Nat) : Int)], 3⟩ :: (RR ++ [])))))) G10 (⟨b5, #[.slice ad l.length cap], 44⟩ :: (⟨b10, #[.int .i64 ((lv : Nat) : Int)], 3⟩ :: (R202 ++ ([⟨b166, #[v201], 135⟩, ⟨b60, pa, 150⟩] : List Bx)))) w208 := hs211.perm (List.Perm.trans ((List.Perm.trans ((List.Perm.trans ((List.Perm.trans ((List.Perm.refl _).cons _) (List.Perm.swap _ _ _)).cons _) (List.Perm.swap _ _ _)).append_left _) (List.perm_middle (l₁ := (R202 : List Bx)) (a := (⟨b5, #[.slice ad l.length cap], 44⟩ : Bx)) (l₂ := [⟨b166, #[v201], 135⟩, ⟨b60, pa, 150⟩]))).cons _) (List.Perm.swap _ _ _)); clear hs211
            have hs213 : St W186 G8 (ids (⟨b166, #[rv], 135⟩ :: (⟨b60, pa, 150⟩ :: (⟨b5, #[.slice ad l.length cap], 44⟩ :: (⟨b10, #[.int .i64 ((lv : Nat) : Int)], 3⟩ :: (RR ++ [])))))) G10 (⟨b60, pa, 150⟩ :: (⟨b5, #[.slice ad l.length cap], 44⟩ :: (⟨b10, #[.int .i64 ((lv : Nat) : Int)], 3⟩ :: (R202 ++ ([⟨b166, #[v201], 135⟩] : List Bx))))) w208 := hs212.perm (List.Perm.trans ((List.Perm.trans ((List.Perm.trans ((List.Perm.trans ((List.Perm.refl _).cons _) (List.Perm.swap _ _ _)).append_left _) (List.perm_middle (l₁ := (R202 : List Bx)) (a := (⟨b60, pa, 150⟩ : Bx)) (l₂ := [⟨b166, #[v201], 135⟩]))).cons _) (List.Perm.swap _ _ _)).cons _) (List.Perm.swap _ _ _)); clear hs212
            have hs214 : St W186 G8 (ids (⟨b166, #[rv], 135⟩ :: (⟨b60, pa, 150⟩ :: (⟨b5, #[.slice ad l.length cap], 44⟩ :: (⟨b10, #[.int .i64 ((lv : Nat) : Int)], 3⟩ :: (RR ++ [])))))) G10 (⟨b166, #[v201], 135⟩ :: (⟨b60, pa, 150⟩ :: (⟨b5, #[.slice ad l.length cap], 44⟩ :: (⟨b10, #[.int .i64 ((lv : Nat) : Int)], 3⟩ :: (R202 ++ []))))) w208 := hs213.perm (List.Perm.trans ((List.Perm.trans ((List.Perm.trans ((List.Perm.trans ((List.Perm.refl _).append_left _) (List.perm_middle (l₁ := (R202 : List Bx)) (a := (⟨b166, #[v201], 135⟩ : Bx)) (l₂ := []))).cons _) (List.Perm.swap _ _ _)).cons _) (List.Perm.swap _ _ _)).cons _) (List.Perm.swap _ _ _)); clear hs213
            exact ⟨_, _, hs214, ⟨_, _, R202, rfl, (by simpa using hr204), (by rw [List.map_append]; exact NodesAt.snoc (NodesAt.up (le193.trans le197) hks) (hn189.up le197))⟩⟩
          ·
            refine dmo rfl (ow_call (X := []) (L := (⟨b166, #[rv], 135⟩ :: (⟨b60, pa, 150⟩ :: (⟨b5, #[.slice ad l.length cap], 44⟩ :: (⟨b10, #[.int .i64 ((lv : Nat) : Int)], 3⟩ :: (RR ++ [])))))) (lb := []) hs187 (hrec (((le73.trans le160).trans le180).trans le182) x.isLt hmix (hpe.up (le180.trans le182))) (by kernel_rfl) rfl rfl rfl rfl rfl ?_)
            rintro v215 G11 X1 w217 hn216 le220 hs218 hid219
            obtain rfl : X1 = [] := List.map_eq_nil_iff.1 hid219
            replace hs218 : St W186 G8 (ids (⟨b166, #[rv], 135⟩ :: (⟨b60, pa, 150⟩ :: (⟨b5, #[.slice ad l.length cap], 44⟩ :: (⟨b10, #[.int .i64 ((lv : Nat) : Int)], 3⟩ :: (RR ++ [])))))) G11 (⟨b166, #[rv], 135⟩ :: (⟨b60, pa, 150⟩ :: (⟨b5, #[.slice ad l.length cap], 44⟩ :: (⟨b10, #[.int .i64 ((lv : Nat) : Int)], 3⟩ :: (RR ++ []))))) w217 := hs218
            clear hs187 hid219
            replace hss := hs218.ss (I := G8) le220 (SubL.sub (.cons (.tail _ (.head _)) (.cons (.tail _ (.tail _ (.head _))) (.cons (.tail _ (.tail _ (.tail _ (.head _)))) .nil))))
            refine ⟨hss, ?_⟩
            refine draw_all [0, 7] (by kernel_rfl) rfl (forall_2 ?_ ?_)
            ·
              refine dmo rfl (ow_val (r_load rfl (by kernel_rfl) rfl (hs218.box (.head _)) rfl) rfl ?_)
              replace hss := hs218.ss (I := G8) le220 (SubL.sub (.cons (.tail _ (.head _)) (.cons (.tail _ (.tail _ (.head _))) (.cons (.tail _ (.tail _ (.tail _ (.head _)))) .nil))))
              refine ⟨hss, ?_⟩
              refine dro 7 (by kernel_rfl) rfl (ow_newimm (mk := fun b => .slice (some ⟨b, 0, none⟩) 1 1) hs218 (r_buildSlice (e := 28) (cells := #[v215]) (.cons rfl (One.cells hn216.one) .nil) (by kernel_rfl)) rfl ?_)
              rintro b221 G12 w222 hb223 le224 hs225 ge226
              clear hs218
              replace hb223 : G12 b221 = some (.cells #[v215] 28 (0, 0)) := hb223
              replace hss := hs225.ss (I := G8) (le220.trans le224) (SubL.sub (.cons (.tail _ (.head _)) (.cons (.tail _ (.tail _ (.head _))) (.cons (.tail _ (.tail _ (.tail _ (.head _)))) .nil))))
              refine ⟨hss, ?_⟩
              have hs227 : St W186 G8 (ids (⟨b166, #[rv], 135⟩ :: (⟨b60, pa, 150⟩ :: (⟨b5, #[.slice ad l.length cap], 44⟩ :: (⟨b10, #[.int .i64 ((lv : Nat) : Int)], 3⟩ :: (RR ++ [])))))) G12 (RR ++ ([⟨b166, #[rv], 135⟩, ⟨b60, pa, 150⟩, ⟨b5, #[.slice ad l.length cap], 44⟩, ⟨b10, #[.int .i64 ((lv : Nat) : Int)], 3⟩] : List Bx)) w222 := hs225.perm (List.Perm.trans ((List.Perm.trans ((List.Perm.trans ((List.Perm.trans ((List.Perm.refl _).cons _) (List.perm_middle (l₁ := (RR : List Bx)) (a := (⟨b10, #[.int .i64 ((lv : Nat) : Int)], 3⟩ : Bx)) (l₂ := [])).symm).cons _) (List.perm_middle (l₁ := (RR : List Bx)) (a := (⟨b5, #[.slice ad l.length cap], 44⟩ : Bx)) (l₂ := [⟨b10, #[.int .i64 ((lv : Nat) : Int)], 3⟩])).symm).cons _) (List.perm_middle (l₁ := (RR : List Bx)) (a := (⟨b60, pa, 150⟩ : Bx)) (l₂ := [⟨b5, #[.slice ad l.length cap], 44⟩, ⟨b10, #[.int .i64 ((lv : Nat) : Int)], 3⟩])).symm).cons _) (List.perm_middle (l₁ := (RR : List Bx)) (a := (⟨b166, #[rv], 135⟩ : Bx)) (l₂ := [⟨b60, pa, 150⟩, ⟨b5, #[.slice ad l.length cap], 44⟩, ⟨b10, #[.int .i64 ((lv : Nat) : Int)], 3⟩])).symm); clear hs225
              refine dro 8 (by kernel_rfl) rfl (ow_append (R := RR) (L := [⟨b166, #[rv], 135⟩, ⟨b60, pa, 150⟩, ⟨b5, #[.slice ad l.length cap], 44⟩, ⟨b10, #[.int .i64 ((lv : Nat) : Int)], 3⟩]) (E := 28) (sz := 1) (bytes := 16) (news := [v215]) hs227 hrow (by kernel_rfl) rfl rfl rfl rfl rfl rfl (SliceAt.news (m := 1) (hs227.imm hb223) rfl) (ones_old (.cons hn216.one .nil)) (by simp only [maxLen]; omega) (by omega) rfl ?_)
              rintro v228 R229 w230 hr231 hs232 hf233
              replace hs232 : St W186 G8 (ids (⟨b166, #[rv], 135⟩ :: (⟨b60, pa, 150⟩ :: (⟨b5, #[.slice ad l.length cap], 44⟩ :: (⟨b10, #[.int .i64 ((lv : Nat) : Int)], 3⟩ :: (RR ++ [])))))) G12 (R229 ++ ([⟨b166, #[rv], 135⟩, ⟨b60, pa, 150⟩, ⟨b5, #[.slice ad l.length cap], 44⟩, ⟨b10, #[.int .i64 ((lv : Nat) : Int)], 3⟩] : List Bx)) w230 := hs232; clear hs227 hf233
              replace hss := hs232.ss (I := G8) (le220.trans le224) (SubL.sub (.cons (List.mem_append_right _ (.tail _ (.head _))) (.cons (List.mem_append_right _ (.tail _ (.tail _ (.head _)))) (.cons (List.mem_append_right _ (.tail _ (.tail _ (.tail _ (.head _))))) .nil))))
              refine ⟨hss, ?_⟩
              have hs234 : St W186 G8 (ids (⟨b166, #[rv], 135⟩ :: (⟨b60, pa, 150⟩ :: (⟨b5, #[.slice ad l.length cap], 44⟩ :: (⟨b10, #[.int .i64 ((lv : Nat) : Int)], 3⟩ :: (RR ++ [])))))) G12 (⟨b166, #[rv], 135⟩ :: (R229 ++ ([⟨b60, pa, 150⟩, ⟨b5, #[.slice ad l.length cap], 44⟩, ⟨b10, #[.int .i64 ((lv : Nat) : Int)], 3⟩] : List Bx))) w230 := hs232.perm (List.Perm.trans ((List.Perm.refl _).append_left _) (List.perm_middle (l₁ := (R229 : List Bx)) (a := (⟨b166, #[rv], 135⟩ : Bx)) (l₂ := [⟨b60, pa, 150⟩, ⟨b5, #[.slice ad l.length cap], 44⟩, ⟨b10, #[.int .i64 ((lv : Nat) : Int)], 3⟩]))); clear hs232
              refine dro 9 (by kernel_rfl) rfl (ow_store (vs := [v228]) hs234 rfl rfl (by kernel_rfl) rfl (congrArg Array.toList (One.cells hr231.one)) (.cons hr231.one .nil) rfl ?_)
              rintro w235 (hs236 : St W186 G8 (ids (⟨b166, #[rv], 135⟩ :: (⟨b60, pa, 150⟩ :: (⟨b5, #[.slice ad l.length cap], 44⟩ :: (⟨b10, #[.int .i64 ((lv : Nat) : Int)], 3⟩ :: (RR ++ [])))))) G12 (⟨b166, #[v228], 135⟩ :: (R229 ++ ([⟨b60, pa, 150⟩, ⟨b5, #[.slice ad l.length cap], 44⟩, ⟨b10, #[.int .i64 ((lv : Nat) : Int)], 3⟩] : List Bx))) w235)
              clear hs234
              replace hss := hs236.ss (I := G8) (le220.trans le224) (SubL.sub (.cons (.tail _ (List.mem_append_right _ (.head _))) (.cons (.tail _ (List.mem_append_right _ (.tail _ (.head _)))) (.cons (.tail _ (List.mem_append_right _ (.tail _ (.tail _ (.head _))))) .nil))))
              refine ⟨hss, ?_⟩
              refine draw_done (by kernel_rfl) ?_
              have hs237 : St W186 G8 (ids (⟨b166, #[rv], 135⟩ :: (⟨b60, pa, 150⟩ :: (⟨b5, #[.slice ad l.length cap], 44⟩ :: (⟨b10, #[.int .i64 ((lv : Nat) : Int)], 3⟩ :: (RR ++ [])))))) G12 (R229 ++ ([⟨b166, #[v228], 135⟩, ⟨b60, pa, 150⟩, ⟨b5, #[.slice ad l.length cap], 44⟩, ⟨b10, #[.int .i64 ((lv : Nat) : Int)], 3⟩] : List Bx)) w235 := hs236.perm (List.Perm.trans ((List.Perm.refl _).cons _) (List.perm_middle (l₁ := (R229 : List Bx)) (a := (⟨b166, #[v228], 135⟩ : Bx)) (l₂ := [⟨b60, pa, 150⟩, ⟨b5, #[.slice ad l.length cap], 44⟩, ⟨b10, #[.int .i64 ((lv : Nat) : Int)], 3⟩])).symm); clear hs236
              have hs238 : St W186 G8 (ids (⟨b166, #[rv], 135⟩ :: (⟨b60, pa, 150⟩ :: (⟨b5, #[.slice ad l.length cap], 44⟩ :: (⟨b10, #[.int .i64 ((lv : Nat) : Int)], 3⟩ :: (RR ++ [])))))) G12 (⟨b10, #[.int .i64 ((lv : Nat) : Int)], 3⟩ :: (R229 ++ ([⟨b166, #[v228], 135⟩, ⟨b60, pa, 150⟩, ⟨b5, #[.slice ad l.length cap], 44⟩] : List Bx))) w235 := hs237.perm (List.Perm.trans ((List.Perm.trans ((List.Perm.trans ((List.Perm.trans ((List.Perm.refl _).cons _) (List.Perm.swap _ _ _)).cons _) (List.Perm.swap _ _ _)).cons _) (List.Perm.swap _ _ _)).append_left _) (List.perm_middle (l₁ := (R229 : List Bx)) (a := (⟨b10, #[.int .i64 ((lv : Nat) : Int)], 3⟩ : Bx)) (l₂ := [⟨b166, #[v228], 135⟩, ⟨b60, pa, 150⟩, ⟨b5, #[.slice ad l.length cap], 44⟩]))); clear hs237
              have hs239 : St W186 G8 (ids (⟨b166, #[rv], 135⟩ :: (⟨b60, pa, 150⟩ :: (⟨b5, #[.slice ad l.length cap], 44⟩ :: (⟨b10, #[.int .i64 ((lv : Nat) : Int)], 3⟩ :: (RR ++ [])))))) G12 (⟨b5, #[.slice ad l.length cap], 44⟩ :: (⟨b10, #[.int .i64 ((lv : Nat) : Int)], 3⟩ :: (R229 ++ ([⟨b166, #[v228], 135⟩, ⟨b60, pa, 150⟩] : List Bx)))) w235 := hs238.perm (List.Perm.trans ((List.Perm.trans ((List.Perm.trans ((List.Perm.trans ((List.Perm.refl _).cons _) (List.Perm.swap _ _ _)).cons _) (List.Perm.swap _ _ _)).append_left _) (List.perm_middle (l₁ := (R229 : List Bx)) (a := (⟨b5, #[.slice ad l.length cap], 44⟩ : Bx)) (l₂ := [⟨b166, #[v228], 135⟩, ⟨b60, pa, 150⟩]))).cons _) (List.Perm.swap _ _ _)); clear hs238
              have hs240 : St W186 G8 (ids (⟨b166, #[rv], 135⟩ :: (⟨b60, pa, 150⟩ :: (⟨b5, #[.slice ad l.length cap], 44⟩ :: (⟨b10, #[.int .i64 ((lv : Nat) : Int)], 3⟩ :: (RR ++ [])))))) G12 (⟨b60, pa, 150⟩ :: (⟨b5, #[.slice ad l.length cap], 44⟩ :: (⟨b10, #[.int .i64 ((lv : Nat) : Int)], 3⟩ :: (R229 ++ ([⟨b166, #[v228], 135⟩] : List Bx))))) w235 := hs239.perm (List.Perm.trans ((List.Perm.trans ((List.Perm.trans ((List.Perm.trans ((List.Perm.refl _).cons _) (List.Perm.swap _ _ _)).append_left _) (List.perm_middle (l₁ := (R229 : List Bx)) (a := (⟨b60, pa, 150⟩ : Bx)) (l₂ := [⟨b166, #[v228], 135⟩]))).cons _) (List.Perm.swap _ _ _)).cons _) (List.Perm.swap _ _ _)); clear hs239
              have hs241 : St W186 G8 (ids (⟨b166, #[rv], 135⟩ :: (⟨b60, pa, 150⟩ :: (⟨b5, #[.slice ad l.length cap], 44⟩ :: (⟨b10, #[.int .i64 ((lv : Nat) : Int)], 3⟩ :: (RR ++ [])))))) G12 (⟨b166, #[v228], 135⟩ :: (⟨b60, pa, 150⟩ :: (⟨b5, #[.slice ad l.length cap], 44⟩ :: (⟨b10, #[.int .i64 ((lv : Nat) : Int)], 3⟩ :: (R229 ++ []))))) w235 := hs240.perm (List.Perm.trans ((List.Perm.trans ((List.Perm.trans ((List.Perm.trans ((List.Perm.refl _).append_left _) (List.perm_middle (l₁ := (R229 : List Bx)) (a := (⟨b166, #[v228], 135⟩ : Bx)) (l₂ := []))).cons _) (List.Perm.swap _ _ _)).cons _) (List.Perm.swap _ _ _)).cons _) (List.Perm.swap _ _ _)); clear hs240
              exact ⟨_, _, hs241, ⟨_, _, R229, rfl, (by simpa using hr231), (by rw [List.map_append]; exact NodesAt.snoc (NodesAt.up (le220.trans le224) hks) (hn216.up le224))⟩⟩
            ·
              refine dmo rfl (ow_newimm (mk := fun b => .slice (some ⟨b, 0, none⟩) 1 1) hs218 (r_buildSlice (e := 28) (cells := #[v215]) (.cons rfl (One.cells hn216.one) .nil) (by kernel_rfl)) rfl ?_)
              rintro b242 G13 w243 hb244 le245 hs246 ge247
              clear hs218
              replace hb244 : G13 b242 = some (.cells #[v215] 28 (0, 0)) := hb244
              replace hss := hs246.ss (I := G8) (le220.trans le245) (SubL.sub (.cons (.tail _ (.head _)) (.cons (.tail _ (.tail _ (.head _))) (.cons (.tail _ (.tail _ (.tail _ (.head _)))) .nil))))
              refine ⟨hss, ?_⟩
              refine dro 0 (by kernel_rfl) rfl (ow_val (r_load rfl (by kernel_rfl) rfl (hs246.box (.head _)) rfl) rfl ?_)
              replace hss := hs246.ss (I := G8) (le220.trans le245) (SubL.sub (.cons (.tail _ (.head _)) (.cons (.tail _ (.tail _ (.head _))) (.cons (.tail _ (.tail _ (.tail _ (.head _)))) .nil))))
              refine ⟨hss, ?_⟩
              have hs248 : St W186 G8 (ids (⟨b166, #[rv], 135⟩ :: (⟨b60, pa, 150⟩ :: (⟨b5, #[.slice ad l.length cap], 44⟩ :: (⟨b10, #[.int .i64 ((lv : Nat) : Int)], 3⟩ :: (RR ++ [])))))) G13 (RR ++ ([⟨b166, #[rv], 135⟩, ⟨b60, pa, 150⟩, ⟨b5, #[.slice ad l.length cap], 44⟩, ⟨b10, #[.int .i64 ((lv : Nat) : Int)], 3⟩] : List Bx)) w243 := hs246.perm (List.Perm.trans ((List.Perm.trans ((List.Perm.trans ((List.Perm.trans ((List.Perm.refl _).cons _) (List.perm_middle (l₁ := (RR : List Bx)) (a := (⟨b10, #[.int .i64 ((lv : Nat) : Int)], 3⟩ : Bx)) (l₂ := [])).symm).cons _) (List.perm_middle (l₁ := (RR : List Bx)) (a := (⟨b5, #[.slice ad l.length cap], 44⟩ : Bx)) (l₂ := [⟨b10, #[.int .i64 ((lv : Nat) : Int)], 3⟩])).symm).cons _) (List.perm_middle (l₁ := (RR : List Bx)) (a := (⟨b60, pa, 150⟩ : Bx)) (l₂ := [⟨b5, #[.slice ad l.length cap], 44⟩, ⟨b10, #[.int .i64 ((lv : Nat) : Int)], 3⟩])).symm).cons _) (List.perm_middle (l₁ := (RR : List Bx)) (a := (⟨b166, #[rv], 135⟩ : Bx)) (l₂ := [⟨b60, pa, 150⟩, ⟨b5, #[.slice ad l.length cap], 44⟩, ⟨b10, #[.int .i64 ((lv : Nat) : Int)], 3⟩])).symm); clear hs246
              refine dro 8 (by kernel_rfl) rfl (ow_append (R := RR) (L := [⟨b166, #[rv], 135⟩, ⟨b60, pa, 150⟩, ⟨b5, #[.slice ad l.length cap], 44⟩, ⟨b10, #[.int .i64 ((lv : Nat) : Int)], 3⟩]) (E := 28) (sz := 1) (bytes := 16) (news := [v215]) hs248 hrow (by kernel_rfl) rfl rfl rfl rfl rfl rfl (SliceAt.news (m := 1) (hs248.imm hb244) rfl) (ones_old (.cons hn216.one .nil)) (by simp only [maxLen]; omega) (by omega) rfl ?_)
              rintro v249 R250 w251 hr252 hs253 hf254
              replace hs253 : St W186 G8 (ids (⟨b166, #[rv], 135⟩ :: (⟨b60, pa, 150⟩ :: (⟨b5, #[.slice ad l.length cap], 44⟩ :: (⟨b10, #[.int .i64 ((lv : Nat) : Int)], 3⟩ :: (RR ++ [])))))) G13 (R250 ++ ([⟨b166, #[rv], 135⟩, ⟨b60, pa, 150⟩, ⟨b5, #[.slice ad l.length cap], 44⟩, ⟨b10, #[.int .i64 ((lv : Nat) : Int)], 3⟩] : List Bx)) w251 := hs253; clear hs248 hf254
              replace hss := hs253.ss (I := G8) (le220.trans le245) (SubL.sub (.cons (List.mem_append_right _ (.tail _ (.head _))) (.cons (List.mem_append_right _ (.tail _ (.tail _ (.head _)))) (.cons (List.mem_append_right _ (.tail _ (.tail _ (.tail _ (.head _))))) .nil))))
              refine ⟨hss, ?_⟩
              have hs255 : St W186 G8 (ids (⟨b166, #[rv], 135⟩ :: (⟨b60, pa, 150⟩ :: (⟨b5, #[.slice ad l.length cap], 44⟩ :: (⟨b10, #[.int .i64 ((lv : Nat) : Int)], 3⟩ :: (RR ++ [])))))) G13 (⟨b166, #[rv], 135⟩ :: (R250 ++ ([⟨b60, pa, 150⟩, ⟨b5, #[.slice ad l.length cap], 44⟩, ⟨b10, #[.int .i64 ((lv : Nat) : Int)], 3⟩] : List Bx))) w251 := hs253.perm (List.Perm.trans ((List.Perm.refl _).append_left _) (List.perm_middle (l₁ := (R250 : List Bx)) (a := (⟨b166, #[rv], 135⟩ : Bx)) (l₂ := [⟨b60, pa, 150⟩, ⟨b5, #[.slice ad l.length cap], 44⟩, ⟨b10, #[.int .i64 ((lv : Nat) : Int)], 3⟩]))); clear hs253
              refine dro 9 (by kernel_rfl) rfl (ow_store (vs := [v249]) hs255 rfl rfl (by kernel_rfl) rfl (congrArg Array.toList (One.cells hr252.one)) (.cons hr252.one .nil) rfl ?_)
              rintro w256 (hs257 : St W186 G8 (ids (⟨b166, #[rv], 135⟩ :: (⟨b60, pa, 150⟩ :: (⟨b5, #[.slice ad l.length cap], 44⟩ :: (⟨b10, #[.int .i64 ((lv : Nat) : Int)], 3⟩ :: (RR ++ [])))))) G13 (⟨b166, #[v249], 135⟩ :: (R250 ++ ([⟨b60, pa, 150⟩, ⟨b5, #[.slice ad l.length cap], 44⟩, ⟨b10, #[.int .i64 ((lv : Nat) : Int)], 3⟩] : List Bx))) w256)
              clear hs255
              replace hss := hs257.ss (I := G8) (le220.trans le245) (SubL.sub (.cons (.tail _ (List.mem_append_right _ (.head _))) (.cons (.tail _ (List.mem_append_right _ (.tail _ (.head _)))) (.cons (.tail _ (List.mem_append_right _ (.tail _ (.tail _ (.head _))))) .nil))))
              refine ⟨hss, ?_⟩
              refine draw_done (by kernel_rfl) ?_
              have hs258 : St W186 G8 (ids (⟨b166, #[rv], 135⟩ :: (⟨b60, pa, 150⟩ :: (⟨b5, #[.slice ad l.length cap], 44⟩ :: (⟨b10, #[.int .i64 ((lv : Nat) : Int)], 3⟩ :: (RR ++ [])))))) G13 (R250 ++ ([⟨b166, #[v249], 135⟩, ⟨b60, pa, 150⟩, ⟨b5, #[.slice ad l.length cap], 44⟩, ⟨b10, #[.int .i64 ((lv : Nat) : Int)], 3⟩] : List Bx)) w256 := hs257.perm (List.Perm.trans ((List.Perm.refl _).cons _) (List.perm_middle (l₁ := (R250 : List Bx)) (a := (⟨b166, #[v249], 135⟩ : Bx)) (l₂ := [⟨b60, pa, 150⟩, ⟨b5, #[.slice ad l.length cap], 44⟩, ⟨b10, #[.int .i64 ((lv : Nat) : Int)], 3⟩])).symm); clear hs257
              have hs259 : St W186 G8 (ids (⟨b166, #[rv], 135⟩ :: (⟨b60, pa, 150⟩ :: (⟨b5, #[.slice ad l.length cap], 44⟩ :: (⟨b10, #[.int .i64 ((lv : Nat) : Int)], 3⟩ :: (RR ++ [])))))) G13 (⟨b10, #[.int .i64 ((lv : Nat) : Int)], 3⟩ :: (R250 ++ ([⟨b166, #[v249], 135⟩, ⟨b60, pa, 150⟩, ⟨b5, #[.slice ad l.length cap], 44⟩] : List Bx))) w256 := hs258.perm (List.Perm.trans ((List.Perm.trans ((List.Perm.trans ((List.Perm.trans ((List.Perm.refl _).cons _) (List.Perm.swap _ _ _)).cons _) (List.Perm.swap _ _ _)).cons _) (List.Perm.swap _ _ _)).append_left _) (List.perm_middle (l₁ := (R250 : List Bx)) (a := (⟨b10, #[.int .i64 ((lv : Nat) : Int)], 3⟩ : Bx)) (l₂ := [⟨b166, #[v249], 135⟩, ⟨b60, pa, 150⟩, ⟨b5, #[.slice ad l.length cap], 44⟩]))); clear hs258
              have hs260 : St W186 G8 (ids (⟨b166, #[rv], 135⟩ :: (⟨b60, pa, 150⟩ :: (⟨b5, #[.slice ad l.length cap], 44⟩ :: (⟨b10, #[.int .i64 ((lv : Nat) : Int)], 3⟩ :: (RR ++ [])))))) G13 (⟨b5, #[.slice ad l.length cap], 44⟩ :: (⟨b10, #[.int .i64 ((lv : Nat) : Int)], 3⟩ :: (R250 ++ ([⟨b166, #[v249], 135⟩, ⟨b60, pa, 150⟩] : List Bx)))) w256 := hs259.perm (List.Perm.trans ((List.Perm.trans ((List.Perm.trans ((List.Perm.trans ((List.Perm.refl _).cons _) (List.Perm.swap _ _ _)).cons _) (List.Perm.swap _ _ _)).append_left _) (List.perm_middle (l₁ := (R250 : List Bx)) (a := (⟨b5, #[.slice ad l.length cap], 44⟩ : Bx)) (l₂ := [⟨b166, #[v249], 135⟩, ⟨b60, pa, 150⟩]))).cons _) (List.Perm.swap _ _ _)); clear hs259
              have hs261 : St W186 G8 (ids (⟨b166, #[rv], 135⟩ :: (⟨b60, pa, 150⟩ :: (⟨b5, #[.slice ad l.length cap], 44⟩ :: (⟨b10, #[.int .i64 ((lv : Nat) : Int)], 3⟩ :: (RR ++ [])))))) G13 (⟨b60, pa, 150⟩ :: (⟨b5, #[.slice ad l.length cap], 44⟩ :: (⟨b10, #[.int .i64 ((lv : Nat) : Int)], 3⟩ :: (R250 ++ ([⟨b166, #[v249], 135⟩] : List Bx))))) w256 := hs260.perm (List.Perm.trans ((List.Perm.trans ((List.Perm.trans ((List.Perm.trans ((List.Perm.refl _).cons _) (List.Perm.swap _ _ _)).append_left _) (List.perm_middle (l₁ := (R250 : List Bx)) (a := (⟨b60, pa, 150⟩ : Bx)) (l₂ := [⟨b166, #[v249], 135⟩]))).cons _) (List.Perm.swap _ _ _)).cons _) (List.Perm.swap _ _ _)); clear hs260
              have hs262 : St W186 G8 (ids (⟨b166, #[rv], 135⟩ :: (⟨b60, pa, 150⟩ :: (⟨b5, #[.slice ad l.length cap], 44⟩ :: (⟨b10, #[.int .i64 ((lv : Nat) : Int)], 3⟩ :: (RR ++ [])))))) G13 (⟨b166, #[v249], 135⟩ :: (⟨b60, pa, 150⟩ :: (⟨b5, #[.slice ad l.length cap], 44⟩ :: (⟨b10, #[.int .i64 ((lv : Nat) : Int)], 3⟩ :: (R250 ++ []))))) w256 := hs261.perm (List.Perm.trans ((List.Perm.trans ((List.Perm.trans ((List.Perm.trans ((List.Perm.refl _).append_left _) (List.perm_middle (l₁ := (R250 : List Bx)) (a := (⟨b166, #[v249], 135⟩ : Bx)) (l₂ := []))).cons _) (List.Perm.swap _ _ _)).cons _) (List.Perm.swap _ _ _)).cons _) (List.Perm.swap _ _ _)); clear hs261
              exact ⟨_, _, hs262, ⟨_, _, R250, rfl, (by simpa using hr252), (by rw [List.map_append]; exact NodesAt.snoc (NodesAt.up (le220.trans le245) hks) (hn216.up le245))⟩⟩
        ·
          generalize hpre : (bitsF (setOf l lv)) = pre
          rintro D263 G8 LL W264 hD265 le268 ⟨rv, vs, RR, rfl, hrow, hks⟩ hD266 hsA267
          clear hs178
          replace hsA267 : St w0 I (ids []) G8 (⟨b166, #[rv], 135⟩ :: (⟨b60, pa, 150⟩ :: (⟨b5, #[.slice ad l.length cap], 44⟩ :: (⟨b10, #[.int .i64 ((lv : Nat) : Int)], 3⟩ :: (RR ++ []))))) W264 := hsA267
          have hs269 : St w0 I (ids []) G8 (RR ++ ([⟨b166, #[rv], 135⟩, ⟨b60, pa, 150⟩, ⟨b5, #[.slice ad l.length cap], 44⟩, ⟨b10, #[.int .i64 ((lv : Nat) : Int)], 3⟩] : List Bx)) W264 := hsA267.perm (List.Perm.trans ((List.Perm.trans ((List.Perm.trans ((List.Perm.trans ((List.Perm.refl _).cons _) (List.perm_middle (l₁ := (RR : List Bx)) (a := (⟨b10, #[.int .i64 ((lv : Nat) : Int)], 3⟩ : Bx)) (l₂ := [])).symm).cons _) (List.perm_middle (l₁ := (RR : List Bx)) (a := (⟨b5, #[.slice ad l.length cap], 44⟩ : Bx)) (l₂ := [⟨b10, #[.int .i64 ((lv : Nat) : Int)], 3⟩])).symm).cons _) (List.perm_middle (l₁ := (RR : List Bx)) (a := (⟨b60, pa, 150⟩ : Bx)) (l₂ := [⟨b5, #[.slice ad l.length cap], 44⟩, ⟨b10, #[.int .i64 ((lv : Nat) : Int)], 3⟩])).symm).cons _) (List.perm_middle (l₁ := (RR : List Bx)) (a := (⟨b166, #[rv], 135⟩ : Bx)) (l₂ := [⟨b60, pa, 150⟩, ⟨b5, #[.slice ad l.length cap], 44⟩, ⟨b10, #[.int .i64 ((lv : Nat) : Int)], 3⟩])).symm); clear hsA267
          obtain ⟨G14, le270, hs271, hz272⟩ := hs269.freezeRow (R := RR) (L := [⟨b166, #[rv], 135⟩, ⟨b60, pa, 150⟩, ⟨b5, #[.slice ad l.length cap], 44⟩, ⟨b10, #[.int .i64 ((lv : Nat) : Int)], 3⟩]) hrow (fun _ h => by cases h); clear hs269
          replace hs271 : St w0 I (ids []) G14 [⟨b166, #[rv], 135⟩, ⟨b60, pa, 150⟩, ⟨b5, #[.slice ad l.length cap], 44⟩, ⟨b10, #[.int .i64 ((lv : Nat) : Int)], 3⟩] W264 := hs271
          have hs273 : St W264 G14 (ids [⟨b166, #[rv], 135⟩, ⟨b60, pa, 150⟩, ⟨b5, #[.slice ad l.length cap], 44⟩, ⟨b10, #[.int .i64 ((lv : Nat) : Int)], 3⟩]) G14 [⟨b166, #[rv], 135⟩, ⟨b60, pa, 150⟩, ⟨b5, #[.slice ad l.length cap], 44⟩, ⟨b10, #[.int .i64 ((lv : Nat) : Int)], 3⟩] W264 := hs271.base
          refine hK170 _ _ ?_; (try clear hK170 K169)
          refine wp_seq_k fun K274 hK275 => ?_
          refine wl_begin ?_
          refine sq (r_move rfl) rfl ?_
          refine sq (r_load rfl (by kernel_rfl) rfl (hs273.box (.head _)) rfl) rfl ?_
          have hks2 : NodesAt G14 vs (pre.map (fun i => layN f (partL l lv i.val) (lv + 1))) := NodesAt.up le270 hks
          have hlen2 : (pre.map (fun i => layN f (partL l lv i.val) (lv + 1))).length = pre.length := List.length_map _
          have hpl : pre.length ≤ 32 := by rw [← hpre, bitsF_length]; exact bitsL_le _
          have hsz2 : N.sizes (pre.map (fun i => layN f (partL l lv i.val) (lv + 1))) ≤ 1000000 := by rw [← hpre, bits_mapN _ (fun i => layN f (partL l lv i) (lv + 1))]; exact Nat.le_trans (lay_kids_size f l lv) (by omega)
          refine sqo rfl fun K276 hK277 => ow_call (X := []) (L := [⟨b166, #[rv], 135⟩, ⟨b60, pa, 150⟩, ⟨b5, #[.slice ad l.length cap], 44⟩, ⟨b10, #[.int .i64 ((lv : Nat) : Int)], 3⟩]) (lb := []) hs273 (branch_ok (m := (setOf l lv)) (setOf_lt _ _) (kids := pre.map (fun i => layN f (partL l lv i.val) (lv + 1))) (by rw [hlen2]; exact hz272) hks2 (by omega) hsz2) (by kernel_rfl) rfl rfl rfl rfl rfl ?_
          rintro v278 G15 X1 w280 hn279 le283 hs281 hid282
          obtain rfl : X1 = [] := List.map_eq_nil_iff.1 hid282
          replace hs281 : St W264 G14 (ids [⟨b166, #[rv], 135⟩, ⟨b60, pa, 150⟩, ⟨b5, #[.slice ad l.length cap], 44⟩, ⟨b10, #[.int .i64 ((lv : Nat) : Int)], 3⟩]) G15 [⟨b166, #[rv], 135⟩, ⟨b60, pa, 150⟩, ⟨b5, #[.slice ad l.length cap], 44⟩, ⟨b10, #[.int .i64 ((lv : Nat) : Int)], 3⟩] w280 := hs281
          clear hs273 hid282
          refine hK277 _ _ ?_; clear hK277 K276
          refine sq (r_assign rfl) rfl ?_
          refine wl_nil ?_
          refine hK275 _ _ ?_; (try clear hK275 K274)
          refine wp_ret ?_
          refine leaveM (X' := []) (L := [⟨b166, #[rv], 135⟩, ⟨b60, pa, 150⟩, ⟨b5, #[.slice ad l.length cap], 44⟩, ⟨b10, #[.int .i64 ((lv : Nat) : Int)], 3⟩]) hs271 hD266 hD265 hs281 rfl rfl (.inl rfl) (fun w284 hs285 => ?_)
          replace hs285 : St w0 I (ids []) G15 [⟨b166, #[rv], 135⟩, ⟨b60, pa, 150⟩, ⟨b5, #[.slice ad l.length cap], 44⟩, ⟨b10, #[.int .i64 ((lv : Nat) : Int)], 3⟩] w284 := hs285
          exact ⟨_, (res_one (v := v278) rfl (.tmp rfl rfl .nil)), (by rw [layN_mix hneL hmix, ← bits_mapN _ (fun i => layN f (partL l lv i) (lv + 1)), hpre]; exact hn279)⟩
        ·
          intro _ _ _ _ _ _ _ _ _ h; exact h.elim
theorem mix_all {l : EL} (h : ∀ p ∈ l, ∀ q ∈ l, p.1 = q.1) : mixB l = false := by
  unfold mixB
  rw [List.any_eq_false]
  intro p hp
  cases l with
  | nil => cases hp
  | cons q l => simp [h p hp q (.head _)]
theorem part_mem {l : EL} {lv c : Nat} {p : Nat × Bs × Bs} (h : p ∈ partL l lv c) : p ∈ l ∧ chunkN p.1 lv = c := by
  unfold partL at h
  have := List.mem_filter.1 h
  exact ⟨this.1, by simpa using this.2⟩
theorem part_sub (l : EL) (lv c : Nat) : ((partL l lv c).map (·.2)).Sublist (l.map (·.2)) := (List.filter_sublist).map _
theorem lay_ok : ∀ (f : Nat) {I : GH} {lv : Nat} {v0 : Value} {l : EL}, TabG I → EntAt I v0 l → Apart (l.map (·.2)) → Sm (l.map (·.2)) → (∀ p ∈ l, p.1 < 2 ^ 64) → l.length ≤ 1000 → lv + f = 13 →
    (∀ p ∈ l, ∀ q ∈ l, p.1 % 32 ^ lv = q.1 % 32 ^ lv) → Fn Tryd.prog 47 #[v0, .int .i64 ((lv : Nat) : Int)] I [] (fun r J _ => NodeAt J r (layN (f + 1) l lv))
  | 0, I, lv, v0, l, ht, hl, hap, hsm, hh, hll, hlv, hag => by
    have hmix : mixB l = false := mix_all fun p hp q hq => by
      have := hag p hp q hq
      have e : (2 : Nat) ^ 64 ≤ 32 ^ 13 := by decide
      obtain rfl : lv = 13 := by omega
      rwa [Nat.mod_eq_of_lt (Nat.lt_of_lt_of_le (hh p hp) e), Nat.mod_eq_of_lt (Nat.lt_of_lt_of_le (hh q hq) e)] at this
    exact lay_step (f := 0) ht hl hap hsm hh hll (by omega) fun _ _ hm _ => by rw [hmix] at hm; cases hm
  | f + 1, I, lv, v0, l, ht, hl, hap, hsm, hh, hll, hlv, hag =>
    lay_step (f := f + 1) ht hl hap hsm hh hll (by omega) fun {J u c} hle hc hm hu =>
      lay_ok f (lv := lv + 1) (ht.up hle) hu (List.Pairwise.sublist (part_sub l lv c) hap) (fun p hp => hsm p ((part_sub l lv c).subset hp)) (fun p hp => hh p (part_mem hp).1) (Nat.le_trans (List.length_filter_le _ _) hll) (by omega)
        fun p hp q hq => by
          rw [N.chunk_step (l := lv) (by omega) rfl, N.chunk_step (l := lv) (by omega) rfl, (part_mem hp).2, (part_mem hq).2, hag p (part_mem hp).1 q (part_mem hq).1]
end Go.Proofs.YtlnlodfnplkckaaDoor
