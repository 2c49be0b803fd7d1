/- Texts of the walk, laid together. Each theorem's conditions stand in it. -/
import Derived.Test.YtlnlodfnplkckaaDoorF6
import Derived.Shelf.SlicesQ.Reverse
import Derived.Test.YtlnlodfnplkckaaDoorRows
import Derived.Test.YtlnlodfnplkckaaDoorTie
import Derived.Test.YtlnlodfnplkckaaDoorCards
import Derived.ProofKit
import Derived.LaidMore
import Derived.Stop.Joined
import Derived.SevenTiedAt
/- slices.Reverse of entries, laid over the shelf's proof. Each theorem's conditions stand in it. -/
namespace Go.Proofs.YtlnlodfnplkckaaDoor
open Go.Shelf Go.RowKit Go.Lib Go.Sort
set_option linter.unusedVariables false
def revRen : Go.Shelf.Ren := ⟨fun | 35 => 46 | n => n, fun | 0 => 0 | 3 => 3 | 4 => 4 | 22 => 44 | 23 => 58 | n => n, fun n => n⟩
set_option maxRecDepth 100000 in
theorem revLays : SlLaysE0.n35 Tryd.prog revRen where
  mixed := by kernel_rfl
  f35 := ⟨Tryd.f46.name, by kernel_rfl, Tryd.func46.trans (congrArg some (by kernel_rfl))⟩
  t0 := Tryd.underlying0
  a0 := Tryd.isAgg0
  z0 := Tryd.sizeOf0
  v0 := Tryd.zeroValue0
  t3 := Tryd.underlying3
  a3 := Tryd.isAgg3
  z3 := Tryd.sizeOf3
  v3 := Tryd.zeroValue3
  t4 := Tryd.underlying4
  a4 := Tryd.isAgg4
  z4 := Tryd.sizeOf4
  v4 := Tryd.zeroValue4
  t22 := Tryd.underlying44
  a22 := Tryd.isAgg44
  z22 := Tryd.sizeOf44
  v22 := Tryd.zeroValue44
section
variable {w : World} {b m k : Nat} {d : Array Nat} {enc : Nat → List Value}
theorem pw_heap : (putRowK enc k (Sort.ahead w m) b 0 d).heap = w.heap.modify b (onCells (putCells id 0 (flatK enc k d))) := rfl
theorem pw_size : (putRowK enc k (Sort.ahead w m) b 0 d).heap.size = w.heap.size := by rw [pw_heap, Array.size_modify]
theorem pw_same {i : Nat} (hi : i ≠ b) : (putRowK enc k (Sort.ahead w m) b 0 d).heap[i]? = w.heap[i]? := by
  rw [pw_heap, Array.getElem?_modify, if_neg (Ne.symm hi)]
theorem pw_row {cur : Array Value} {T : TypeId} (h : w.heap[b]? = some (.cells cur T (0, 0))) : (putRowK enc k (Sort.ahead w m) b 0 d).heap[b]? = some (.cells (putCells id 0 (flatK enc k d) cur) T (0, 0)) := by
  rw [pw_heap, Array.getElem?_modify, if_pos rfl, h]
  rfl
theorem flat_key (hk0 : 0 < k) (hk : ∀ i, (enc i).length = k) : ∀ (ds : List Nat) (t : Nat), t < ds.length * k → (ds.flatMap enc)[t]? = (enc (ds.getD (t / k) 0))[t % k]?
  | [], t, ht => by simp at ht
  | i :: ds, t, ht => by
    rw [List.flatMap_cons]
    by_cases h : t < k
    · rw [List.getElem?_append_left (by rw [hk]; exact h), Nat.div_eq_of_lt h, Nat.mod_eq_of_lt h]; rfl
    · obtain ⟨u, rfl⟩ : ∃ u, t = u + k := ⟨t - k, by omega⟩
      rw [List.getElem?_append_right (by rw [hk]; omega), hk, Nat.add_sub_cancel, Nat.add_div_right _ hk0, Nat.add_mod_right]
      refine flat_key hk0 hk ds u ?_
      rw [List.length_cons, Nat.add_mul, Nat.one_mul] at ht
      omega
theorem flat_listK (hk0 : 0 < k) (hk : ∀ i, (enc i).length = k) (d : Array Nat) : (flatK enc k d).toList = d.toList.flatMap enc := by
  have hl : (d.toList.flatMap enc).length = d.size * k := by
    have : ∀ ds : List Nat, (ds.flatMap enc).length = ds.length * k := by
      intro ds
      induction ds with
      | nil => simp
      | cons i ds ih => rw [List.flatMap_cons, List.length_append, ih, hk, List.length_cons, Nat.add_mul]; omega
    rw [this]; simp
  apply List.ext_getElem?
  intro t
  by_cases ht : t < d.size * k
  · rw [flat_key hk0 hk d.toList t (by simpa using ht), Array.getElem?_toList, Array.getElem?_eq_getElem (by simpa using ht)]
    have h1 := get_flatK enc k d t ht
    rw [getElem!_pos (flatK enc k d) t (by simpa using ht)] at h1
    rw [h1]
    have hlt : t / k < d.size := Nat.div_lt_of_lt_mul (by rw [Nat.mul_comm]; exact ht)
    have h2 : d[t / k]! = d.toList.getD (t / k) 0 := by
      rw [getElem!_pos d (t / k) hlt, List.getD_eq_getElem?_getD, Array.getElem?_toList, Array.getElem?_eq_getElem hlt]; rfl
    rw [h2]
    have h3 : t % k < (enc (d.toList.getD (t / k) 0)).length := by rw [hk]; exact Nat.mod_lt _ hk0
    rw [List.getElem?_eq_getElem h3]
    exact congrArg some (getElem!_pos (enc (d.toList.getD (t / k) 0)) (t % k) h3)
  · rw [List.getElem?_eq_none (by simp; omega), List.getElem?_eq_none (by omega)]
end
def encE (cs : List Value) (i : Nat) : List Value := [cs.getD (i * 3) nilS, cs.getD (i * 3 + 1) nilS, cs.getD (i * 3 + 2) nilS]
theorem EntCells.getD {I : GH} : ∀ {cs : List Value} {l : EL} (i : Nat), EntCells I cs l → i < l.length → cs.getD (i * 3) nilS = .int .u64 (((l.getD i (0, [], [])).1 : Nat) : Int) ∧ BytesAt I (cs.getD (i * 3 + 1) nilS) (l.getD i (0, [], [])).2.1 ∧ BytesAt I (cs.getD (i * 3 + 2) nilS) (l.getD i (0, [], [])).2.2
  | [], [], i, _, h => by simp at h
  | c :: kv :: xv :: cs, p :: l, 0, ⟨h0, h1, h2, _⟩, _ => ⟨h0, h1, h2⟩
  | c :: kv :: xv :: cs, p :: l, i + 1, ⟨_, _, _, h3⟩, h => by
    have := EntCells.getD i h3 (by simpa using h)
    rw [show (i + 1) * 3 = i * 3 + 1 + 1 + 1 by omega]
    exact this
  | [], _ :: _, _, h, _ => h.elim
  | [_], l, _, h, _ => by cases l <;> exact h.elim
  | [_, _], l, _, h, _ => by cases l <;> exact h.elim
  | _ :: _ :: _ :: _, [], _, h, _ => h.elim
theorem ent_flat {I : GH} {cs : List Value} {l : EL} (he : EntCells I cs l) : ∀ (ds : List Nat), (∀ i ∈ ds, i < l.length) → EntCells I (ds.flatMap (encE cs)) (ds.map fun i => l.getD i (0, [], []))
  | [], _ => trivial
  | i :: ds, h => ⟨(EntCells.getD i he (h i (.head _))).1, (EntCells.getD i he (h i (.head _))).2.1, (EntCells.getD i he (h i (.head _))).2.2, ent_flat he ds fun j hj => h j (.tail _ hj)⟩
theorem ent_all {cs : List Value} {n : Nat} (h : cs.length = n * 3) : (List.range n).flatMap (encE cs) = cs := by
  have hl : ((List.range n).flatMap (encE cs)).length = n * 3 := by
    have : ∀ ds : List Nat, (ds.flatMap (encE cs)).length = ds.length * 3 := by
      intro ds
      induction ds with
      | nil => rfl
      | cons i ds ih => rw [List.flatMap_cons, List.length_append, ih]; simp only [encE, List.length_cons, List.length_nil]; omega
    rw [this]; simp
  apply List.ext_getElem?
  intro t
  by_cases ht : t < n * 3
  · rw [flat_key (k := 3) (enc := encE cs) (by decide) (fun _ => rfl) _ t (by simpa using ht)]
    have e : (List.range n).getD (t / 3) 0 = t / 3 := by rw [List.getD_eq_getElem?_getD, List.getElem?_range (by omega)]; rfl
    rw [e, show cs[t]? = some (cs[t]'(by omega)) from List.getElem?_eq_getElem (by omega)]
    have hg : cs.getD t nilS = cs[t]'(by omega) := by rw [List.getD_eq_getElem?_getD, List.getElem?_eq_getElem (by omega)]; rfl
    have h3 : t % 3 = 0 ∨ t % 3 = 1 ∨ t % 3 = 2 := by omega
    rcases h3 with z | z | z
    · rw [z, ← hg, show t = t / 3 * 3 by omega, Nat.mul_div_cancel _ (by decide)]; rfl
    · rw [z, ← hg]
      show some (cs.getD (t / 3 * 3 + 1) nilS) = _
      rw [show t / 3 * 3 + 1 = t by omega]
    · rw [z, ← hg]
      show some (cs.getD (t / 3 * 3 + 2) nilS) = _
      rw [show t / 3 * 3 + 2 = t by omega]
  · rw [List.getElem?_eq_none (by omega), List.getElem?_eq_none (by omega)]
theorem rev_range (l : EL) : ((List.range l.length).reverse.map fun i => l.getD i (0, [], [])) = l.reverse := by
  rw [List.map_reverse]
  congr 1
  apply List.ext_getElem?
  intro i
  rw [List.getElem?_map]
  by_cases hi : i < l.length
  · rw [List.getElem?_range hi, List.getElem?_eq_getElem hi, Option.map_some, List.getD_eq_getElem?_getD, List.getElem?_eq_getElem hi]; rfl
  · rw [List.getElem?_eq_none (by simpa using hi), List.getElem?_eq_none (by omega)]; rfl
theorem reverse_ok {I : GH} {v : Value} {n : Nat} {xs : List Value} {R : List Bx} {l : EL} (hrow : RowAt 58 3 v n xs R) (he : EntCells I xs l) (hn : n = l.length) (hl : l.length ≤ 1000000) :
    Fn Tryd.prog 46 #[v] I R (fun r J X => ∃ R' xs', r = .tuple #[] ∧ I = J ∧ X = R' ∧ RowAt 58 3 v n xs' R' ∧ EntCells I xs' l.reverse) := by
  subst hn
  obtain ⟨hlen, ⟨rfl, h0, rfl⟩ | ⟨b, cap, cur, rfl, c2, c3, c1, c4, rfl⟩⟩ := hrow
  · intro w hs _ _ _
    have hl0 : l = [] := List.eq_nil_of_length_eq_zero h0
    subst hl0
    have hx0 : xs = [] := List.eq_nil_of_length_eq_zero (by simpa using hlen)
    subst hx0
    refine Calls.mono (AnyQ.slices_Reverse_empty revLays none 0 w) ?_
    rintro e w' ⟨rfl, rfl⟩
    exact ⟨_, I, [], rfl, hs, GH.le.refl _, fun _ _ => rfl, FrBut.refl _ _, fun x hx => (nomatch hx), rfl, [], [], rfl, rfl, rfl, RowAt.nil _ _, trivial⟩
  · intro w hs hx hi hnd
    have hb := hx _ (.head _)
    have hIb := hi _ (.head _)
    have hflat : (flatK (encE xs) 3 (Array.range l.length)).toList = xs := by
      rw [flat_listK (k := 3) (enc := encE xs) (by decide) (fun _ => rfl), Array.toList_range, ent_all hlen]
    have hones : ∀ i, ∀ v ∈ encE xs i, v.oneCell' = true := fun i v hv => by
      have hby : ∀ {u : Value} {k : Bs}, BytesAt I u k → u.oneCell' = true := fun hu => by
        obtain ⟨a, c, e, _⟩ := hu
        rw [e]; rfl
      have hnil : ∀ j, xs.length ≤ j → (xs.getD j nilS).oneCell' = true := fun j hj => by
        rw [List.getD_eq_getElem?_getD, List.getElem?_eq_none hj]; rfl
      simp only [encE, List.mem_cons, List.not_mem_nil, or_false] at hv
      by_cases hil : i < l.length
      · obtain ⟨g0, g1, g2⟩ := EntCells.getD i he hil
        rcases hv with rfl | rfl | rfl
        · rw [g0]; rfl
        · exact hby g1
        · exact hby g2
      · rcases hv with rfl | rfl | rfl <;> exact hnil _ (by omega)
    have hH : HoldsK (encE xs) 3 w b 0 (Array.range l.length) := by
      intro j hj
      have hj' : j < xs.length := by rw [hlen]; simpa using hj
      have hFj : (flatK (encE xs) 3 (Array.range l.length))[j]! = xs[j]'hj' := by
        rw [getElem!_pos _ j hj]
        have := congrArg (fun z => z[j]?) hflat
        simp only [Array.getElem?_toList] at this
        rw [Array.getElem?_eq_getElem hj, List.getElem?_eq_getElem hj'] at this
        exact Option.some.inj this
      have hcj : cur[j]? = some (xs[j]'hj') := by
        have := congrArg (fun z => z[j]?) c4
        simp only [List.getElem?_take, Array.getElem?_toList] at this
        rw [if_pos (by omega), List.getElem?_eq_getElem hj'] at this
        exact this
      constructor
      · unfold World.cell?
        rw [show w.heap[b]? = some (.cells cur 58 (0, 0)) from hb]
        simp only [Nat.zero_add, Option.isSome_none, Bool.false_eq_true, if_false]
        rw [hcj, hFj]
        rfl
      · unfold World.frozen?
        rw [show w.heap[b]? = some (.cells cur 58 (0, 0)) from hb]
        simp
    have hcon := AnyQ.slices_Reverse revLays 3 Tryd.isAgg58 Tryd.sizeOf58 (encE xs) (fun _ => rfl) hones b 0 cap (Array.range l.length) w hH (by simp; omega)
    rw [show (Array.range l.length).size = l.length by simp] at hcon
    refine Calls.mono hcon ?_
    rintro e w' ⟨rfl, m, rfl⟩
    have hF : (flatK (encE xs) 3 (Array.range l.length).reverse).size ≤ cur.size := by rw [size_flatK]; simp; omega
    obtain ⟨q1, q2⟩ := put_take hF
    have hsz : (flatK (encE xs) 3 (Array.range l.length).reverse).size = l.length * 3 := by rw [size_flatK]; simp
    have hcells : EntCells I (flatK (encE xs) 3 (Array.range l.length).reverse).toList l.reverse := by
      rw [flat_listK (k := 3) (enc := encE xs) (by decide) (fun _ => rfl), Array.toList_reverse, Array.toList_range, ← rev_range l]
      exact ent_flat he _ fun i hi => List.mem_range.1 (List.mem_reverse.1 hi)
    refine ⟨_, I, [⟨b, putCells id 0 (flatK (encE xs) 3 (Array.range l.length).reverse) cur, 58⟩], rfl, ⟨fun k o hk => ?_, hs.cel⟩, GH.le.refl _, fun _ _ => rfl, ⟨rfl, rfl, rfl, Nat.le_of_eq pw_size.symm, fun k hk hn => ?_⟩, fun x hx => ?_, rfl, _, _, rfl, rfl, rfl, ⟨?_, .inr ⟨b, cap, _, rfl, c2, c3, by rw [q1, c1], ?_, rfl⟩⟩, hcells⟩
    · rw [pw_same (fun e => by rw [e, hIb] at hk; cases hk)]; exact hs.blk k o hk
    · exact pw_same (fun e => hn (by rw [e]; exact .head _))
    · obtain rfl := List.mem_singleton.1 hx
      exact pw_row hb
    · simp [size_flatK]
    · rw [← hsz, q2]
end Go.Proofs.YtlnlodfnplkckaaDoor
/- The contracts of layout.Come and layout.Of. -/
namespace Go.Proofs.YtlnlodfnplkckaaDoor
open T (Sm)
set_option linter.unusedVariables false
set_option linter.unusedSimpArgs false
theorem MapIs.keep {w w' : World} {X : List Nat} {bm : Nat} {M : List (Bs × Nat)} (hm : MapIs w bm M) (hf : FrBut X w w') (hX : bm ∉ X) : MapIs w' bm M := by
  obtain ⟨es, clock, h1, h2⟩ := hm
  exact ⟨es, clock, (hf.block bm (lt_of_heap h1) hX).trans h1, h2⟩
theorem St.mapOut {w0 w : World} {I0 I : GH} {X0 : List Nat} {L : List Bx} {bm : Nat} {M : List (Bs × Nat)} (hs : St w0 I0 X0 I L w) (hm : MapIs w bm M) : bm ∉ ids L := by
  obtain ⟨es, clock, h1, _⟩ := hm
  intro h
  obtain ⟨x, hx, rfl⟩ := List.mem_map.1 h
  have := hs.bx x hx
  rw [h1] at this
  cases this
/-- What entries come to. -/
def comeE : EL → EL
  | [] => []
  | p :: l => if l.any (fun q => decide (q.2.1 = p.2.1)) = true then comeE l else p :: comeE l
def cntK (l : EL) (k : Bs) : Nat := (l.filter fun q => decide (q.2.1 = k)).length
theorem cntK_cons (p : Nat × Bs × Bs) (l : EL) (k : Bs) : cntK (p :: l) k = if k = p.2.1 then cntK l k + 1 else cntK l k := by
  unfold cntK
  by_cases h : p.2.1 = k
  · rw [List.filter_cons_of_pos (by simpa using h), List.length_cons, if_pos h.symm]
  · rw [List.filter_cons_of_neg (by simpa using h), if_neg (Ne.symm h)]
theorem cntK_zero {l : EL} {k : Bs} : cntK l k = 0 ↔ ¬ l.any (fun q => decide (q.2.1 = k)) = true := by
  unfold cntK
  rw [List.length_eq_zero_iff, List.filter_eq_nil_iff]
  constructor
  · intro h hn
    obtain ⟨q, hq, e⟩ := List.any_eq_true.1 hn
    exact h q hq e
  · intro h q hq e
    exact h (List.any_eq_true.2 ⟨q, hq, e⟩)
theorem comeE_len : ∀ l : EL, (comeE l).length ≤ l.length
  | [] => Nat.le_refl _
  | p :: l => by
    have := comeE_len l
    simp only [comeE]
    split <;> simp only [List.length_cons] <;> omega
theorem come_cnt {M : List (Bs × Nat)} {l s : EL} {p : Nat × Bs × Bs} (hl : l = p :: s) (hM : ∀ k, mGet M k = cntK s k) : ∀ k, mGet (mSet M p.2.1 (mGet M p.2.1 + 1)) k = cntK l k := fun k => by
  rw [mGet_set, hl, cntK_cons, hM, hM]
  by_cases h : k = p.2.1
  · rw [if_pos h, if_pos h, h]
  · rw [if_neg h, if_neg h]
theorem litP {I : GH} {b : Nat} {u v : Value} {T : TypeId} {fz : Nat × Nat} (hb : I b = some (.cells #[u, v] T fz)) : SliceAt I (.slice (some ⟨b, 0, none⟩) 1 1) 1 2 [u, v] :=
  ⟨_, 1, rfl, Nat.le_refl _, (fun h => nomatch h), rfl, fun _ => ⟨b, 0, _, _, _, rfl, hb, rfl⟩⟩
theorem own_one {I : GH} {cur : Array Value} {k x : Bs} (h : PairCells I (cur.toList.take (1 * 2)) [(k, x)]) : ∃ kv xv, (cur.toList.drop (0 + 0 * 2)).take 2 = [kv, xv] ∧ BytesAt I kv k ∧ BytesAt I xv x := by
  have hl := h.length
  match hc : cur.toList.take (1 * 2), hl with
  | [kv, xv], _ =>
    rw [hc] at h
    exact ⟨kv, xv, rfl, h.1, h.2.1⟩
set_option maxRecDepth 100000 in
theorem come_ok {I : GH} {v0 : Value} {l : EL} (hl : EntAt I v0 l) (hll : l.length ≤ 1000) (hsm : Sm (l.map (·.2))) (hh : ∀ p ∈ l, p.1 < 2 ^ 64) : Fn Tryd.prog 21 #[v0] I [] (fun v J _ => EntAt J v (comeE l)) := by
  obtain ⟨ad, cap, rfl⟩ := hl.slc
  refine enter (args := [.slice ad l.length cap]) Tryd.func21 rfl rfl fun w0 hs0 => ?_
  refine wp_seq_k fun K1 hK2 => ?_
  refine wl_begin ?_
  refine sq (r_assign rfl) rfl ?_
  refine wl_nil ?_
  refine hK2 _ _ ?_; (try clear hK2 K1)
  refine wp_seq_k fun K3 hK4 => ?_
  refine wl_begin ?_
  refine sqo rfl fun K5 hK6 => ow_makeMapS hs0 rfl ?_
  rintro bm w7 hm hs8 hbm
  clear hs0
  refine hK6 _ _ ?_; clear hK6 K5
  refine sq (r_assign rfl) rfl ?_
  refine wl_nil ?_
  refine hK4 _ _ ?_; (try clear hK4 K3)
  refine wp_seq_k fun K9 hK10 => ?_
  refine wl_begin ?_
  refine sq (r_assign rfl) rfl ?_
  refine wl_nil ?_
  refine hK10 _ _ ?_; (try clear hK10 K9)
  refine wp_seq_k fun K11 hK12 => ?_
  refine wp_seq_k fun K13 hK14 => ?_
  refine wl_begin ?_
  refine sq (r_move rfl) rfl ?_
  refine sq (r_lens rfl (by kernel_rfl) rfl) rfl ?_
  refine sq (r_subi rfl rfl rfl rfl (by omega)) rfl ?_
  refine sq (r_assign rfl) rfl ?_
  refine wl_nil ?_
  refine hK14 _ _ ?_; (try clear hK14 K13)
  refine wp_block ?_
  refine lp (σ := Nat) (fun m16 f17 w18 => ∃ (g15 : Nat → Value) (k : Nat) (rv : Value) (RR : List Bx) (xs : List Value) (M : List (Bs × Nat)) (G1 : GH), m16 = 1 + k ∧ f17 = updL g15 [(0, .slice ad l.length cap), (2, .slice none 0 0), (3, (.map (some bm))), (4, rv), (5, .int .i64 (((k : Nat) : Int) - 1))] ∧ I.le G1 ∧ (k ≤ l.length) ∧ (RowAt 58 3 rv (comeE (l.drop k)).length xs RR) ∧ (EntCells G1 xs (comeE (l.drop k)).reverse) ∧ (∀ q, mGet M q = cntK (l.drop k) q) ∧ (MapIs w18 bm M) ∧ St w0 I (ids []) G1 (RR ++ []) w18) (fun m => m) (1 + l.length) ⟨_, l.length, _, [], [], [], I, rfl, updL_self (.cons rfl (.cons rfl (.cons rfl (.cons rfl (.cons rfl .nil))))), GH.le.refl _, (Nat.le_refl _), (by rw [List.drop_length]; exact RowAt.nil _ _), (by rw [List.drop_length]; trivial), (fun q => by rw [List.drop_length]; rfl), hm, hs8⟩ ?_
  clear hs8
  rintro m16 f17 w18 ⟨g15, k, rv, RR, xs, M, G1, rfl, rfl, le20, hkl, hrow, hec, hM, hm, hs19⟩
  refine wp_seq_k fun K21 hK22 => ?_
  refine wp_seq_k fun K23 hK24 => ?_
  refine wl_begin ?_
  refine sq (r_move rfl) rfl ?_
  refine sq (r_gei rfl rfl rfl rfl) rfl ?_
  refine wl_nil ?_
  refine hK24 _ _ ?_; (try clear hK24 K23)
  refine condS rfl rfl (fun h25 => ?_) (fun h25 => ?_)
  ·
    have p26 := of_decide_eq_true h25
    obtain ⟨i, rfl⟩ : ∃ i, k = i + 1 := ⟨k - 1, by omega⟩
    have hlt : i < l.length := by omega
    have hdrop : l.drop i = l[i]'hlt :: l.drop (i + 1) := List.drop_eq_getElem_cons hlt
    refine nrm (vals := [(0, .slice ad l.length cap), (2, .slice none 0 0), (3, (.map (some bm))), (4, rv), (5, .int .i64 ((i : Nat) : Int))]) (.cons rfl (.cons rfl (.cons rfl (.cons rfl (.cons (by show Value.int .i64 ((((i + 1 : Nat) : Nat) : Int) - 1) = _; congr 1; omega) .nil))))) fun g27 => ?_
    obtain ⟨b, off, cs, T0, fz, kv, xv, hbe, hb, hcs, hk, hx⟩ := EntAt.at hl hlt
    cases hbe
    refine wp_skip ?_
    refine hK22 _ _ ?_; (try clear hK22 K21)
    refine wp_seq_k fun K28 hK29 => ?_
    refine wp_block ?_
    refine wp_seq_k fun K30 hK31 => ?_
    refine wl_begin ?_
    refine sq (r_move rfl) rfl ?_
    refine sq (r_move rfl) rfl ?_
    refine sq (r_index (e := 58) (sz := 3) (i := i) rfl rfl (by kernel_rfl) rfl rfl hlt) rfl ?_
    refine sq (r_fieldAddr (off := 1) rfl (by kernel_rfl) rfl) rfl ?_
    refine sq (r_fieldAddr (off := 0) rfl (by kernel_rfl) rfl) rfl ?_
    refine sq (r_load rfl (by kernel_rfl) rfl (hs19.imm (le20 _ _ hb)) (take3 hcs).2.1) rfl ?_
    refine sq (r_bytesStr (e := 5) rfl (by kernel_rfl) (by kernel_rfl) rfl (hk.up le20) (fun _ _ z => hs19.imm z)) rfl ?_
    refine sq (r_assign rfl) rfl ?_
    refine wl_nil ?_
    refine hK31 _ _ ?_; (try clear hK31 K30)
    refine wp_seq_k fun K32 hK33 => ?_
    have hcb : mGet M (l[i]'hlt).2.1 ≤ 1000 := by rw [hM]; exact Nat.le_trans (List.length_filter_le _ _) (by rw [List.length_drop]; omega)
    refine wl_begin ?_
    refine sq (r_move rfl) rfl ?_
    refine sq (r_move rfl) rfl ?_
    refine sqo rfl fun K34 hK35 => ow_val (r_lookupS (kt := 9) (et := 3) rfl rfl (by kernel_rfl) (by kernel_rfl) (by kernel_rfl) rfl rfl hm) rfl ?_
    refine hK35 _ _ ?_; clear hK35 K34
    refine sq (r_addNi (a := (mGet M ((l[i]'hlt).2.1))) (b := 1) rfl rfl rfl rfl (by omega)) rfl ?_
    refine sqo rfl fun K36 hK37 => ow_mapSetS (kt := 9) (et := 3) (c := ((mGet M ((l[i]'hlt).2.1)) + 1)) hs19 rfl rfl rfl (by kernel_rfl) (by kernel_rfl) rfl rfl rfl hm hbm ?_
    intro w38 hm40 hs39
    clear hs19 hm
    replace hs39 : St w0 I (ids []) G1 (RR ++ []) w38 := hs39
    refine hK37 _ _ ?_; clear hK37 K36
    refine wl_nil ?_
    refine hK33 _ _ ?_; (try clear hK33 K32)
    refine wp_seq_k fun K41 hK42 => ?_
    refine wl_begin ?_
    refine sq (r_move rfl) rfl ?_
    refine sq (r_move rfl) rfl ?_
    refine sqo rfl fun K43 hK44 => ow_val (r_lookupS (kt := 9) (et := 3) rfl rfl (by kernel_rfl) (by kernel_rfl) (by kernel_rfl) rfl rfl hm40) rfl ?_
    refine hK44 _ _ ?_; clear hK44 K43
    refine sq (r_eqi rfl rfl rfl rfl) rfl ?_
    refine wl_nil ?_
    refine hK42 _ _ ?_; (try clear hK42 K41)
    refine condS rfl rfl (fun h45 => ?_) (fun h45 => ?_)
    ·
      have p46 := of_decide_eq_true h45
      have hany : ¬ (l.drop (i + 1)).any (fun q => decide (q.2.1 = (l[i]'hlt).2.1)) = true := by rw [← cntK_zero, ← hM]; have h9 := of_decide_eq_true h45; rw [mGet_set, if_pos rfl] at h9; omega
      refine nrm (vals := [(0, .slice (some ⟨b, off, none⟩) l.length cap), (2, .slice none 0 0), (3, (.map (some bm))), (4, rv), (5, .int .i64 ((i : Nat) : Int)), (6, .string ⟨((l[i]'hlt).2.1).toArray⟩), (29, .bool (decide ((((mGet (mSet M ((l[i]'hlt).2.1) (((mGet M ((l[i]'hlt).2.1)) + 1))) ((l[i]'hlt).2.1)) : Nat) : Int) = 1)))]) (.cons rfl (.cons rfl (.cons rfl (.cons rfl (.cons rfl (.cons rfl (.cons rfl .nil))))))) fun g47 => ?_
      have hbout := hs39.mapOut hm40
      have hs48 : St w38 G1 (ids (RR ++ [])) G1 (RR ++ []) w38 := hs39.base
      refine draw_begin (S := SS G1 []) (by kernel_rfl) ?_
      have hs49 := hs48.drew; clear hs48
      have hss := hs49.ss (I := G1) (GH.le.refl _) (SubL.sub .nil)
      refine dt 0 rfl (by kernel_rfl) (fun _ _ _ h => h) hss (fun _ h => r_move rfl) rfl ?_
      refine dt 1 rfl (by kernel_rfl) (fun _ _ _ h => h) hss (fun _ h => r_move rfl) rfl ?_
      refine dt 2 rfl (by kernel_rfl) (fun _ _ _ h => h) hss (fun _ h => r_move rfl) rfl ?_
      refine dt 3 rfl (by kernel_rfl) (fun _ _ _ h => h) hss (fun _ h => (r_index (e := 58) (sz := 3) (i := i) rfl rfl (by kernel_rfl) rfl rfl hlt)) rfl ?_
      refine dt 4 rfl (by kernel_rfl) (fun _ _ _ h => h) hss (fun _ h => (r_fieldAddr (off := 0) rfl (by kernel_rfl) rfl)) rfl ?_
      refine dt 5 rfl (by kernel_rfl) (fun _ _ _ h => h) hss (fun _ h => (r_load rfl (by kernel_rfl) rfl (h.imm (le20 _ _ hb)) (take3 hcs).1)) rfl ?_
      refine dt 6 rfl (by kernel_rfl) (fun _ _ _ h => h) hss (fun _ h => r_move rfl) rfl ?_
      refine dt 7 rfl (by kernel_rfl) (fun _ _ _ h => h) hss (fun _ h => r_move rfl) rfl ?_
      refine dt 8 rfl (by kernel_rfl) (fun _ _ _ h => h) hss (fun _ h => (r_index (e := 58) (sz := 3) (i := i) rfl rfl (by kernel_rfl) rfl rfl hlt)) rfl ?_
      refine dt 9 rfl (by kernel_rfl) (fun _ _ _ h => h) hss (fun _ h => (r_fieldAddr (off := 1) rfl (by kernel_rfl) rfl)) rfl ?_
      refine dt 10 rfl (by kernel_rfl) (fun _ _ _ h => h) hss (fun _ h => (r_loadN (m := 2) (vs := [kv, xv]) rfl (by kernel_rfl) rfl (h.imm (le20 _ _ hb)) (take31 hcs) rfl)) rfl ?_
      refine dro 11 (by kernel_rfl) rfl (ow_newimm (mk := fun b => .slice (some ⟨b, 0, none⟩) 1 1) hs49 (r_buildSlice (e := 56) (cells := #[kv, xv]) (.cons rfl rfl .nil) (by kernel_rfl)) rfl ?_)
      rintro b50 G2 w51 hb52 le53 hs54 ge55
      clear hs49
      replace hb52 : G2 b50 = some (.cells #[kv, xv] 56 (0, 0)) := hb52
      replace hss := hs54.ss (I := G1) le53 (SubL.sub .nil)
      refine ⟨hss, ?_⟩
      refine dro 12 (by kernel_rfl) rfl (ow_callO (X := []) (L := (RR ++ [])) (lb := []) hs54 (own_list_ok (l := [((l[i]'hlt).2.1, (l[i]'hlt).2.2)]) ⟨_, litP hb52, (hk.up (le20.trans le53)), (hx.up (le20.trans le53)), trivial⟩ (fun p hp => by obtain rfl := List.mem_singleton.1 hp; exact ⟨(hsm _ (List.mem_map.2 ⟨_, List.getElem_mem hlt, rfl⟩)).1, (hsm _ (List.mem_map.2 ⟨_, List.getElem_mem hlt, rfl⟩)).2⟩) (by simp)) (by kernel_rfl) rfl rfl rfl rfl rfl ?_)
      rintro _ G3 X1 ON w66 ⟨gb56, cap57, cur58, rfl, rfl, hcs59, -, -, hpc60⟩ le69 hs67 hid68
      obtain rfl : X1 = [] := List.map_eq_nil_iff.1 hid68
      replace hs67 : St w38 G1 (ids (RR ++ [])) G3 (⟨gb56, cur58, 56⟩ :: (RR ++ [])) w66 := hs67
      clear hs54 hid68
      obtain ⟨kv61, xv62, hcs63, hk64, hx65⟩ := own_one hpc60
      replace hss := hs67.ss (I := G1) (le53.trans le69) (SubL.sub .nil)
      refine ⟨hss, ?_⟩
      refine nrmD (vals := [(0, .slice (some ⟨b, off, none⟩) l.length cap), (2, .slice none 0 0), (3, (.map (some bm))), (4, rv), (5, .int .i64 ((i : Nat) : Int)), (6, .string ⟨((l[i]'hlt).2.1).toArray⟩), (29, .bool (decide ((((mGet (mSet M ((l[i]'hlt).2.1) (((mGet M ((l[i]'hlt).2.1)) + 1))) ((l[i]'hlt).2.1)) : Nat) : Int) = 1))), (30, rv), (35, .int .u64 (((l[i]'hlt).1 : Nat) : Int)), (42, .slice (some ⟨gb56, 0, none⟩) 1 cap57)]) (.cons rfl (.cons rfl (.cons rfl (.cons rfl (.cons rfl (.cons rfl (.cons rfl (.cons rfl (.cons rfl (.cons rfl .nil)))))))))) fun g70 => ?_
      refine dt 13 rfl (by kernel_rfl) (fun _ _ _ h => h) hss (fun _ h => (r_index (e := 56) (sz := 2) (i := 0) rfl rfl (by kernel_rfl) rfl rfl (by decide))) rfl ?_
      refine dro 14 (by kernel_rfl) rfl (ow_val (r_loadN (m := 2) (vs := [kv61, xv62]) rfl (by kernel_rfl) rfl (hs67.box (.head _)) hcs63 rfl) rfl ?_)
      replace hss := hs67.ss (I := G1) (le53.trans le69) (SubL.sub .nil)
      refine ⟨hss, ?_⟩
      refine dt 15 rfl (by kernel_rfl) (fun _ _ _ h => h) hss (fun _ h => (r_build (.cons rfl rfl (.cons rfl rfl .nil)) (cells := #[.int .u64 (((l[i]'hlt).1 : Nat) : Int), kv61, xv62]) (by kernel_rfl))) rfl ?_
      refine dro 16 (by kernel_rfl) rfl (ow_newimm (mk := fun b => .slice (some ⟨b, 0, none⟩) 1 1) hs67 (r_buildSlice (e := 58) (cells := #[.int .u64 (((l[i]'hlt).1 : Nat) : Int), kv61, xv62]) (.cons rfl rfl .nil) (by kernel_rfl)) rfl ?_)
      rintro b71 G4 w72 hb73 le74 hs75 ge76
      clear hs67
      replace hb73 : G4 b71 = some (.cells #[.int .u64 (((l[i]'hlt).1 : Nat) : Int), kv61, xv62] 58 (0, 0)) := hb73
      replace hss := hs75.ss (I := G1) ((le53.trans le69).trans le74) (SubL.sub .nil)
      refine ⟨hss, ?_⟩
      have hs77 : St w38 G1 (ids (RR ++ [])) G4 (RR ++ ([⟨gb56, cur58, 56⟩] : List Bx)) w72 := hs75.perm (List.Perm.trans ((List.Perm.refl _).cons _) (List.perm_middle (l₁ := (RR : List Bx)) (a := (⟨gb56, cur58, 56⟩ : Bx)) (l₂ := [])).symm); clear hs75
      refine dro 17 (by kernel_rfl) rfl (ow_append (R := RR) (L := [⟨gb56, cur58, 56⟩]) (E := 58) (sz := 3) (bytes := 56) (news := [.int .u64 (((l[i]'hlt).1 : Nat) : Int), kv61, xv62]) hs77 hrow (by kernel_rfl) rfl rfl rfl rfl rfl rfl (SliceAt.news (m := 3) (hs77.imm hb73) rfl) (ones_old (.cons trivial (.cons (hk64).one (.cons (hx65).one .nil)))) (by have := comeE_len (l.drop (i + 1)); rw [List.length_drop] at this; simp only [maxLen]; omega) (by have := comeE_len (l.drop (i + 1)); rw [List.length_drop] at this; omega) rfl ?_)
      rintro v78 R79 w80 hr81 hs82 hf83
      replace hs82 : St w38 G1 (ids (RR ++ [])) G4 (R79 ++ ([⟨gb56, cur58, 56⟩] : List Bx)) w80 := hs82; clear hs77 hf83
      replace hss := hs82.ss (I := G1) ((le53.trans le69).trans le74) (SubL.sub .nil)
      refine ⟨hss, ?_⟩
      refine dt 18 rfl (by kernel_rfl) (fun _ _ _ h => h) hss (fun _ h => r_assign rfl) rfl ?_
      refine draw_done (by kernel_rfl) ?_
      have hm85 := hm40.keep hs82.fr hbout
      have hs84 : St w0 I (ids []) G4 (R79 ++ ([⟨gb56, cur58, 56⟩] : List Bx)) w80 := hs39.comp hs82; clear hs82
      refine hK29 _ _ ?_; (try clear hK29 K28)
      refine wl_begin ?_
      refine sq (r_move rfl) rfl ?_
      refine sq (r_subi rfl rfl rfl rfl (by omega)) rfl ?_
      refine sq (r_assign rfl) rfl ?_
      refine wl_nil ?_
      have hs86 : St w0 I (ids []) G4 (⟨gb56, cur58, 56⟩ :: (R79 ++ [])) w80 := hs84.perm (List.Perm.trans ((List.Perm.refl _).append_left _) (List.perm_middle (l₁ := (R79 : List Bx)) (a := (⟨gb56, cur58, 56⟩ : Bx)) (l₂ := []))); clear hs84
      have hs87 : St w0 I (ids []) G4 (R79 ++ []) w80 := hs86.drop
      exact ⟨_, _, rfl, ⟨_, i, v78, R79, (xs ++ [.int .u64 (((l[i]'hlt).1 : Nat) : Int), kv61, xv62]), (mSet M ((l[i]'hlt).2.1) (((mGet M ((l[i]'hlt).2.1)) + 1))), G4, rfl, updL_self (.cons rfl (.cons rfl (.cons rfl (.cons rfl (.cons rfl .nil))))), (((le20.trans le53).trans le69).trans le74), (by omega), (by rw [hdrop, comeE, if_neg hany]; exact hr81), (by rw [hdrop, comeE, if_neg hany, List.reverse_cons]; exact (hec.up ((le53.trans le69).trans le74)).snoc (hk64.up le74) (hx65.up le74)), (come_cnt hdrop hM), hm85, hs87⟩, (by omega)⟩
    ·
      have p88 := of_decide_eq_false h45
      have hany : (l.drop (i + 1)).any (fun q => decide (q.2.1 = (l[i]'hlt).2.1)) = true := by apply Classical.byContradiction; intro hn; rw [← cntK_zero, ← hM] at hn; have h9 := of_decide_eq_false h45; rw [mGet_set, if_pos rfl] at h9; omega
      refine wp_skip ?_
      refine hK29 _ _ ?_; (try clear hK29 K28)
      refine nrm (vals := [(0, .slice (some ⟨b, off, none⟩) l.length cap), (2, .slice none 0 0), (3, (.map (some bm))), (4, rv), (5, .int .i64 ((i : Nat) : Int)), (6, .string ⟨((l[i]'hlt).2.1).toArray⟩), (29, .bool (decide ((((mGet (mSet M ((l[i]'hlt).2.1) (((mGet M ((l[i]'hlt).2.1)) + 1))) ((l[i]'hlt).2.1)) : Nat) : Int) = 1)))]) (.cons rfl (.cons rfl (.cons rfl (.cons rfl (.cons rfl (.cons rfl (.cons rfl .nil))))))) fun g89 => ?_
      refine wl_begin ?_
      refine sq (r_move rfl) rfl ?_
      refine sq (r_subi rfl rfl rfl rfl (by omega)) rfl ?_
      refine sq (r_assign rfl) rfl ?_
      refine wl_nil ?_
      exact ⟨_, _, rfl, ⟨_, i, rv, RR, xs, (mSet M ((l[i]'hlt).2.1) (((mGet M ((l[i]'hlt).2.1)) + 1))), G1, rfl, updL_self (.cons rfl (.cons rfl (.cons rfl (.cons rfl (.cons rfl .nil))))), le20, (by omega), (by rw [hdrop, comeE, if_pos hany]; exact hrow), (by rw [hdrop, comeE, if_pos hany]; exact hec), (come_cnt hdrop hM), hm40, hs39⟩, (by omega)⟩
  ·
    have p90 := of_decide_eq_false h25
    obtain rfl : k = 0 := by omega
    rw [List.drop_zero] at hrow hec
    refine wp_exit ?_
    refine hK12 _ _ ?_; (try clear hK12 K11)
    refine wp_seq_k fun K91 hK92 => ?_
    refine wl_begin ?_
    refine sq (r_move rfl) rfl ?_
    refine sqo rfl fun K93 hK94 => ow_call (X := RR) (L := []) (lb := []) hs19 (reverse_ok hrow hec (List.length_reverse).symm (by rw [List.length_reverse]; have := comeE_len l; omega)) (by kernel_rfl) rfl rfl rfl rfl rfl ?_
    rintro _ _ X1 w99 ⟨R95, xs96, rfl, rfl, rfl, hrow97, hec98⟩ - hs100 hid101
    replace hs100 : St w0 I (ids []) G1 (X1 ++ []) w99 := hs100
    clear hs19 hid101
    refine hK94 _ _ ?_; clear hK94 K93
    refine wl_nil ?_
    refine hK92 _ _ ?_; (try clear hK92 K91)
    refine wp_seq_k fun K102 hK103 => ?_
    refine wl_begin ?_
    refine sq (r_move rfl) rfl ?_
    refine sq (r_assign rfl) rfl ?_
    refine wl_nil ?_
    refine hK103 _ _ ?_; (try clear hK103 K102)
    refine wp_ret ?_
    obtain ⟨G5, le104, hs105, hz106⟩ := hs100.freezeRow (R := X1) (L := []) hrow97 (fun _ h => by cases h); clear hs100
    replace hs105 : St w0 I (ids []) G5 [] w99 := hs105
    exact leave (X' := []) (L := []) hs105 rfl (res_one (v := rv) rfl (.tmp rfl rfl .nil)) ⟨xs96, hz106, by rw [List.reverse_reverse] at hec98; exact (hec98.up le104)⟩
end Go.Proofs.YtlnlodfnplkckaaDoor
/- Layouts as maps: what they are, what is found in them; what entries come to. Each theorem's conditions stand in it. -/
namespace Go.Proofs.YtlnlodfnplkckaaDoor
open T (Sm)
set_option linter.unusedVariables false
/-- What is found of a key under a hash. -/
def getE (l : EL) (h : Nat) (k : Bs) : Option Bs := (l.find? fun p => decide (p.1 = h ∧ p.2.1 = k)).map (·.2.2)
theorem getE_cons (p : Nat × Bs × Bs) (l : EL) (h : Nat) (k : Bs) : getE (p :: l) h k = if p.1 = h ∧ p.2.1 = k then some p.2.2 else getE l h k := by
  unfold getE
  by_cases e : p.1 = h ∧ p.2.1 = k
  · rw [List.find?_cons_of_pos (by simpa using e), if_pos e]; rfl
  · rw [List.find?_cons_of_neg (by simpa using e), if_neg e]
theorem getE_part (h : Nat) (k : Bs) (lv : Nat) : ∀ l : EL, getE (partL l lv (chunkN h lv)) h k = getE l h k
  | [] => rfl
  | p :: l => by
    rw [getE_cons]
    by_cases e : chunkN p.1 lv = chunkN h lv
    · have : partL (p :: l) lv (chunkN h lv) = p :: partL l lv (chunkN h lv) := by unfold partL; rw [List.filter_cons_of_pos (by simpa using e)]
      rw [this, getE_cons, getE_part h k lv l]
    · have : partL (p :: l) lv (chunkN h lv) = partL l lv (chunkN h lv) := by unfold partL; rw [List.filter_cons_of_neg (by simpa using e)]
      rw [this, getE_part h k lv l, if_neg (fun z => e (by rw [z.1]))]
theorem getE_one {h0 : Nat} (h : Nat) (k : Bs) : ∀ {l : EL}, (∀ p ∈ l, p.1 = h0) → getE l h k = if h0 = h then getL (l.map (·.2)) k else none
  | [], _ => by split <;> rfl
  | p :: l, hall => by
    have hp := hall p (.head _)
    rw [getE_cons, getE_one h k fun q hq => hall q (.tail _ hq), List.map_cons, getL_cons, hp]
    by_cases e : h0 = h
    · simp [e]
    · simp [e]
theorem getL_perm {l m : List (Bs × Bs)} (hp : l.Perm m) (ha : Apart l) (k : Bs) : getL l k = getL m k := by
  have key : ∀ {l m : List (Bs × Bs)} {x : Bs}, l.Perm m → Apart m → getL l k = some x → getL m k = some x := by
    intro l m x hp ha h
    have hm := hp.mem_iff.1 (getL_some h)
    clear h hp
    induction m with
    | nil => cases hm
    | cons q m ih =>
      have a := List.pairwise_cons.1 ha
      rw [getL_cons]
      cases hm with
      | head => rw [if_pos rfl]
      | tail _ hm => rw [if_neg (a.1 _ hm)]; exact ih a.2 hm
  cases h1 : getL l k with
  | some x => exact (key hp (ha.perm hp) h1).symm
  | none =>
    cases h2 : getL m k with
    | none => rfl
    | some x => rw [key hp.symm ha h2] at h1; cases h1
theorem mix_same {l : EL} (h : mixB l = false) : ∀ p ∈ l, p.1 = (l.headD (0, [], [])).1 := fun p hp => by
  unfold mixB at h
  have := List.any_eq_false.1 h p hp
  simpa using this
/-- What a layout is, and what is found in it. -/
theorem lay_w : ∀ (f : Nat) {lv q : Nat} {l : EL}, lv + f = 13 → (∀ p ∈ l, p.1 % 32 ^ lv = q) → Apart (l.map (·.2)) → Sm (l.map (·.2)) → (∀ p ∈ l, p.1 < 2 ^ 64) →
    N.W lv q (layN (f + 1) l lv) ∧ (l ≠ [] → (layN (f + 1) l lv).isN = false) ∧ ∀ h k, N.look h k (layN (f + 1) l lv) lv = getE l h k := by
  have one : ∀ (g : Nat) {lv q : Nat} {l : EL}, l ≠ [] → mixB l = false → (∀ p ∈ l, p.1 % 32 ^ lv = q) → Apart (l.map (·.2)) → Sm (l.map (·.2)) → (∀ p ∈ l, p.1 < 2 ^ 64) →
      N.W lv q (layN g l lv) ∧ (l ≠ [] → (layN g l lv).isN = false) ∧ ∀ h k, N.look h k (layN g l lv) lv = getE l h k := by
    intro g lv q l hne hm hq ha hs hh
    have hall := mix_same hm
    obtain ⟨p, hp⟩ := List.exists_mem_of_ne_nil l hne
    have e0 := hall p hp
    have hq0 : (l.headD (0, [], [])).1 % 32 ^ lv = q := by rw [← e0]; exact hq p hp
    have hs' : Sm (T.fromL (sortK (l.map (·.2)))).toList := by
      rw [T.toList_fromL]; exact fun x hx => hs x ((sortK_perm _).mem_iff.1 hx)
    have hr : Srt (T.fromL (sortK (l.map (·.2)))).toList := by rw [T.toList_fromL]; exact sortK_srt ha
    obtain ⟨o1, o2, o3⟩ := N.ofTree_w (l := lv) (h := (l.headD (0, [], [])).1) (by rw [← e0]; exact hh p hp) hs' hr (T.Bal.fromL _)
    rw [layN_one hne hm]
    rw [hq0] at o1
    refine ⟨o1, fun _ => o2 ?_, fun h k => ?_⟩
    · rw [T.size_fromL, (sortK_perm _).length_eq, List.length_map]
      exact fun e => hne (List.eq_nil_of_length_eq_zero e)
    · rw [o3, T.toList_fromL, getE_one h k hall, getL_perm (sortK_perm _) (ha.perm (sortK_perm _).symm)]
  intro f
  induction f with
  | zero =>
    intro lv q l hlv hq ha hs hh
    by_cases h0 : l = []
    · subst h0
      rw [layN_nil]
      exact ⟨.none, fun h => absurd rfl h, fun h k => N.look_none⟩
    · obtain rfl : lv = 13 := by omega
      refine one 1 h0 (mix_all fun p hp p' hp' => ?_) hq ha hs hh
      have e : (2 : Nat) ^ 64 ≤ 32 ^ 13 := by decide
      have h1 := hq p hp
      have h2 := hq p' hp'
      rw [Nat.mod_eq_of_lt (Nat.lt_of_lt_of_le (hh _ hp) e)] at h1
      rw [Nat.mod_eq_of_lt (Nat.lt_of_lt_of_le (hh _ hp') e)] at h2
      rw [h1, h2]
  | succ f ih =>
    intro lv q l hlv hq ha hs hh
    by_cases h0 : l = []
    · subst h0
      rw [layN_nil]
      exact ⟨.none, fun h => absurd rfl h, fun h k => N.look_none⟩
    · cases hm : mixB l with
      | false => exact one _ h0 hm hq ha hs hh
      | true =>
        rw [layN_mix h0 hm]
        have hF : ∀ c, N.W (lv + 1) (q + c * 32 ^ lv) (layN (f + 1) (partL l lv c) (lv + 1)) ∧ (partL l lv c ≠ [] → (layN (f + 1) (partL l lv c) (lv + 1)).isN = false) ∧ ∀ h k, N.look h k (layN (f + 1) (partL l lv c) (lv + 1)) (lv + 1) = getE (partL l lv c) h k := fun c =>
          ih (by omega) (fun p hp => by rw [N.chunk_step (l := lv) (by omega) rfl, hq p (part_mem hp).1, (part_mem hp).2]) (List.Pairwise.sublist (part_sub l lv c) ha) (fun p hp => hs p ((part_sub l lv c).subset hp)) fun p hp => hh p (part_mem hp).1
        obtain ⟨m1, m2, m3⟩ := N.mk_set (l := lv) (q := q) (m := setOf l lv) (F := fun c => layN (f + 1) (partL l lv c) (lv + 1)) (by omega) (setOf_lt l lv) fun c hc hb =>
          ⟨(hF c).2.1 fun e => (partL_nil.1 e) hb, (hF c).1⟩
        refine ⟨m1, fun _ => ?_, fun h k => ?_⟩
        · cases hn : (N.mk (setOf l lv) ((bitsL (setOf l lv)).map fun c => layN (f + 1) (partL l lv c) (lv + 1))).isN with
          | false => rfl
          | true =>
            obtain ⟨p, hp⟩ := List.exists_mem_of_ne_nil l h0
            have : chunkN p.1 lv ∈ bitsL (setOf l lv) := mem_bitsL.2 ⟨chunkN_lt _ _, (setOf_bit lv _ l).2 ⟨p, hp, rfl⟩⟩
            rw [m2 hn] at this; cases this
        · rw [m3]
          split
          · rw [(hF _).2.2, getE_part]
          · rename_i hb
            rw [← getE_part h k lv l, partL_nil.2 hb]; rfl
/-! ### What entries come to -/
theorem come_sub : ∀ l : EL, (comeE l).Sublist l
  | [] => .slnil
  | p :: l => by
    simp only [comeE]
    split
    · exact (come_sub l).cons _
    · exact (come_sub l).cons_cons _
theorem come_apart : ∀ l : EL, Apart ((comeE l).map (·.2))
  | [] => .nil
  | p :: l => by
    simp only [comeE]
    split
    · exact come_apart l
    · rename_i h
      rw [List.map_cons]
      refine List.pairwise_cons.2 ⟨fun q hq e => ?_, come_apart l⟩
      obtain ⟨r, hr, rfl⟩ := List.mem_map.1 hq
      exact h (List.any_eq_true.2 ⟨r, (come_sub l).subset hr, by simpa using e.symm⟩)
theorem come_sm {l : EL} (h : Sm (l.map (·.2))) : Sm ((comeE l).map (·.2)) := fun p hp => h p (((come_sub l).map _).subset hp)
theorem come_hh {l : EL} (h : ∀ p ∈ l, p.1 < 2 ^ 64) : ∀ p ∈ comeE l, p.1 < 2 ^ 64 := fun p hp => h p ((come_sub l).subset hp)
/-- The layout of entries. -/
def layOf (l : EL) : N := layN 14 (comeE l) 0
theorem layOf_w {l : EL} (hs : Sm (l.map (·.2))) (hh : ∀ p ∈ l, p.1 < 2 ^ 64) : N.W 0 0 (layOf l) ∧ ∀ h k, N.look h k (layOf l) 0 = getE (comeE l) h k := by
  have := lay_w 13 (lv := 0) (q := 0) (l := comeE l) rfl (fun p _ => Nat.mod_one _) (come_apart l) (come_sm hs) (come_hh hh)
  exact ⟨this.1, this.2.2⟩
theorem getE_in {l : EL} (ha : Apart (l.map (·.2))) {p : Nat × Bs × Bs} (hp : p ∈ l) (h : Nat) : getE l h p.2.1 = if p.1 = h then some p.2.2 else none := by
  induction l with
  | nil => cases hp
  | cons q l ih =>
    rw [List.map_cons] at ha
    have a := List.pairwise_cons.1 ha
    rw [getE_cons]
    cases hp with
    | head =>
      by_cases e : p.1 = h
      · rw [if_pos ⟨e, rfl⟩, if_pos e]
      · rw [if_neg (fun z => e z.1), if_neg e]
        unfold getE
        have : l.find? (fun q => decide (q.1 = h ∧ q.2.1 = p.2.1)) = none := by
          rw [List.find?_eq_none]
          intro q hq z
          have z2 : q.1 = h ∧ q.2.1 = p.2.1 := by simpa using z
          exact a.1 q.2 (List.mem_map.2 ⟨q, hq, rfl⟩) z2.2.symm
        rw [this]; rfl
    | tail _ hp =>
      rw [if_neg (fun z => a.1 p.2 (List.mem_map.2 ⟨p, hp, rfl⟩) z.2)]
      exact ih a.2 hp
end Go.Proofs.YtlnlodfnplkckaaDoor
/- The contracts of layout.Of, of find.Get without a meter, and of Small. -/
namespace Go.Proofs.YtlnlodfnplkckaaDoor
open T (Sm)
set_option linter.unusedVariables false
set_option linter.unusedSimpArgs false
set_option maxRecDepth 100000 in
theorem of_layout_ok {I : GH} (ht : TabG I) {v0 : Value} {l : EL} (hl : EntAt I v0 l) (hll : l.length ≤ 1000) (hsm : Sm (l.map (·.2))) (hh : ∀ p ∈ l, p.1 < 2 ^ 64) : Fn Tryd.prog 22 #[v0] I [] (fun v J _ => NodeAt J v (layOf l)) := by
  obtain ⟨ad, cap, rfl⟩ := hl.slc
  refine enter (args := [.slice ad l.length cap]) Tryd.func22 rfl rfl fun w0 hs0 => ?_
  refine wp_seq_k fun K1 hK2 => ?_
  refine wl_begin ?_
  refine sq (r_assign rfl) rfl ?_
  refine wl_nil ?_
  refine hK2 _ _ ?_; (try clear hK2 K1)
  refine wp_seq_k fun K3 hK4 => ?_
  refine wl_begin ?_
  refine sq (r_move rfl) rfl ?_
  refine sqo rfl fun K5 hK6 => ow_call (X := []) (L := []) (lb := []) hs0 (come_ok hl hll hsm hh) (by kernel_rfl) rfl rfl rfl rfl rfl ?_
  rintro v7 G1 X1 w9 hc8 le12 hs10 hid11
  obtain rfl : X1 = [] := List.map_eq_nil_iff.1 hid11
  replace hs10 : St w0 I (ids []) G1 [] w9 := hs10
  clear hs0 hid11
  refine hK6 _ _ ?_; clear hK6 K5
  refine sqo rfl fun K13 hK14 => ow_call (X := []) (L := []) (lb := []) hs10 (lay_ok 13 (lv := 0) (ht.up le12) hc8 (come_apart l) (come_sm hsm) (come_hh hh) (Nat.le_trans (comeE_len l) hll) rfl (fun p _ q _ => by rw [Nat.pow_zero, Nat.mod_one, Nat.mod_one])) (by kernel_rfl) rfl rfl rfl rfl rfl ?_
  rintro v15 G2 X1 w17 hn16 le20 hs18 hid19
  obtain rfl : X1 = [] := List.map_eq_nil_iff.1 hid19
  replace hs18 : St w0 I (ids []) G2 [] w17 := hs18
  clear hs10 hid19
  refine hK14 _ _ ?_; clear hK14 K13
  refine sq (r_assign rfl) rfl ?_
  refine wl_nil ?_
  refine hK4 _ _ ?_; (try clear hK4 K3)
  refine wp_ret ?_
  exact leave (X' := []) (L := []) hs18 rfl (res_one (v := v15) rfl (.tmp rfl rfl .nil)) hn16
theorem fget_ok {I : GH} {n : N} {nv kv : Value} {h : Nat} {k : Bs} (hw : N.WF 0 0 n) (hn : NodeAt I nv n) (hh : h < 2 ^ 64) (hk : BytesAt I kv k) :
    Fn Tryd.prog 27 #[nv, .int .u64 ((h : Nat) : Int), kv, .pointer none] I [] (fun r J _ => ∃ xv, r = .tuple #[xv, .bool (N.look h k n 0).isSome] ∧ BytesAt J xv ((N.look h k n 0).getD [])) :=
  (find_get_ok (m := none) (v := 0) (c := 0) hw hn hh hk rfl).mono fun _ _ _ ⟨xv, h1, h2, _⟩ => ⟨xv, h1, h2⟩
theorem fgetm_ok {I : GH} {b : Nat} {n : N} {nv kv : Value} {h : Nat} {k : Bs} (hw : N.WF 0 0 n) (hn : NodeAt I nv n) (hh : h < 2 ^ 64) (hk : BytesAt I kv k) (hb1 : (N.way h n 0).2 + N.endV h k (N.way h n 0).1 ≤ 1000000) (hb2 : N.endC h k (N.way h n 0).1 ≤ 1000000) :
    Fn Tryd.prog 27 #[nv, .int .u64 ((h : Nat) : Int), kv, .pointer (some ⟨b, 0, none⟩)] I [⟨b, #[.int .i64 0, .int .i64 0], 37⟩] (fun r J X => ∃ xv, r = .tuple #[xv, .bool (N.look h k n 0).isSome] ∧ BytesAt J xv ((N.look h k n 0).getD []) ∧
      X = [⟨b, #[.int .i64 (((N.way h n 0).2 + N.endV h k (N.way h n 0).1 : Nat) : Int), .int .i64 ((N.endC h k (N.way h n 0).1 : Nat) : Int)], 37⟩]) := by
  have hs := find_get_ok (m := some b) (v := 0) (c := 0) hw hn hh hk rfl
  rw [mX_small (Nat.zero_le _) (Nat.zero_le _)] at hs
  refine hs.mono fun r J X ⟨xv, h1, h2, h3⟩ => ⟨xv, h1, h2, ?_⟩
  rw [mX_small (by omega) (by omega)] at h3
  simpa using h3
def smallO (o : Nat × Bs × Bs) : Bool := decide (o.2.1.length ≤ 60) && decide (o.2.2.length ≤ 60)
def smallE (l : EL) (most : Nat) : Bool := decide (l.length ≤ most) && l.all smallO
theorem small_no1 {l : EL} {most : Nat} (h : most < l.length) : smallE l most = false := by
  unfold smallE; rw [show decide (l.length ≤ most) = false by simpa using h]; rfl
theorem small_no2 {l : EL} {most : Nat} {k : Nat} (hk : k < l.length) (h : smallO l[k] = false) : smallE l most = false := by
  unfold smallE
  rw [show l.all smallO = false by rw [List.all_eq_false]; exact ⟨_, List.getElem_mem hk, by simp [h]⟩, Bool.and_false]
theorem small_yes {l : EL} {most : Nat} (h0 : l.length ≤ most) (h : ∀ i, (hi : i < l.length) → i < l.length → smallO l[i] = true) : smallE l most = true := by
  unfold smallE
  rw [show decide (l.length ≤ most) = true by simpa using h0, Bool.true_and, List.all_eq_true]
  intro x hx
  obtain ⟨i, hi, rfl⟩ := List.getElem_of_mem hx
  exact h i hi hi
theorem small_sm {l : EL} {most : Nat} (h : smallE l most = true) : Sm (l.map (·.2)) ∧ l.length ≤ most := by
  unfold smallE at h
  rw [Bool.and_eq_true, List.all_eq_true, decide_eq_true_iff] at h
  refine ⟨fun p hp => ?_, h.1⟩
  obtain ⟨q, hq, rfl⟩ := List.mem_map.1 hp
  have := h.2 q hq
  unfold smallO at this
  rw [Bool.and_eq_true, decide_eq_true_iff, decide_eq_true_iff] at this
  exact ⟨Nat.le_trans this.1 (by decide), Nat.le_trans this.2 (by decide)⟩
set_option maxRecDepth 100000 in
theorem small_ok {I : GH} {v0 : Value} {l : EL} {most : Nat} (hl : EntAt I v0 l) (hll : l.length ≤ 9223372036854775807) : Fn Tryd.prog 17 #[v0, .int .i64 ((most : Nat) : Int)] I [] (fun v J _ => v = .bool (smallE l most) ∧ I = J) := by
  obtain ⟨ad, cap, rfl⟩ := hl.slc
  refine enter (args := [.slice ad l.length cap, .int .i64 ((most : Nat) : Int)]) Tryd.func17 rfl rfl fun w0 hs0 => ?_
  refine wp_seq_k fun K1 hK2 => ?_
  refine wl_begin ?_
  refine sq (r_assign rfl) rfl ?_
  refine wl_nil ?_
  refine hK2 _ _ ?_; (try clear hK2 K1)
  refine wp_seq_k fun K3 hK4 => ?_
  refine wp_seq_k fun K5 hK6 => ?_
  refine wl_begin ?_
  refine sq (r_move rfl) rfl ?_
  refine sq (r_lens rfl (by kernel_rfl) rfl) rfl ?_
  refine sq (r_move rfl) rfl ?_
  refine sq (r_gti rfl rfl rfl rfl) rfl ?_
  refine wl_nil ?_
  refine hK6 _ _ ?_; (try clear hK6 K5)
  refine condS rfl rfl (fun h7 => ?_) (fun h7 => ?_)
  ·
    have p8 := of_decide_eq_true h7
    refine wp_seq_k fun K9 hK10 => ?_
    refine wl_begin ?_
    refine sq (r_assign rfl) rfl ?_
    refine wl_nil ?_
    refine hK10 _ _ ?_; (try clear hK10 K9)
    refine wp_ret ?_
    exact leave (X' := []) (L := []) hs0 rfl (res_one (v := .bool false) rfl (.tmp rfl rfl .nil)) ⟨by rw [small_no1 (by omega)], rfl⟩
  ·
    have p11 := of_decide_eq_false h7
    refine wp_skip ?_
    refine hK4 _ _ ?_; (try clear hK4 K3)
    refine wp_seq_k fun K12 hK13 => ?_
    refine wp_seq_k fun K14 hK15 => ?_
    refine wl_begin ?_
    refine sq (r_move rfl) rfl ?_
    refine sq (r_lens rfl (by kernel_rfl) rfl) rfl ?_
    refine sq (r_move rfl) rfl ?_
    refine wl_nil ?_
    refine hK15 _ _ ?_; (try clear hK15 K14)
    refine wp_block ?_
    refine lp (σ := Nat) (fun m17 f18 w19 => ∃ (g16 : Nat → Value) (k : Nat), m17 = l.length - k ∧ f18 = updL g16 [(0, .slice ad l.length cap), (1, .int .i64 ((most : Nat) : Int)), (10, .bool (decide (((most : Nat) : Int) < ((l.length : Nat) : Int)))), (11, .slice ad l.length cap), (12, .int .i64 ((l.length : Nat) : Int)), (13, .int .i64 ((k : Nat) : Int))] ∧ (k ≤ l.length) ∧ (∀ j, (hj : j < l.length) → j < k → smallO (l[j]'hj) = true) ∧ St w0 I (ids []) I [] w19) (fun m => m) (l.length) ⟨_, 0, rfl, updL_self (.cons rfl (.cons rfl (.cons rfl (.cons rfl (.cons rfl (.cons rfl .nil)))))), (Nat.zero_le _), (fun j _ h => absurd h (Nat.not_lt_zero _)), hs0⟩ ?_
    clear hs0
    rintro m17 f18 w19 ⟨g16, k, rfl, rfl, hkl, hn, hs20⟩
    refine wp_seq_k fun K21 hK22 => ?_
    refine wl_begin ?_
    refine sq (r_lti rfl rfl rfl rfl) rfl ?_
    refine wl_nil ?_
    refine hK22 _ _ ?_; (try clear hK22 K21)
    refine wp_seq_k fun K23 hK24 => ?_
    refine condS rfl rfl (fun h25 => ?_) (fun h25 => ?_)
    ·
      have p26 := of_decide_eq_true h25
      have hlt : k < l.length := by omega
      obtain ⟨b, off, cs, T0, fz, kv, xv, hbe, hb, hcs, hk, hx⟩ := EntAt.at hl hlt
      cases hbe
      obtain ⟨ka, kc, rfl⟩ := bytes_slc hk
      obtain ⟨xa, xc, rfl⟩ := bytes_slc hx
      refine wp_skip ?_
      refine hK24 _ _ ?_; (try clear hK24 K23)
      refine wp_seq_k fun K27 hK28 => ?_
      refine wp_block ?_
      refine wp_seq_k fun K29 hK30 => ?_
      refine wl_begin ?_
      refine sq (r_index (e := 58) (sz := 3) (i := k) rfl rfl (by kernel_rfl) rfl rfl hlt) rfl ?_
      refine sq (r_loadN (m := 3) (vs := [.int .u64 (((l[k]'hlt).1 : Nat) : Int), .slice ka (l[k]'hlt).2.1.length kc, .slice xa (l[k]'hlt).2.2.length xc]) rfl (by kernel_rfl) rfl (hs20.imm hb) hcs rfl) rfl ?_
      refine sqo rfl fun K31 hK32 => ow_newbox (mk := fun b => .pointer (some ⟨b, 0, none⟩)) hs20 (r_alloc (cs := [.int .u64 0, .slice none 0 0, .slice none 0 0]) (by kernel_rfl)) rfl ?_
      rintro b33 w34 (hs35 : St w0 I (ids []) I [⟨b33, #[.int .u64 0, .slice none 0 0, .slice none 0 0], 58⟩] w34)
      clear hs20
      refine hK32 _ _ ?_; clear hK32 K31
      refine sqo rfl fun K36 hK37 => ow_store (vs := [.int .u64 (((l[k]'hlt).1 : Nat) : Int), .slice ka (l[k]'hlt).2.1.length kc, .slice xa (l[k]'hlt).2.2.length xc]) hs35 rfl rfl (by kernel_rfl) rfl rfl (.cons trivial (.cons trivial (.cons trivial .nil))) rfl ?_
      rintro w38 (hs39 : St w0 I (ids []) I [⟨b33, #[.int .u64 (((l[k]'hlt).1 : Nat) : Int), .slice ka (l[k]'hlt).2.1.length kc, .slice xa (l[k]'hlt).2.2.length xc], 58⟩] w38)
      clear hs35
      refine hK37 _ _ ?_; clear hK37 K36
      refine wl_nil ?_
      refine hK30 _ _ ?_; (try clear hK30 K29)
      refine wp_seq_k fun K40 hK41 => ?_
      refine wl_begin ?_
      refine sq (r_fieldAddr (off := 1) rfl (by kernel_rfl) rfl) rfl ?_
      refine sq (r_fieldAddr (off := 0) rfl (by kernel_rfl) rfl) rfl ?_
      refine sq (r_load rfl (by kernel_rfl) rfl (hs39.box (.head _)) rfl) rfl ?_
      refine sq (r_lens rfl (by kernel_rfl) rfl) rfl ?_
      refine sq (r_gti rfl rfl rfl rfl) rfl ?_
      refine sq (r_move rfl) rfl ?_
      refine bsplit (decide (60 < (((l[k]'hlt).2.1.length : Nat) : Int))) (fun h42 => ?_) (fun h42 => ?_)
      ·
        have p43 := of_decide_eq_true h42
        refine sqN (wantedF rfl rfl rfl (congrArg Value.bool h42)) rfl ?_
        refine sqN (wantedF rfl rfl rfl (congrArg Value.bool h42)) rfl ?_
        refine sqN (wantedF rfl rfl rfl (congrArg Value.bool h42)) rfl ?_
        refine sqN (wantedF rfl rfl rfl (congrArg Value.bool h42)) rfl ?_
        refine sqN (wantedF rfl rfl rfl (congrArg Value.bool h42)) rfl ?_
        refine sq (r_pick rfl rfl rfl (congrArg Value.bool h42)) rfl ?_
        refine wl_nil ?_
        refine hK41 _ _ ?_; (try clear hK41 K40)
        refine condT rfl rfl ?_
        refine wp_seq_k fun K44 hK45 => ?_
        refine nrm (vals := [(0, .slice (some ⟨b, off, none⟩) l.length cap), (1, .int .i64 ((most : Nat) : Int)), (6, .pointer (some ⟨b33, 0, none⟩)), (10, .bool (decide (((most : Nat) : Int) < ((l.length : Nat) : Int)))), (11, .slice (some ⟨b, off, none⟩) l.length cap), (12, .int .i64 ((l.length : Nat) : Int)), (13, .int .i64 ((k : Nat) : Int)), (14, .bool (decide (((k : Nat) : Int) < ((l.length : Nat) : Int)))), (28, .bool true)]) (.cons rfl (.cons rfl (.cons rfl (.cons rfl (.cons rfl (.cons rfl (.cons rfl (.cons rfl (.cons rfl .nil))))))))) fun g46 => ?_
        refine wl_begin ?_
        refine sq (r_assign rfl) rfl ?_
        refine wl_nil ?_
        refine hK45 _ _ ?_; (try clear hK45 K44)
        refine wp_ret ?_
        exact leave (X' := []) (L := [⟨b33, #[.int .u64 (((l[k]'hlt).1 : Nat) : Int), .slice ka (l[k]'hlt).2.1.length kc, .slice xa (l[k]'hlt).2.2.length xc], 58⟩]) hs39 rfl (res_one (v := .bool false) rfl (.tmp rfl rfl .nil)) ⟨by rw [small_no2 hlt (by unfold smallO; rw [Bool.and_eq_false_iff]; simp only [decide_eq_false_iff_not]; omega)], rfl⟩
      ·
        have p47 := of_decide_eq_false h42
        refine sqG (wantedT rfl rfl rfl (congrArg Value.bool h42)) (r_fieldAddr (off := 1) rfl (by kernel_rfl) rfl) rfl ?_
        refine sqG (wantedT rfl rfl rfl (congrArg Value.bool h42)) (r_fieldAddr (off := 1) rfl (by kernel_rfl) rfl) rfl ?_
        refine sqG (wantedT rfl rfl rfl (congrArg Value.bool h42)) (r_load rfl (by kernel_rfl) rfl (hs39.box (.head _)) rfl) rfl ?_
        refine sqG (wantedT rfl rfl rfl (congrArg Value.bool h42)) (r_lens rfl (by kernel_rfl) rfl) rfl ?_
        refine sqG (wantedT rfl rfl rfl (congrArg Value.bool h42)) (r_gti rfl rfl rfl rfl) rfl ?_
        refine sq (r_pick rfl rfl rfl (congrArg Value.bool h42)) rfl ?_
        refine wl_nil ?_
        refine hK41 _ _ ?_; (try clear hK41 K40)
        refine condS rfl rfl (fun h48 => ?_) (fun h48 => ?_)
        ·
          have p49 := of_decide_eq_true h48
          refine wp_seq_k fun K50 hK51 => ?_
          refine nrm (vals := [(0, .slice (some ⟨b, off, none⟩) l.length cap), (1, .int .i64 ((most : Nat) : Int)), (6, .pointer (some ⟨b33, 0, none⟩)), (10, .bool (decide (((most : Nat) : Int) < ((l.length : Nat) : Int)))), (11, .slice (some ⟨b, off, none⟩) l.length cap), (12, .int .i64 ((l.length : Nat) : Int)), (13, .int .i64 ((k : Nat) : Int)), (14, .bool (decide (((k : Nat) : Int) < ((l.length : Nat) : Int)))), (28, .bool (decide (60 < (((l[k]'hlt).2.2.length : Nat) : Int))))]) (.cons rfl (.cons rfl (.cons rfl (.cons rfl (.cons rfl (.cons rfl (.cons rfl (.cons rfl (.cons rfl .nil))))))))) fun g52 => ?_
          refine wl_begin ?_
          refine sq (r_assign rfl) rfl ?_
          refine wl_nil ?_
          refine hK51 _ _ ?_; (try clear hK51 K50)
          refine wp_ret ?_
          exact leave (X' := []) (L := [⟨b33, #[.int .u64 (((l[k]'hlt).1 : Nat) : Int), .slice ka (l[k]'hlt).2.1.length kc, .slice xa (l[k]'hlt).2.2.length xc], 58⟩]) hs39 rfl (res_one (v := .bool false) rfl (.tmp rfl rfl .nil)) ⟨by rw [small_no2 hlt (by unfold smallO; rw [Bool.and_eq_false_iff]; simp only [decide_eq_false_iff_not]; omega)], rfl⟩
        ·
          have p53 := of_decide_eq_false h48
          refine wp_skip ?_
          refine hK28 _ _ ?_; (try clear hK28 K27)
          refine nrm (vals := [(0, .slice (some ⟨b, off, none⟩) l.length cap), (1, .int .i64 ((most : Nat) : Int)), (6, .pointer (some ⟨b33, 0, none⟩)), (10, .bool (decide (((most : Nat) : Int) < ((l.length : Nat) : Int)))), (11, .slice (some ⟨b, off, none⟩) l.length cap), (12, .int .i64 ((l.length : Nat) : Int)), (13, .int .i64 ((k : Nat) : Int)), (14, .bool (decide (((k : Nat) : Int) < ((l.length : Nat) : Int)))), (28, .bool (decide (60 < (((l[k]'hlt).2.2.length : Nat) : Int))))]) (.cons rfl (.cons rfl (.cons rfl (.cons rfl (.cons rfl (.cons rfl (.cons rfl (.cons rfl (.cons rfl .nil))))))))) fun g54 => ?_
          refine wl_begin ?_
          refine sq (r_addi rfl rfl rfl rfl (by omega)) rfl ?_
          refine sq (r_move rfl) rfl ?_
          refine wl_nil ?_
          have hs55 : St w0 I (ids []) I [] w38 := hs39.drop
          exact ⟨_, _, rfl, ⟨_, (k + 1), rfl, updL_self (.cons rfl (.cons rfl (.cons rfl (.cons rfl (.cons rfl (.cons rfl .nil)))))), (by omega), (fun j hj hjk => if h : j < k then hn j hj h else by obtain rfl : j = k := (by omega); simp only [smallO, Bool.and_eq_true, decide_eq_true_eq]; omega), hs55⟩, (by omega)⟩
    ·
      have p56 := of_decide_eq_false h25
      obtain rfl : k = l.length := by omega
      refine wp_exit ?_
      refine hK13 _ _ ?_; (try clear hK13 K12)
      refine wp_seq_k fun K57 hK58 => ?_
      refine wl_begin ?_
      refine sq (r_assign rfl) rfl ?_
      refine wl_nil ?_
      refine hK58 _ _ ?_; (try clear hK58 K57)
      refine wp_ret ?_
      exact leave (X' := []) (L := []) hs20 rfl (res_one (v := .bool true) rfl (.tmp rfl rfl .nil)) ⟨by rw [small_yes (by omega) hn], rfl⟩
end Go.Proofs.YtlnlodfnplkckaaDoor
/- The contract of FindAll. -/
namespace Go.Proofs.YtlnlodfnplkckaaDoor
open T (Sm)
set_option linter.unusedVariables false
set_option linter.unusedSimpArgs false
theorem fromL_one (q : Bs × Bs) : T.fromL [q] = .node .nil q.1 q.2 .nil := by
  obtain ⟨k, x, e⟩ := T.size_one (show (T.fromL [q]).size = 1 from T.size_fromL _)
  have h := T.toList_fromL [q]
  rw [e] at h ⊢
  have h2 : [(k, x)] = [q] := h
  obtain rfl := List.singleton_inj.1 h2
  rfl
theorem layOf_one (p : Nat × Bs × Bs) : layOf [p] = .leaf p.1 p.2.1 p.2.2 := by
  have hm : mixB [p] = false := mix_all fun q hq r hr => by rw [List.mem_singleton.1 hq, List.mem_singleton.1 hr]
  have hc : comeE [p] = [p] := rfl
  unfold layOf
  rw [hc, layN_one (by simp) hm]
  show N.ofTree p.1 (T.fromL [p.2]) = _
  rw [fromL_one]
  rfl
def e18 : EL := [(5, [107], [118])]
theorem e18_wf : N.WF 0 0 (layOf e18) := (layOf_w (l := e18) (fun p hp => by obtain rfl := List.mem_singleton.1 hp; exact ⟨by decide, by decide⟩) (fun p hp => by obtain rfl := List.mem_singleton.1 hp; decide)).1.1
theorem aw18_get1 {I : GH} {b : Nat} {nv kv : Value} (hn : NodeAt I nv (layOf e18)) (hk : BytesAt I kv [107]) :
    Fn Tryd.prog 27 #[nv, .int .u64 6, kv, .pointer (some ⟨b, 0, none⟩)] I [⟨b, #[.int .i64 0, .int .i64 0], 37⟩] (fun r J X => ∃ xv, r = .tuple #[xv, .bool false] ∧ BytesAt J xv [] ∧ X = [⟨b, #[.int .i64 1, .int .i64 0], 37⟩]) := by
  have hw : N.way 6 (layOf e18) 0 = (.leaf 5 [107] [118], 0) := by rw [e18, layOf_one, N.way_end _ _ rfl]
  have hl : N.look 6 [107] (layOf e18) 0 = none := by rw [e18, layOf_one, N.look_leaf]; rfl
  refine (fgetm_ok (h := 6) e18_wf hn (by decide) hk (by rw [hw]; decide) (by rw [hw]; decide)).mono fun r J X ⟨xv, h1, h2, h3⟩ => ⟨xv, ?_, ?_, ?_⟩
  · rw [hl] at h1; exact h1
  · rw [hl] at h2; exact h2
  · rw [hw] at h3; exact h3
theorem aw18_get2 {I : GH} {nv kv : Value} (hn : NodeAt I nv (layOf e18)) (hk : BytesAt I kv [107]) :
    Fn Tryd.prog 27 #[nv, .int .u64 5, kv, .pointer none] I [] (fun r J X => ∃ xv, r = .tuple #[xv, .bool true] ∧ BytesAt J xv [118]) := by
  have hl : N.look 5 [107] (layOf e18) 0 = some [118] := by rw [e18, layOf_one, N.look_leaf]; rfl
  refine (fget_ok (h := 5) e18_wf hn (by decide) hk).mono fun r J X ⟨xv, h1, h2⟩ => ⟨xv, ?_, ?_⟩
  · rw [hl] at h1; exact h1
  · rw [hl] at h2; exact h2
theorem litE {I : GH} {b : Nat} {u v : Value} {h : Nat} {T : TypeId} {fz : Nat × Nat} {k x : Bs} (hb : I b = some (.cells #[.int .u64 ((h : Nat) : Int), u, v] T fz)) (hk : BytesAt I u k) (hx : BytesAt I v x) : EntAt I (.slice (some ⟨b, 0, none⟩) 1 1) [(h, k, x)] :=
  ⟨[.int .u64 ((h : Nat) : Int), u, v], ⟨_, 1, rfl, Nat.le_refl _, (fun h => nomatch h), rfl, fun _ => ⟨b, 0, _, _, _, rfl, hb, rfl⟩⟩, rfl, hk, hx, trivial⟩
set_option maxRecDepth 100000 in
theorem awake18_ok {I : GH} (ht : TabG I) : Fn Tryd.prog 26 #[] I [] (fun v J _ => v = .bool true) := by
  refine enter (args := []) Tryd.func26 rfl rfl fun w0 hs0 => ?_
  refine wp_seq_k fun K1 hK2 => ?_
  refine wl_begin ?_
  refine sq (r_assign rfl) rfl ?_
  refine wl_nil ?_
  refine hK2 _ _ ?_; (try clear hK2 K1)
  refine wp_seq_k fun K3 hK4 => ?_
  refine wl_begin ?_
  refine sqo rfl fun K5 hK6 => ow_newbox (mk := fun b => .slice (some ⟨b, 0, none⟩) 1 1) hs0 (r_buildSlice (e := 5) (cells := #[.int .u8 107]) (.cons rfl rfl .nil) (by kernel_rfl)) rfl ?_
  rintro b7 w8 (hs9 : St w0 I (ids []) I [⟨b7, #[.int .u8 107], 5⟩] w8)
  clear hs0
  refine hK6 _ _ ?_; clear hK6 K5
  refine sqo rfl fun K10 hK11 => ow_convlit (e := 5) hs9 rfl (by kernel_rfl) rfl (St.own_ge hs9) rfl ?_
  rintro G1 w12 hb13 le14 hs15
  clear hs9
  refine hK11 _ _ ?_; clear hK11 K10
  refine sqo rfl fun K16 hK17 => ow_newbox (mk := fun b => .slice (some ⟨b, 0, none⟩) 1 1) hs15 (r_buildSlice (e := 5) (cells := #[.int .u8 118]) (.cons rfl rfl .nil) (by kernel_rfl)) rfl ?_
  rintro b18 w19 (hs20 : St w0 I (ids []) G1 [⟨b18, #[.int .u8 118], 5⟩] w19)
  clear hs15
  refine hK17 _ _ ?_; clear hK17 K16
  refine sqo rfl fun K21 hK22 => ow_convlit (e := 5) hs20 rfl (by kernel_rfl) rfl (St.own_ge hs20) rfl ?_
  rintro G2 w23 hb24 le25 hs26
  clear hs20
  refine hK22 _ _ ?_; clear hK22 K21
  refine sq (r_build (.cons rfl (One.cells ((bytes_lit (off := 0) (len := 1) (cap := 1) (k := [107]) hb13 rfl (by decide) rfl)).one) (.cons rfl (One.cells ((bytes_lit (off := 0) (len := 1) (cap := 1) (k := [118]) hb24 rfl (by decide) rfl)).one) .nil)) (cells := #[(.slice (some ⟨b7, 0, none⟩) 1 1), (.slice (some ⟨b18, 0, none⟩) 1 1)]) (by kernel_rfl)) rfl ?_
  refine sq (r_build (.cons rfl rfl (.cons rfl rfl .nil)) (cells := #[.int .u64 5, (.slice (some ⟨b7, 0, none⟩) 1 1), (.slice (some ⟨b18, 0, none⟩) 1 1)]) (by kernel_rfl)) rfl ?_
  refine sqo rfl fun K27 hK28 => ow_newimm (mk := fun b => .slice (some ⟨b, 0, none⟩) 1 1) hs26 (r_buildSlice (e := 58) (cells := #[.int .u64 5, (.slice (some ⟨b7, 0, none⟩) 1 1), (.slice (some ⟨b18, 0, none⟩) 1 1)]) (.cons rfl rfl .nil) (by kernel_rfl)) rfl ?_
  rintro b29 G3 w30 hb31 le32 hs33 ge34
  clear hs26
  replace hb31 : G3 b29 = some (.cells #[.int .u64 5, (.slice (some ⟨b7, 0, none⟩) 1 1), (.slice (some ⟨b18, 0, none⟩) 1 1)] 58 (0, 0)) := hb31
  refine hK28 _ _ ?_; clear hK28 K27
  refine sqo rfl fun K35 hK36 => ow_call (X := []) (L := []) (lb := []) hs33 (of_layout_ok (l := e18) (ht.up ((le14.trans le25).trans le32)) (litE (h := 5) hb31 ((bytes_lit (off := 0) (len := 1) (cap := 1) (k := [107]) hb13 rfl (by decide) rfl).up (le25.trans le32)) ((bytes_lit (off := 0) (len := 1) (cap := 1) (k := [118]) hb24 rfl (by decide) rfl).up le32)) (by decide) (fun p hp => by obtain rfl := List.mem_singleton.1 hp; exact ⟨by decide, by decide⟩) (fun p hp => by obtain rfl := List.mem_singleton.1 hp; decide)) (by kernel_rfl) rfl rfl rfl rfl rfl ?_
  rintro v37 G4 X1 w39 hn38 le42 hs40 hid41
  obtain rfl : X1 = [] := List.map_eq_nil_iff.1 hid41
  replace hs40 : St w0 I (ids []) G4 [] w39 := hs40
  clear hs33 hid41
  refine hK36 _ _ ?_; clear hK36 K35
  refine sq (r_assign rfl) rfl ?_
  refine wl_nil ?_
  refine hK4 _ _ ?_; (try clear hK4 K3)
  refine wp_seq_k fun K43 hK44 => ?_
  refine wl_begin ?_
  refine sqo rfl fun K45 hK46 => ow_newbox (mk := fun b => .pointer (some ⟨b, 0, none⟩)) hs40 (r_alloc (cs := [.int .i64 0, .int .i64 0]) (by kernel_rfl)) rfl ?_
  rintro b47 w48 (hs49 : St w0 I (ids []) G4 [⟨b47, #[.int .i64 0, .int .i64 0], 37⟩] w48)
  clear hs40
  refine hK46 _ _ ?_; clear hK46 K45
  refine wl_nil ?_
  refine hK44 _ _ ?_; (try clear hK44 K43)
  refine wp_seq_k fun K50 hK51 => ?_
  refine wl_begin ?_
  refine sq (r_move rfl) rfl ?_
  refine sqo rfl fun K52 hK53 => ow_newbox (mk := fun b => .slice (some ⟨b, 0, none⟩) 1 1) hs49 (r_buildSlice (e := 5) (cells := #[.int .u8 107]) (.cons rfl rfl .nil) (by kernel_rfl)) rfl ?_
  rintro b54 w55 (hs56 : St w0 I (ids []) G4 [⟨b54, #[.int .u8 107], 5⟩, ⟨b47, #[.int .i64 0, .int .i64 0], 37⟩] w55)
  clear hs49
  refine hK53 _ _ ?_; clear hK53 K52
  refine sqo rfl fun K57 hK58 => ow_convlit (e := 5) hs56 rfl (by kernel_rfl) rfl (St.own_ge hs56) rfl ?_
  rintro G5 w59 hb60 le61 hs62
  clear hs56
  refine hK58 _ _ ?_; clear hK58 K57
  refine sqo rfl fun K63 hK64 => ow_call (X := [⟨b47, #[.int .i64 0, .int .i64 0], 37⟩]) (L := []) (lb := []) hs62 (aw18_get1 (hn38.up le61) (bytes_lit (off := 0) (len := 1) (cap := 1) (k := [107]) hb60 rfl (by decide) rfl)) (by kernel_rfl) rfl rfl rfl rfl rfl ?_
  rintro _ G6 X1 w67 ⟨xv65, rfl, hx66, rfl⟩ le70 hs68 hid69
  replace hs68 : St w0 I (ids []) G6 [⟨b47, #[.int .i64 1, .int .i64 0], 37⟩] w67 := hs68
  clear hs62 hid69
  refine hK64 _ _ ?_; clear hK64 K63
  refine sq (r_move rfl) rfl ?_
  refine sq (r_extract rfl rfl rfl) rfl ?_
  refine sq (r_extract rfl rfl rfl) rfl ?_
  refine sq (r_assign rfl) rfl ?_
  refine sq (r_assign rfl) rfl ?_
  refine wl_nil ?_
  refine hK51 _ _ ?_; (try clear hK51 K50)
  refine wp_seq_k fun K71 hK72 => ?_
  refine nrm (vals := [(0, .bool false), (1, v37), (2, .pointer (some ⟨b47, 0, none⟩)), (4, .bool false)]) (.cons rfl (.cons rfl (.cons rfl (.cons rfl .nil)))) fun g73 => ?_
  refine wl_begin ?_
  refine sq (r_move rfl) rfl ?_
  refine sqo rfl fun K74 hK75 => ow_newbox (mk := fun b => .slice (some ⟨b, 0, none⟩) 1 1) hs68 (r_buildSlice (e := 5) (cells := #[.int .u8 107]) (.cons rfl rfl .nil) (by kernel_rfl)) rfl ?_
  rintro b76 w77 (hs78 : St w0 I (ids []) G6 [⟨b76, #[.int .u8 107], 5⟩, ⟨b47, #[.int .i64 1, .int .i64 0], 37⟩] w77)
  clear hs68
  refine hK75 _ _ ?_; clear hK75 K74
  refine sqo rfl fun K79 hK80 => ow_convlit (e := 5) hs78 rfl (by kernel_rfl) rfl (St.own_ge hs78) rfl ?_
  rintro G7 w81 hb82 le83 hs84
  clear hs78
  refine hK80 _ _ ?_; clear hK80 K79
  refine sqo rfl fun K85 hK86 => ow_call (X := []) (L := [⟨b47, #[.int .i64 1, .int .i64 0], 37⟩]) (lb := []) hs84 (aw18_get2 (hn38.up ((le61.trans le70).trans le83)) (bytes_lit (off := 0) (len := 1) (cap := 1) (k := [107]) hb82 rfl (by decide) rfl)) (by kernel_rfl) rfl rfl rfl rfl rfl ?_
  rintro _ G8 X1 w89 ⟨xv87, rfl, hx88⟩ le92 hs90 hid91
  obtain rfl : X1 = [] := List.map_eq_nil_iff.1 hid91
  replace hs90 : St w0 I (ids []) G8 [⟨b47, #[.int .i64 1, .int .i64 0], 37⟩] w89 := hs90
  clear hs84 hid91
  refine hK86 _ _ ?_; clear hK86 K85
  refine sq (r_move rfl) rfl ?_
  refine sq (r_extract rfl rfl rfl) rfl ?_
  refine sq (r_extract rfl rfl rfl) rfl ?_
  refine sq (r_assign rfl) rfl ?_
  refine sq (r_assign rfl) rfl ?_
  refine wl_nil ?_
  refine hK72 _ _ ?_; (try clear hK72 K71)
  refine wp_seq_k fun K93 hK94 => ?_
  refine wl_begin ?_
  refine sq (r_move rfl) rfl ?_
  refine sq (r_not rfl rfl) rfl ?_
  refine sq (r_move rfl) rfl ?_
  refine sqG (wantedT rfl rfl rfl rfl) (r_loadN (m := 2) rfl (by kernel_rfl) rfl (hs90.box (.head _)) rfl rfl) rfl ?_
  refine sqG (wantedT rfl rfl rfl rfl) (r_build (.cons rfl rfl .nil) (cells := #[.int .i64 1, .int .i64 0]) (by kernel_rfl)) rfl ?_
  refine sqG (wantedT rfl rfl rfl rfl) (r_eqA rfl rfl (by kernel_rfl) (by kernel_rfl) (by kernel_rfl) (by kernel_rfl) rfl rfl) rfl ?_
  refine sq (r_pick rfl rfl rfl rfl) rfl ?_
  refine sq (r_move rfl) rfl ?_
  refine sqG (wantedT rfl rfl rfl rfl) (r_move rfl) rfl ?_
  refine sq (r_pick rfl rfl rfl rfl) rfl ?_
  refine sq (r_move rfl) rfl ?_
  refine sqG (wantedT rfl rfl rfl rfl) (r_move rfl) rfl ?_
  refine sqG (wantedT rfl rfl rfl rfl) (r_bytesStr (e := 5) rfl (by kernel_rfl) (by kernel_rfl) rfl hx88 (fun _ _ z => hs90.imm z)) rfl ?_
  refine sqG (wantedT rfl rfl rfl rfl) (r_eqstr rfl rfl rfl rfl) rfl ?_
  refine sq (r_pick rfl rfl rfl rfl) rfl ?_
  refine sq (r_assign rfl) rfl ?_
  refine wl_nil ?_
  refine hK94 _ _ ?_; (try clear hK94 K93)
  refine wp_ret ?_
  exact leave (X' := []) (L := [⟨b47, #[.int .i64 1, .int .i64 0], 37⟩]) hs90 rfl (res_one (v := .bool (decide ([118] = [118]))) rfl (.tmp rfl rfl .nil)) (congrArg Value.bool (decide_eq_true rfl))
theorem found_iff {a b : Nat} {v : Bs} : ((if a = b then some v else none).isSome == decide (b = a)) = true := by
  by_cases h : a = b
  · subst h; simp
  · simp [h, Ne.symm h]
theorem all_found {l : EL} {k : Nat} (hk : k < (comeE l).length) (hsm : Sm (l.map (·.2))) (hh : ∀ p ∈ l, p.1 < 2 ^ 64) (h : Nat) : N.look h ((comeE l)[k]'hk).2.1 (layOf l) 0 = if ((comeE l)[k]'hk).1 = h then some ((comeE l)[k]'hk).2.2 else none := by
  rw [(layOf_w hsm hh).2, getE_in (come_apart l) (List.getElem_mem hk)]
set_option maxHeartbeats 2000000 in
set_option maxRecDepth 100000 in
theorem findall_ok {I : GH} {v0 : Value} {l : EL} {oh : Nat} (ht : TabG I) (hl : EntAt I v0 l) (hll : l.length ≤ 9223372036854775807) (hh : ∀ p ∈ l, p.1 < 2 ^ 64) (hoh : oh < 2 ^ 64) : Fn Tryd.prog 6 #[v0, .int .u64 ((oh : Nat) : Int)] I [] (fun v J _ => v = .bool true) := by
  obtain ⟨ad, cap, rfl⟩ := hl.slc
  refine enter (args := [.slice ad l.length cap, .int .u64 ((oh : Nat) : Int)]) Tryd.func6 rfl rfl fun w0 hs0 => ?_
  refine wp_seq_k fun K1 hK2 => ?_
  refine wl_begin ?_
  refine sq (r_assign rfl) rfl ?_
  refine wl_nil ?_
  refine hK2 _ _ ?_; (try clear hK2 K1)
  refine wp_seq_k fun K3 hK4 => ?_
  refine wp_seq_k fun K5 hK6 => ?_
  refine wl_begin ?_
  refine sq (r_move rfl) rfl ?_
  refine sqo rfl fun K7 hK8 => ow_call (X := []) (L := []) (lb := []) hs0 (small_ok hl hll) (by kernel_rfl) rfl rfl rfl rfl rfl ?_
  rintro _ _ X1 w9 ⟨rfl, rfl⟩ - hs10 hid11
  obtain rfl : X1 = [] := List.map_eq_nil_iff.1 hid11
  replace hs10 : St w0 I (ids []) I [] w9 := hs10
  clear hs0 hid11
  refine hK8 _ _ ?_; clear hK8 K7
  refine sq (r_not rfl rfl) rfl ?_
  refine wl_nil ?_
  refine hK6 _ _ ?_; (try clear hK6 K5)
  refine condS rfl rfl (fun h12 => ?_) (fun h12 => ?_)
  ·
    have h13 : (smallE l 40) = false := by simpa using h12
    refine wp_seq_k fun K14 hK15 => ?_
    refine wl_begin ?_
    refine sqo rfl fun K16 hK17 => ow_call (X := []) (L := []) (lb := []) hs10 (awake18_ok ht) (by kernel_rfl) rfl rfl rfl rfl rfl ?_
    rintro _ G1 X1 w18 rfl le21 hs19 hid20
    obtain rfl : X1 = [] := List.map_eq_nil_iff.1 hid20
    replace hs19 : St w0 I (ids []) G1 [] w18 := hs19
    clear hs10 hid20
    refine hK17 _ _ ?_; clear hK17 K16
    refine sq (r_assign rfl) rfl ?_
    refine wl_nil ?_
    refine hK15 _ _ ?_; (try clear hK15 K14)
    refine wp_ret ?_
    exact leave (X' := []) (L := []) hs19 rfl (res_one (v := .bool true) rfl (.tmp rfl rfl .nil)) rfl
  ·
    have h22 : (smallE l 40) = true := by simpa using h12
    obtain ⟨hsm, hl40⟩ := small_sm (l := l) (most := 40) (by simpa using h12)
    refine wp_skip ?_
    refine hK4 _ _ ?_; (try clear hK4 K3)
    refine wp_seq_k fun K23 hK24 => ?_
    refine wl_begin ?_
    refine sq (r_move rfl) rfl ?_
    refine sqo rfl fun K25 hK26 => ow_call (X := []) (L := []) (lb := []) hs10 (of_layout_ok ht hl (Nat.le_trans hl40 (by decide)) hsm hh) (by kernel_rfl) rfl rfl rfl rfl rfl ?_
    rintro v27 G2 X1 w29 hn28 le32 hs30 hid31
    obtain rfl : X1 = [] := List.map_eq_nil_iff.1 hid31
    replace hs30 : St w0 I (ids []) G2 [] w29 := hs30
    clear hs10 hid31
    refine hK26 _ _ ?_; clear hK26 K25
    refine sq (r_assign rfl) rfl ?_
    refine wl_nil ?_
    refine hK24 _ _ ?_; (try clear hK24 K23)
    refine wp_seq_k fun K33 hK34 => ?_
    refine wp_seq_k fun K35 hK36 => ?_
    refine wl_begin ?_
    refine sq (r_move rfl) rfl ?_
    refine sqo rfl fun K37 hK38 => ow_call (X := []) (L := []) (lb := []) hs30 (come_ok (hl.up le32) (Nat.le_trans hl40 (by decide)) hsm hh) (by kernel_rfl) rfl rfl rfl rfl rfl ?_
    rintro v39 G3 X1 w41 hc40 le44 hs42 hid43
    obtain rfl : X1 = [] := List.map_eq_nil_iff.1 hid43
    replace hs42 : St w0 I (ids []) G3 [] w41 := hs42
    clear hs30 hid43
    obtain ⟨cad, ccap, rfl⟩ := hc40.slc
    have hcl := comeE_len l
    refine hK38 _ _ ?_; clear hK38 K37
    refine sq (r_lens rfl (by kernel_rfl) rfl) rfl ?_
    refine sq (r_move rfl) rfl ?_
    refine wl_nil ?_
    refine hK36 _ _ ?_; (try clear hK36 K35)
    refine wp_block ?_
    refine lp (σ := Nat) (fun m46 f47 w48 => ∃ (g45 : Nat → Value) (k : Nat) (G4 : GH), m46 = (comeE l).length - k ∧ f47 = updL g45 [(0, .slice ad l.length cap), (1, .int .u64 ((oh : Nat) : Int)), (5, v27), (14, .bool (!(smallE l 40))), (19, .slice cad (comeE l).length ccap), (20, .int .i64 (((comeE l).length : Nat) : Int)), (21, .int .i64 ((k : Nat) : Int))] ∧ G3.le G4 ∧ (k ≤ (comeE l).length) ∧ St w0 I (ids []) G4 [] w48) (fun m => m) ((comeE l).length) ⟨_, 0, G3, rfl, updL_self (.cons rfl (.cons rfl (.cons rfl (.cons rfl (.cons rfl (.cons rfl (.cons rfl .nil))))))), GH.le.refl _, (Nat.zero_le _), hs42⟩ ?_
    clear hs42
    rintro m46 f47 w48 ⟨g45, k, G4, rfl, rfl, le50, hkl, hs49⟩
    refine wp_seq_k fun K51 hK52 => ?_
    refine wl_begin ?_
    refine sq (r_lti rfl rfl rfl rfl) rfl ?_
    refine wl_nil ?_
    refine hK52 _ _ ?_; (try clear hK52 K51)
    refine wp_seq_k fun K53 hK54 => ?_
    refine condS rfl rfl (fun h55 => ?_) (fun h55 => ?_)
    ·
      have p56 := of_decide_eq_true h55
      have hlt : k < (comeE l).length := by omega
      obtain ⟨b, off, cs, T0, fz, kv, xv, hbe, hb, hcs, hk, hx⟩ := EntAt.at (hc40.up le50) hlt
      cases hbe
      refine wp_skip ?_
      refine hK54 _ _ ?_; (try clear hK54 K53)
      refine wp_seq_k fun K57 hK58 => ?_
      refine wp_block ?_
      refine wp_seq_k fun K59 hK60 => ?_
      refine wl_begin ?_
      refine sq (r_index (e := 58) (sz := 3) (i := k) rfl rfl (by kernel_rfl) rfl rfl hlt) rfl ?_
      refine sq (r_loadN (m := 3) (vs := [.int .u64 ((((comeE l)[k]'hlt).1 : Nat) : Int), kv, xv]) rfl (by kernel_rfl) rfl (hs49.imm hb) hcs rfl) rfl ?_
      refine sqo rfl fun K61 hK62 => ow_newbox (mk := fun b => .pointer (some ⟨b, 0, none⟩)) hs49 (r_alloc (cs := [.int .u64 0, .slice none 0 0, .slice none 0 0]) (by kernel_rfl)) rfl ?_
      rintro b63 w64 (hs65 : St w0 I (ids []) G4 [⟨b63, #[.int .u64 0, .slice none 0 0, .slice none 0 0], 58⟩] w64)
      clear hs49
      refine hK62 _ _ ?_; clear hK62 K61
      refine sqo rfl fun K66 hK67 => ow_store (vs := [.int .u64 ((((comeE l)[k]'hlt).1 : Nat) : Int), kv, xv]) hs65 rfl rfl (by kernel_rfl) rfl rfl (.cons trivial (.cons (hk).one (.cons (hx).one .nil))) rfl ?_
      rintro w68 (hs69 : St w0 I (ids []) G4 [⟨b63, #[.int .u64 ((((comeE l)[k]'hlt).1 : Nat) : Int), kv, xv], 58⟩] w68)
      clear hs65
      refine hK67 _ _ ?_; clear hK67 K66
      refine wl_nil ?_
      refine hK60 _ _ ?_; (try clear hK60 K59)
      refine wp_seq_k fun K70 hK71 => ?_
      refine nrm (vals := [(0, .slice ad l.length cap), (1, .int .u64 ((oh : Nat) : Int)), (5, v27), (7, .pointer (some ⟨b63, 0, none⟩)), (14, .bool (!(smallE l 40))), (19, .slice (some ⟨b, off, none⟩) (comeE l).length ccap), (20, .int .i64 (((comeE l).length : Nat) : Int)), (21, .int .i64 ((k : Nat) : Int)), (22, .bool (decide (((k : Nat) : Int) < (((comeE l).length : Nat) : Int))))]) (.cons rfl (.cons rfl (.cons rfl (.cons rfl (.cons rfl (.cons rfl (.cons rfl (.cons rfl (.cons rfl .nil))))))))) fun g72 => ?_
      refine wl_begin ?_
      refine sq (r_move rfl) rfl ?_
      refine sq (r_fieldAddr (off := 0) rfl (by kernel_rfl) rfl) rfl ?_
      refine sq (r_load rfl (by kernel_rfl) rfl (hs69.box (.head _)) rfl) rfl ?_
      refine sq (r_fieldAddr (off := 1) rfl (by kernel_rfl) rfl) rfl ?_
      refine sq (r_fieldAddr (off := 0) rfl (by kernel_rfl) rfl) rfl ?_
      refine sq (r_load rfl (by kernel_rfl) rfl (hs69.box (.head _)) rfl) rfl ?_
      refine sqo rfl fun K73 hK74 => ow_call (X := []) (L := [⟨b63, #[.int .u64 ((((comeE l)[k]'hlt).1 : Nat) : Int), kv, xv], 58⟩]) (lb := []) hs69 (fget_ok (h := ((comeE l)[k]'hlt).1) (layOf_w hsm hh).1.1 (hn28.up (le44.trans le50)) ((come_hh hh) _ (List.getElem_mem hlt)) hk) (by kernel_rfl) rfl rfl rfl rfl rfl ?_
      rintro _ G5 X1 w77 ⟨xv75, rfl, hx76⟩ le80 hs78 hid79
      obtain rfl : X1 = [] := List.map_eq_nil_iff.1 hid79
      replace hs78 : St w0 I (ids []) G5 [⟨b63, #[.int .u64 ((((comeE l)[k]'hlt).1 : Nat) : Int), kv, xv], 58⟩] w77 := hs78
      clear hs69 hid79
      refine hK74 _ _ ?_; clear hK74 K73
      refine sq (r_move rfl) rfl ?_
      refine sq (r_extract rfl rfl rfl) rfl ?_
      refine sq (r_extract rfl rfl rfl) rfl ?_
      refine sq (r_assign rfl) rfl ?_
      refine sq (r_assign rfl) rfl ?_
      refine wl_nil ?_
      refine hK71 _ _ ?_; (try clear hK71 K70)
      refine wp_seq_k fun K81 hK82 => ?_
      refine wp_seq_k fun K83 hK84 => ?_
      refine wl_begin ?_
      refine sq (r_move rfl) rfl ?_
      refine sq (r_not rfl rfl) rfl ?_
      refine sq (r_move rfl) rfl ?_
      refine sqG (wantedT rfl rfl rfl (congrArg Value.bool (congrArg Bool.not (show ((N.look ((comeE l)[k]'hlt).1 ((comeE l)[k]'hlt).2.1 (layOf l) 0).isSome) = true by rw [all_found hlt hsm hh, if_pos rfl]; rfl)))) (r_move rfl) rfl ?_
      refine sqG (wantedT rfl rfl rfl (congrArg Value.bool (congrArg Bool.not (show ((N.look ((comeE l)[k]'hlt).1 ((comeE l)[k]'hlt).2.1 (layOf l) 0).isSome) = true by rw [all_found hlt hsm hh, if_pos rfl]; rfl)))) (r_bytesStr (e := 5) rfl (by kernel_rfl) (by kernel_rfl) rfl hx76 (fun _ _ z => hs78.imm z)) rfl ?_
      refine sqG (wantedT rfl rfl rfl (congrArg Value.bool (congrArg Bool.not (show ((N.look ((comeE l)[k]'hlt).1 ((comeE l)[k]'hlt).2.1 (layOf l) 0).isSome) = true by rw [all_found hlt hsm hh, if_pos rfl]; rfl)))) (r_fieldAddr (off := 1) rfl (by kernel_rfl) rfl) rfl ?_
      refine sqG (wantedT rfl rfl rfl (congrArg Value.bool (congrArg Bool.not (show ((N.look ((comeE l)[k]'hlt).1 ((comeE l)[k]'hlt).2.1 (layOf l) 0).isSome) = true by rw [all_found hlt hsm hh, if_pos rfl]; rfl)))) (r_fieldAddr (off := 1) rfl (by kernel_rfl) rfl) rfl ?_
      refine sqG (wantedT rfl rfl rfl (congrArg Value.bool (congrArg Bool.not (show ((N.look ((comeE l)[k]'hlt).1 ((comeE l)[k]'hlt).2.1 (layOf l) 0).isSome) = true by rw [all_found hlt hsm hh, if_pos rfl]; rfl)))) (r_load rfl (by kernel_rfl) rfl (hs78.box (.head _)) rfl) rfl ?_
      refine sqG (wantedT rfl rfl rfl (congrArg Value.bool (congrArg Bool.not (show ((N.look ((comeE l)[k]'hlt).1 ((comeE l)[k]'hlt).2.1 (layOf l) 0).isSome) = true by rw [all_found hlt hsm hh, if_pos rfl]; rfl)))) (r_bytesStr (e := 5) rfl (by kernel_rfl) (by kernel_rfl) rfl (hx.up le80) (fun _ _ z => hs78.imm z)) rfl ?_
      refine sqG (wantedT rfl rfl rfl (congrArg Value.bool (congrArg Bool.not (show ((N.look ((comeE l)[k]'hlt).1 ((comeE l)[k]'hlt).2.1 (layOf l) 0).isSome) = true by rw [all_found hlt hsm hh, if_pos rfl]; rfl)))) (r_nestr rfl rfl rfl rfl) rfl ?_
      refine sq (r_pick rfl rfl rfl (congrArg Value.bool (congrArg Bool.not (show ((N.look ((comeE l)[k]'hlt).1 ((comeE l)[k]'hlt).2.1 (layOf l) 0).isSome) = true by rw [all_found hlt hsm hh, if_pos rfl]; rfl)))) rfl ?_
      refine wl_nil ?_
      refine hK84 _ _ ?_; (try clear hK84 K83)
      refine condF rfl (congrArg Value.bool (congrArg Bool.not (decide_eq_true (p := ((N.look ((comeE l)[k]'hlt).1 ((comeE l)[k]'hlt).2.1 (layOf l) 0).getD []) = ((comeE l)[k]'hlt).2.2) (by rw [all_found hlt hsm hh, if_pos rfl]; rfl)))) ?_
      refine wp_skip ?_
      refine hK82 _ _ ?_; (try clear hK82 K81)
      refine wp_seq_k fun K85 hK86 => ?_
      refine nrm (vals := [(0, .slice ad l.length cap), (1, .int .u64 ((oh : Nat) : Int)), (5, v27), (7, .pointer (some ⟨b63, 0, none⟩)), (8, xv75), (9, .bool ((N.look ((comeE l)[k]'hlt).1 ((comeE l)[k]'hlt).2.1 (layOf l) 0).isSome)), (14, .bool (!(smallE l 40))), (19, .slice (some ⟨b, off, none⟩) (comeE l).length ccap), (20, .int .i64 (((comeE l).length : Nat) : Int)), (21, .int .i64 ((k : Nat) : Int)), (22, .bool (decide (((k : Nat) : Int) < (((comeE l).length : Nat) : Int)))), (45, .bool (!(decide (((N.look ((comeE l)[k]'hlt).1 ((comeE l)[k]'hlt).2.1 (layOf l) 0).getD []) = ((comeE l)[k]'hlt).2.2))))]) (.cons rfl (.cons rfl (.cons rfl (.cons rfl (.cons rfl (.cons rfl (.cons rfl (.cons rfl (.cons rfl (.cons rfl (.cons rfl (.cons rfl .nil)))))))))))) fun g87 => ?_
      refine wl_begin ?_
      refine sq (r_move rfl) rfl ?_
      refine sq (r_move rfl) rfl ?_
      refine sq (r_fieldAddr (off := 1) rfl (by kernel_rfl) rfl) rfl ?_
      refine sq (r_fieldAddr (off := 0) rfl (by kernel_rfl) rfl) rfl ?_
      refine sq (r_load rfl (by kernel_rfl) rfl (hs78.box (.head _)) rfl) rfl ?_
      refine sqo rfl fun K88 hK89 => ow_call (X := []) (L := [⟨b63, #[.int .u64 ((((comeE l)[k]'hlt).1 : Nat) : Int), kv, xv], 58⟩]) (lb := []) hs78 (fget_ok (h := oh) (layOf_w hsm hh).1.1 (hn28.up ((le44.trans le50).trans le80)) hoh (hk.up le80)) (by kernel_rfl) rfl rfl rfl rfl rfl ?_
      rintro _ G6 X1 w92 ⟨xv90, rfl, hx91⟩ le95 hs93 hid94
      obtain rfl : X1 = [] := List.map_eq_nil_iff.1 hid94
      replace hs93 : St w0 I (ids []) G6 [⟨b63, #[.int .u64 ((((comeE l)[k]'hlt).1 : Nat) : Int), kv, xv], 58⟩] w92 := hs93
      clear hs78 hid94
      refine hK89 _ _ ?_; clear hK89 K88
      refine sq (r_move rfl) rfl ?_
      refine sq (r_extract rfl rfl rfl) rfl ?_
      refine sq (r_extract rfl rfl rfl) rfl ?_
      refine sq (r_assign rfl) rfl ?_
      refine sq (r_assign rfl) rfl ?_
      refine wl_nil ?_
      refine hK86 _ _ ?_; (try clear hK86 K85)
      refine wp_seq_k fun K96 hK97 => ?_
      refine wl_begin ?_
      refine sq (r_move rfl) rfl ?_
      refine sq (r_move rfl) rfl ?_
      refine sq (r_fieldAddr (off := 0) rfl (by kernel_rfl) rfl) rfl ?_
      refine sq (r_load rfl (by kernel_rfl) rfl (hs93.box (.head _)) rfl) rfl ?_
      refine sq (r_eqN (a := oh) (b := ((comeE l)[k]'hlt).1) rfl rfl rfl rfl) rfl ?_
      refine sq (r_neb rfl rfl (by kernel_rfl) rfl rfl) rfl ?_
      refine wl_nil ?_
      refine hK97 _ _ ?_; (try clear hK97 K96)
      refine condF rfl (congrArg Value.bool (congrArg Bool.not (show (((N.look oh ((comeE l)[k]'hlt).2.1 (layOf l) 0).isSome) == (decide (oh = ((comeE l)[k]'hlt).1))) = true by rw [all_found hlt hsm hh]; exact found_iff))) ?_
      refine wp_skip ?_
      refine hK58 _ _ ?_; (try clear hK58 K57)
      refine nrm (vals := [(0, .slice ad l.length cap), (1, .int .u64 ((oh : Nat) : Int)), (5, v27), (7, .pointer (some ⟨b63, 0, none⟩)), (8, xv75), (9, .bool ((N.look ((comeE l)[k]'hlt).1 ((comeE l)[k]'hlt).2.1 (layOf l) 0).isSome)), (11, .bool ((N.look oh ((comeE l)[k]'hlt).2.1 (layOf l) 0).isSome)), (14, .bool (!(smallE l 40))), (19, .slice (some ⟨b, off, none⟩) (comeE l).length ccap), (20, .int .i64 (((comeE l).length : Nat) : Int)), (21, .int .i64 ((k : Nat) : Int)), (22, .bool (decide (((k : Nat) : Int) < (((comeE l).length : Nat) : Int)))), (45, .bool (!(decide (((N.look ((comeE l)[k]'hlt).1 ((comeE l)[k]'hlt).2.1 (layOf l) 0).getD []) = ((comeE l)[k]'hlt).2.2)))), (60, .bool (!(((N.look oh ((comeE l)[k]'hlt).2.1 (layOf l) 0).isSome) == (decide (oh = ((comeE l)[k]'hlt).1)))))]) (.cons rfl (.cons rfl (.cons rfl (.cons rfl (.cons rfl (.cons rfl (.cons rfl (.cons rfl (.cons rfl (.cons rfl (.cons rfl (.cons rfl (.cons rfl (.cons rfl .nil)))))))))))))) fun g98 => ?_
      refine wl_begin ?_
      refine sq (r_addi rfl rfl rfl rfl (by omega)) rfl ?_
      refine sq (r_move rfl) rfl ?_
      refine wl_nil ?_
      have hs99 : St w0 I (ids []) G6 [] w92 := hs93.drop
      exact ⟨_, _, rfl, ⟨_, (k + 1), G6, rfl, updL_self (.cons rfl (.cons rfl (.cons rfl (.cons rfl (.cons rfl (.cons rfl (.cons rfl .nil))))))), ((le50.trans le80).trans le95), (by omega), hs99⟩, (by omega)⟩
    ·
      have p100 := of_decide_eq_false h55
      obtain rfl : k = (comeE l).length := by omega
      refine wp_exit ?_
      refine hK34 _ _ ?_; (try clear hK34 K33)
      refine wp_seq_k fun K101 hK102 => ?_
      refine wl_begin ?_
      refine sqo rfl fun K103 hK104 => ow_call (X := []) (L := []) (lb := []) hs49 (awake18_ok (ht.up ((le32.trans le44).trans le50))) (by kernel_rfl) rfl rfl rfl rfl rfl ?_
      rintro _ G7 X1 w105 rfl le108 hs106 hid107
      obtain rfl : X1 = [] := List.map_eq_nil_iff.1 hid107
      replace hs106 : St w0 I (ids []) G7 [] w105 := hs106
      clear hs49 hid107
      refine hK104 _ _ ?_; clear hK104 K103
      refine sq (r_assign rfl) rfl ?_
      refine wl_nil ?_
      refine hK102 _ _ ?_; (try clear hK102 K101)
      refine wp_ret ?_
      exact leave (X' := []) (L := []) hs106 rfl (res_one (v := .bool true) rfl (.tmp rfl rfl .nil)) rfl
end Go.Proofs.YtlnlodfnplkckaaDoor
/- The closing of the rows of layouts: entries read; the row and the card of FindAll. The conditions stand in the given rows. -/
namespace Go.Proofs.YtlnlodfnplkckaaDoor
open Go Go.ChangeShapes Go.WideShapes Go.ChangeAt Go.RowKit
set_option linter.unusedVariables false
section
variable {H : Type} {enc : TypeId × Value → H} {P : Program} {W W' : World} {base : Nat} {sp : Nat → Bool} {held : Bool}
theorem entcells_of {I : GH} : ∀ (len : Nat) (V : Nat → Value), (∀ i, i < len → ∃ (op : Nat × Bs × Bs), V (i * 3) = .int .u64 ((op.1 : Nat) : Int) ∧ BytesAt I (V (i * 3 + 1)) op.2.1 ∧ BytesAt I (V (i * 3 + 2)) op.2.2 ∧ op.1 < 2 ^ 64) →
    ∃ l : EL, l.length = len ∧ EntCells I ((List.range (len * 3)).map V) l ∧ ∀ p ∈ l, p.1 < 2 ^ 64
  | 0, V, _ => ⟨[], rfl, trivial, fun p hp => (nomatch hp)⟩
  | len + 1, V, h => by
    obtain ⟨op, h1, h2, h3, h0⟩ := h 0 (by omega)
    obtain ⟨l, h4, h5, h6⟩ := entcells_of len (fun j => V (j + 3)) fun i hi => by
      obtain ⟨op, h1, h2, h3, h0⟩ := h (i + 1) (by omega)
      refine ⟨op, ?_, ?_, ?_, h0⟩
      · rw [show i * 3 + 3 = (i + 1) * 3 by omega]; exact h1
      · rw [show i * 3 + 1 + 3 = (i + 1) * 3 + 1 by omega]; exact h2
      · rw [show i * 3 + 2 + 3 = (i + 1) * 3 + 2 by omega]; exact h3
    refine ⟨op :: l, by rw [List.length_cons, h4], ?_, fun p hp => ?_⟩
    · have e : (List.range ((len + 1) * 3)).map V = V 0 :: V 1 :: V 2 :: (List.range (len * 3)).map fun j => V (j + 3) := by
        rw [show (len + 1) * 3 = len * 3 + 1 + 1 + 1 by omega, List.range_succ_eq_map, List.range_succ_eq_map, List.range_succ_eq_map]
        simp only [List.map_cons, List.map_map]
        rfl
      rw [e]
      exact ⟨h1, h2, h3, h5⟩
    · rcases List.mem_cons.1 hp with rfl | hp
      · exact h0
      · exact h6 p hp
theorem u64_nat {z : Int} (h : (Lit.int .u64 z).wf = true) : z = ((z.toNat : Nat) : Int) ∧ z.toNat < 2 ^ 64 := by
  have := bounds_u64 h
  omega
theorem ents_trod {t e tp tb u : TypeId} {f0 f1 q0 q1 : Field} {fuel : Nat} {cs : List Value} {x : DataW H × List MemPlace} (ht : P.underlying t = some (.slice e)) (he : P.underlying e = some (.struct #[f0, f1])) (hc : P.cellsOf e = 3)
    (h0 : P.underlying f0.type = some (.int .u64)) (h0c : P.cellsOf f0.type = 1) (h0o : f0.offset = 0) (h1 : f1.type = tp) (h1o : f1.offset = 1) (hp : P.underlying tp = some (.struct #[q0, q1])) (hpc : P.cellsOf tp = 2)
    (k0 : q0.type = tb) (k0o : q0.offset = 0) (k1 : q1.type = tb) (k1o : q1.offset = 1) (hb : P.underlying tb = some (.slice u)) (hbc : P.cellsOf tb = 1) (hu : P.underlying u = some (.int .u8)) (huc : P.cellsOf u = 1) (h : DataW.trod enc P W base sp held fuel t cs = some x) :
    ∃ v l, cs = [v] ∧ EntAt (ghostOf W) v l ∧ l.length ≤ maxLen ∧ ∀ p ∈ l, p.1 < 2 ^ 64 := by
  rcases Go.Deep.open_slice ht h with ⟨rfl, _⟩ | ⟨a, len, cap, m, n, D, Pl, rfl, _, hlc, hcm, hm, _, hel⟩
  · exact ⟨_, [], rfl, EntAt.nil _, Nat.zero_le _, fun p hp => (nomatch hp)⟩
  · have hlm : len ≤ m := by rw [hm]; split <;> omega
    rw [hc] at hel
    have hop : ∀ i, i < len → ∃ (op : Nat × Bs × Bs) (kv xv : Value), W.cells? base (a.add (i * 3)) 3 = some [.int .u64 ((op.1 : Nat) : Int), kv, xv] ∧ BytesAt (ghostOf W) kv op.2.1 ∧ BytesAt (ghostOf W) xv op.2.2 ∧ op.1 < 2 ^ 64 := fun i hi => by
      obtain ⟨cs', g1, g2⟩ := hel i (by omega)
      obtain ⟨xs, q, _, _, hl, hx, hf⟩ := DataW.trod_struct he g2
      rw [hc] at hl
      have hx2 : xs.length = 2 := hx
      match cs', hl with
      | [c0, c1, c2], _ =>
        have m0 := hf 0 f0 rfl
        have m1 := hf 1 f1 rfl
        rw [h0o, h0c, List.getElem?_eq_getElem (by omega)] at m0
        rw [h1, h1o, hpc, List.getElem?_eq_getElem (by omega)] at m1
        obtain ⟨z, e0, _, hw⟩ := DataW.trod_int h0 m0
        obtain ⟨ys, q2, _, _, hl2, hy, hf2⟩ := DataW.trod_struct hp m1
        have hy2 : ys.length = 2 := hy
        have n0 := hf2 0 q0 rfl
        have n1 := hf2 1 q1 rfl
        rw [k0, k0o, hbc, List.getElem?_eq_getElem (by omega)] at n0
        rw [k1, k1o, hbc, List.getElem?_eq_getElem (by omega)] at n1
        obtain ⟨kv, k, e1, hk⟩ := bytes_trod hb hu huc n0
        obtain ⟨xv, y, e2, hy⟩ := bytes_trod hb hu huc n1
        simp at e0 e1 e2
        subst e0; subst e1; subst e2
        obtain ⟨w1, w2⟩ := u64_nat hw
        exact ⟨(z.toNat, k, y), _, _, by rw [← w1]; exact g1, hk, hy, w2⟩
    have hcell : ∀ j, j < len * 3 → W.cell? (a.add j) = some ((W.cell? (a.add j)).getD .nilIface) := fun j hj => by
      obtain ⟨op, kv, xv, g1, _, _⟩ := hop (j / 3) (by omega)
      have := (World.cells?_some g1).2.2 (j % 3) (by omega)
      rw [add_add, show j / 3 * 3 + j % 3 = j by omega] at this
      have h3 : j % 3 < 3 := by omega
      rw [this, List.getElem?_eq_getElem (by simpa using h3)]
      rfl
    obtain ⟨l, hl, hcs, hhh⟩ := entcells_of (I := ghostOf W) len (fun j => (W.cell? (a.add j)).getD .nilIface) fun i hi => by
      obtain ⟨op, kv, xv, g1, g2, g3, g4⟩ := hop i hi
      have c := (World.cells?_some g1).2.2
      have c0 := c 0 (by omega)
      have c1 := c 1 (by omega)
      have c2 := c 2 (by omega)
      rw [add_add] at c0 c1 c2
      refine ⟨op, ?_, ?_, ?_, g4⟩
      · rw [show W.cell? (a.add (i * 3)) = _ from c0]; rfl
      · rw [c1]; exact g2
      · rw [c2]; exact g3
    refine ⟨_, l, rfl, ⟨_, ⟨some a, cap, by rw [hl], by rw [hl]; exact hlc, (fun h => nomatch h), by rw [hl]; simp, fun hne => ?_⟩, hcs⟩, by rw [hl]; omega, hhh⟩
    have hpos : 0 < len * 3 := Nat.pos_of_ne_zero fun e => hne (by rw [e]; rfl)
    obtain ⟨b, off, C, T, fz, rfl, hb, hr⟩ := row_at hpos hcell
    exact ⟨b, off, C, T, fz, rfl, ghostOf_at hb, by rw [hl]; exact hr⟩
end
theorem own_knob1 : ownKnob Tryd.prog.godebug = none := by kernel_rfl
theorem tab_glob1 : Tryd.prog.globalNamed "math/bits.deBruijn32tab" = some 1 := by kernel_rfl
def gty1 (P : Program) (g : Nat) : TypeId := ((P.globals[g]?).map (·.type)).getD 0
theorem var_heap1 {P : Program} {W : World} {n : String} {g : Nat} {cs : Array Value} (hg : P.globalNamed n = some g) (h : W.var? P n = some cs) : ∃ T fz, W.heap[g]? = some (.cells cs T fz) := by
  unfold World.var? at h
  rw [hg] at h
  simp only [Option.bind_some] at h
  split at h
  · rename_i c T fz he
    cases h
    exact ⟨T, fz, he⟩
  · cases h
def tabL1 : List Int := [0, 1, 28, 2, 29, 14, 24, 3, 30, 22, 20, 15, 25, 17, 4, 8, 31, 27, 13, 23, 21, 19, 16, 7, 26, 12, 18, 6, 11, 5, 10, 9]
theorem tab_of1 {H : Type} {enc : TypeId × Value → H} {W : World} {fuel : Nat} {cs : Array Value} {base : Nat} {sp : Nat → Bool} {held : Bool} {p : List MemPlace} (hv : W.var? Tryd.prog "math/bits.deBruijn32tab" = some cs)
    (hd : DataW.trod enc Tryd.prog W base sp held fuel (gty1 Tryd.prog 1) cs.toList = some (.agg (tabL1.map fun n => .lit (.int .u8 n)), p)) : TabG (ghostOf W) := by
  obtain ⟨T, fz, hb⟩ := var_heap1 tab_glob1 hv
  have e := lits_trod (P := Tryd.prog) (e := 5) (ns := tabL1) (by kernel_rfl) (by kernel_rfl) (by kernel_rfl) (by kernel_rfl) hd
  refine ⟨cs, T, fz, ghostOf_at hb, fun j hj => ?_⟩
  rw [← Array.getElem?_toList, e]
  have h : ∀ j, j < 32 → tabL1[j]? = some ((Go.Lib.deBruijn32tab.getD j 0 : Nat) : Int) := by decide
  rw [List.getElem?_map, h j hj]; rfl
theorem met_of1 {W : World} (h : laidMetH Tryd.prog Rows.findAllRow.laid W) : TabG (ghostOf W) := by
  rw [MakeChecks.laidMetH_plain _ _ _ (by kernel_rfl)] at h
  obtain ⟨ps, ⟨g0, t0, cs0, f0, p0, q0, hg0, ht0, hv0, hd0, _, _⟩, _, _⟩ := h
  obtain rfl := Option.some.inj (tab_glob1.symm.trans hg0)
  have e0 : t0 = gty1 Tryd.prog 1 := by unfold gty1; rw [ht0]; rfl
  subst e0
  exact tab_of1 hv0 hd0
theorem door_met1 (os : Os) (args : Array Value) : laidMetH Tryd.prog Rows.findAllRow.laid ((World.doorLaid Tryd.prog 400 os).forCall (fun _ _ => 0) ⟨#[], args, []⟩).memory :=
  laidMetH_of_parts3 (fuel := 8) (laidMet_of_run' 8 (by kernel_rfl) (by kernel_rfl)) (by kernel_rfl) (by kernel_rfl)
set_option maxRecDepth 100000 in
theorem findAll_lifted (os : Os) (started : os.Started) (H : Type) (enc : TypeId × Value → H) :
    ReturnsInHanded {} Tryd.checked os 6 .any (fun w args => (Rows.findAllSpec.pre enc Tryd.prog Tryd.f6 [] false w args ∧ laidMetH Tryd.prog Rows.findAllRow.laid w) ∧ sizedMet enc Tryd.prog Tryd.f6 (OpenSpec.ofChange Rows.findAllSpec) false w args)
      (Rows.findAllSpec.post enc Tryd.prog Tryd.f6 false true false false) := by
  refine returnsInHanded_of_change_and (C := Tryd.checked) (X := fun w _ => laidMetH Tryd.prog Rows.findAllRow.laid w) (fun _ _ _ hh h => h.of_heap hh) own_knob1 started (by kernel_rfl) Tryd.func6
    (ChangeSpec.witness_shaped (enc := enc) (C := Tryd.checked) (os := os) (X := fun w _ => laidMetH Tryd.prog Rows.findAllRow.laid w) false (World.doorLaid Tryd.prog 400 os) #[.slice none 0 0, .int .u64 0] 8 rfl (World.shaped_of_RefB (by kernel_rfl) (by kernel_rfl)) (by kernel_rfl) (by kernel_rfl) (by kernel_rfl) (door_met1 os _)) ?_
  intro W base args ds gs before hval0 hW _ _ hL _
  have hval : ∀ (j : Nat) t v, Tryd.f6.params[j]? = some t → args[j]? = some v → Value.okWide Tryd.prog W .any base t v := hval0
  have hW' := hW
  obtain ⟨p, q, hA0, hV, rfl, hfz, hnd⟩ := hW
  have hA : DataW.TrodAll enc Tryd.prog W 0 (fun _ => true) true Tryd.f6.params.toList args.toList ds p := hA0
  obtain ⟨rfl, rfl⟩ := trodVars_none hV
  have hA2 := hA
  rw [Tryd.params6] at hA2 hval
  obtain ⟨v0, v1, d0, d1, p0, p1, rfl, rfl, rfl, ⟨n0, h0⟩, ⟨n1, h1⟩⟩ := trodAll_two hA2
  have ht := met_of1 hL
  obtain ⟨v, l, hv, hents, hlen, hh⟩ := ents_trod (P := Tryd.prog) (e := 58) (tp := 56) (tb := 33) (u := 5) Tryd.underlying44 Tryd.underlying58 (by kernel_rfl) (by kernel_rfl) (by kernel_rfl) rfl rfl rfl Tryd.underlying56 (by kernel_rfl) rfl rfl rfl rfl (by kernel_rfl) (by kernel_rfl) (by kernel_rfl) (by kernel_rfl) h0
  obtain ⟨a1, c1, rfl⟩ := hents.slc
  obtain ⟨a2, len2, c2, rfl⟩ := okWide_slice Tryd.underlying44 (hval 0 44 v0 rfl rfl)
  have hv2 : [Value.slice a2 len2 c2] = [Value.slice a1 l.length c1] := hv
  rw [List.cons.injEq, Value.slice.injEq] at hv2
  obtain ⟨⟨rfl, rfl, rfl⟩, -⟩ := hv2
  obtain ⟨z, rfl, hz⟩ : ∃ z : Int, v1 = .int .u64 z ∧ (Lit.int .u64 z).wf = true := by
    obtain ⟨z, e1, _, hw⟩ := DataW.trod_int (P := Tryd.prog) (k := .u64) Tryd.underlying50 h1
    have := hval 1 50 v1 rfl rfl
    obtain ⟨z', e, _⟩ := open_int Tryd.underlying50 this ⟨n1, h1⟩
    refine ⟨z', e, ?_⟩
    subst e
    have e2 : [Value.int .u64 z'] = [Value.int .u64 z] := e1
    simp only [List.cons.injEq, Value.int.injEq, true_and, and_true] at e2
    rw [e2]; exact hw
  obtain ⟨oh, rfl, w2⟩ : ∃ oh : Nat, z = (oh : Int) ∧ oh < 2 ^ 64 := ⟨_, u64_nat hz⟩
  have hpre := hW'
  refine (findall_ok (l := l) (oh := oh) ht hents (Nat.le_trans hlen (by decide)) hh w2).call.mono fun e W' ⟨v, J, X', he, hfr, hr⟩ => ?_
  subst he; subst hr
  refine ⟨_, rfl, ?_⟩
  have hargs := args_old (P := Tryd.prog) (enc := enc) (by kernel_rfl) (by kernel_rfl) (by kernel_rfl) (ts := Tryd.f6.params.toList) (by rw [Tryd.params6]; decide) hfr hA
  exact post_of_old hpre (fun _ _ _ => trodAll_mk1 (shut_bool Tryd.underlying4 _)) (pa := p0 ++ p1) (pv := []) (fun sp h => hargs sp fun x hx => h x (List.mem_append_left _ hx)) (fun _ _ => rfl) rfl (World.keptBut_mono (fun _ h => h.elim) hfr.kept) hfr.frozen (ok_one (by kernel_rfl) rfl (okWide_bool_mk Tryd.underlying4 _))
end Go.Proofs.YtlnlodfnplkckaaDoor
/- The card of FindAll. Its conditions stand in the given row. -/
namespace Go.Proofs.YtlnlodfnplkckaaDoor
open Go
theorem findAll_holds : Rows.FindAllSaid :=
  OpenClaim.holds_of_wide 6 Tryd.f6 rfl rfl rfl rfl rfl rfl rfl ⟨rfl, rfl, rfl, rfl, rfl⟩ rfl rfl rfl rfl rfl (by kernel_rfl) Tryd.func6 (by kernel_rfl)
    (of_decide_eq_true (by kernel_rfl)) (by unfold Func.isWrapper; first | (rw [if_pos (by decide +kernel)]; kernel_rfl) | (rw [if_neg (by decide +kernel)]; exact ⟨rfl, rfl⟩))
    (fun os started H enc _ => findAll_lifted os started H enc)
theorem findAll_card : Rows.FindAllCardSaid :=
  Claim7.holds_tied_plain_at .later [] [.data] true (true, "0c11890754ca5680bd702c01b883689b5a44bf3f1cb060dc5b54e632a3cd157e") true
    findAll_holds (fun _ h => by cases h) (by kernel_rfl) (fun _ h => by cases h) findAll_row_tie rfl ⟨rfl, rfl⟩ (by kernel_rfl) rfl
    (fun f fn hf hfn => by
      obtain rfl : f = 6 := Option.some.inj ((show Tryd.prog.funcNamed "brushwood/brushwoodlaw18.FindAll" = some 6 by kernel_rfl).symm.trans hf) |>.symm
      obtain rfl : fn = Tryd.f6 := (Option.some.inj (Tryd.func6.symm.trans hfn)).symm
      exact ⟨by kernel_rfl, fun j t ht => by
        rw [Tryd.params6] at ht
        have hm : t ∈ [44, 50] := by simpa using Array.mem_of_getElem? ht
        have hall : ([44, 50].all fun u => !Tryd.prog.wantsStandIn u) = true := by kernel_rfl
        exact (show Tryd.prog.wantsStandIn t = false by simpa using List.all_eq_true.1 hall t hm)⟩)
    (by kernel_rfl)
end Go.Proofs.YtlnlodfnplkckaaDoor
