/- Texts of the walk, laid together. Each theorem's conditions stand in it. -/
import Derived.Test.YtlnlodfnplkckaaDoorM3
/- The contract of node.Branch. -/
namespace Go.Proofs.YtlnlodfnplkckaaDoor
set_option linter.unusedVariables false
set_option linter.unusedSimpArgs false
theorem St.freezeB {w0 w : World} {I0 I : GH} {L : List Bx} {x : Bx} (h : St w0 I0 (ids []) I (x :: L) w) : ∃ J, I.le J ∧ St w0 I0 (ids []) J L w ∧ J x.b = some (.cells x.cs x.T (0, 0)) := by
  obtain ⟨h1, h2⟩ := h.freeze (St.own_ge h)
  exact ⟨_, h2, h1, GH.add_same _ _ _⟩
namespace N
def isN : N → Bool
  | .none => true
  | _ => false
/-- What node.Branch makes. -/
def mk (m : Nat) (kids : List N) : N := if kids.length = 0 ∨ kids.length ≠ (bitsL m).length ∨ kids.any isN = true then .none else .branch m kids
end N
theorem NodeAt.isN {I : GH} {v : Value} {n : N} (h : NodeAt I v n) : isNilIf v = n.isN := by
  cases n with
  | none => rw [show v = .nilIface from h]; rfl
  | leaf h k x => obtain ⟨b, kv, xv, rfl, _⟩ := h; rfl
  | bucket h t => obtain ⟨b, p, rfl, _⟩ := h; rfl
  | branch m kids => obtain ⟨b, sv, vs, rfl, _⟩ := h; rfl
theorem N.isN_iff {n : N} : n.isN = true ↔ n = .none := by cases n <;> simp [N.isN]
theorem N.ne_of {n : N} (h : n.isN = false) : n ≠ .none := fun e => by rw [e] at h; cases h
theorem N.sizes_take {kids : List N} {k : Nat} (h : k < kids.length) : N.sizes (kids.take (k + 1)) = N.sizes (kids.take k) + kids[k].size := by
  induction kids generalizing k with
  | nil => simp at h
  | cons n l ih =>
    cases k with
    | zero => simp [N.sizes]
    | succ k =>
      have := ih (k := k) (by simpa using h)
      simp only [List.take_succ_cons, N.sizes, List.getElem_cons_succ]
      omega
theorem N.sizes_le {kids : List N} (k : Nat) : N.sizes (kids.take k) ≤ N.sizes kids := by
  induction kids generalizing k with
  | nil => simp
  | cons n l ih =>
    cases k with
    | zero => simp [N.sizes]
    | succ k =>
      have := ih k
      simp only [List.take_succ_cons, N.sizes]
      omega
/-- Each element of a slice of nodes. -/
theorem nodes_all {I : GH} {sv : Value} {kids : List N} {vs : List Value} (hs : SliceAt I sv kids.length 1 vs) (hk : NodesAt I vs kids) (h0 : kids.length ≠ 0) :
    ∃ b off cap cs T fz, sv = .slice (some ⟨b, off, none⟩) kids.length cap ∧ I b = some (.cells cs T fz) ∧ ∀ i, (hi : i < kids.length) → ∃ u, cs[off + i * 1]? = some u ∧ NodeAt I u kids[i] := by
  obtain ⟨b, off, cap, cs, T, fz, u, rfl, hb, _, _⟩ := nodes_at hs hk (i := 0) (by omega)
  refine ⟨b, off, cap, cs, T, fz, rfl, hb, fun i hi => ?_⟩
  obtain ⟨b', off', cap', cs', T', fz', u', e, hb', hu, hn⟩ := nodes_at hs hk hi
  cases e
  rw [hb] at hb'
  cases hb'
  exact ⟨u', hu, hn⟩
set_option maxRecDepth 100000 in
theorem branch_ok {I : GH} {m : Nat} (hm : m < 2 ^ 32) {sv : Value} {kids : List N} {vs : List Value} (hs : SliceAt I sv kids.length 1 vs) (hks : NodesAt I vs kids) (hlen : kids.length ≤ 1000) (hsz : N.sizes kids ≤ 1000000) :
    Fn Tryd.prog 87 #[.int .u32 ((m : Nat) : Int), sv] I [] (fun v J _ => NodeAt J v (N.mk m kids)) := by
  have hszle : ∀ k, N.sizes (kids.take k) ≤ 1000000 := fun k => Nat.le_trans (N.sizes_le k) hsz
  obtain ⟨sa, sc, rfl, _⟩ := id hs
  refine enter (args := [.int .u32 ((m : Nat) : Int), .slice sa kids.length sc]) Tryd.func87 rfl rfl fun w0 hs0 => ?_
  refine wp_seq_k fun K1 hK2 => ?_
  refine wl_begin ?_
  refine sq (r_assign rfl) rfl ?_
  refine wl_nil ?_
  refine hK2 _ _ ?_; (try clear hK2 K1)
  refine wp_seq_k fun K3 hK4 => ?_
  refine wp_seq_k fun K5 hK6 => ?_
  refine wl_begin ?_
  refine sq (r_move rfl) rfl ?_
  refine sq (r_lens rfl (by kernel_rfl) rfl) rfl ?_
  refine sq (r_eqi rfl rfl rfl rfl) rfl ?_
  refine sq (r_move rfl) rfl ?_
  refine bsplit (decide (((kids.length : Nat) : Int) = 0)) (fun h7 => ?_) (fun h7 => ?_)
  ·
    have p8 := of_decide_eq_true h7
    refine sqN (wantedF rfl rfl rfl (congrArg Value.bool h7)) rfl ?_
    refine sqN (wantedF rfl rfl rfl (congrArg Value.bool h7)) rfl ?_
    refine sqN (wantedF rfl rfl rfl (congrArg Value.bool h7)) rfl ?_
    refine sqN (wantedF rfl rfl rfl (congrArg Value.bool h7)) rfl ?_
    refine sqN (wantedF rfl rfl rfl (congrArg Value.bool h7)) rfl ?_
    refine sq (r_pick rfl rfl rfl (congrArg Value.bool h7)) rfl ?_
    refine wl_nil ?_
    refine hK6 _ _ ?_; (try clear hK6 K5)
    refine condT rfl rfl ?_
    refine wp_seq_k fun K9 hK10 => ?_
    refine wl_begin ?_
    refine sq (r_assign rfl) rfl ?_
    refine wl_nil ?_
    refine hK10 _ _ ?_; (try clear hK10 K9)
    refine wp_ret ?_
    exact leave (X' := []) (L := []) hs0 rfl (res_one (v := .nilIface) rfl (.tmp rfl rfl .nil)) (by rw [show N.mk m kids = .none from if_pos (by first | exact .inl (by omega) | exact .inr (.inl (by omega)))]; rfl)
  ·
    have p11 := of_decide_eq_false h7
    refine sqG (wantedT rfl rfl rfl (congrArg Value.bool h7)) (r_move rfl) rfl ?_
    refine sqG (wantedT rfl rfl rfl (congrArg Value.bool h7)) (r_lens rfl (by kernel_rfl) rfl) rfl ?_
    refine sqG (wantedT rfl rfl rfl (congrArg Value.bool h7)) (r_move rfl) rfl ?_
    refine sqoG (wantedT rfl rfl rfl (congrArg Value.bool h7)) fun K12 hK13 => ow_call (X := []) (L := []) (lb := []) hs0 (count_ok hm) (by kernel_rfl) rfl rfl rfl rfl rfl ?_
    rintro _ _ X1 w14 ⟨rfl, rfl⟩ - hs15 hid16
    obtain rfl : X1 = [] := List.map_eq_nil_iff.1 hid16
    replace hs15 : St w0 I (ids []) I [] w14 := hs15
    clear hs0 hid16
    refine hK13 _ _ ?_; clear hK13 K12
    refine sqG (wantedT rfl rfl rfl (congrArg Value.bool h7)) (r_nei rfl rfl rfl rfl) rfl ?_
    refine sq (r_pick rfl rfl rfl (congrArg Value.bool h7)) rfl ?_
    refine wl_nil ?_
    refine hK6 _ _ ?_; (try clear hK6 K5)
    refine condS rfl rfl (fun h17 => ?_) (fun h17 => ?_)
    ·
      have h18 : (decide (((kids.length : Nat) : Int) = (((bitsL m).length : Nat) : Int))) = false := by simpa using h17
      have p19 := of_decide_eq_false h18
      refine wp_seq_k fun K20 hK21 => ?_
      refine wl_begin ?_
      refine sq (r_assign rfl) rfl ?_
      refine wl_nil ?_
      refine hK21 _ _ ?_; (try clear hK21 K20)
      refine wp_ret ?_
      exact leave (X' := []) (L := []) hs15 rfl (res_one (v := .nilIface) rfl (.tmp rfl rfl .nil)) (by rw [show N.mk m kids = .none from if_pos (by first | exact .inl (by omega) | exact .inr (.inl (by omega)))]; rfl)
    ·
      have h22 : (decide (((kids.length : Nat) : Int) = (((bitsL m).length : Nat) : Int))) = true := by simpa using h17
      have p23 := of_decide_eq_true h22
      refine wp_skip ?_
      refine hK4 _ _ ?_; (try clear hK4 K3)
      refine wp_seq_k fun K24 hK25 => ?_
      have hne : kids.length ≠ 0 := by omega
      obtain ⟨kb, ko, kc, cs, KT, kfz, hse, hkb, hat⟩ := nodes_all hs hks hne
      cases hse
      refine wl_begin ?_
      refine sq (r_move rfl) rfl ?_
      refine sq (r_move rfl) rfl ?_
      refine sqo rfl fun K26 hK27 => ow_call (X := []) (L := []) (lb := []) hs15 (clonen_ok hs hks (by omega)) (by kernel_rfl) rfl rfl rfl rfl rfl ?_
      rintro cv28 G1 X1 w30 hc29 le33 hs31 hid32
      obtain rfl : X1 = [] := List.map_eq_nil_iff.1 hid32
      replace hs31 : St w0 I (ids []) G1 [] w30 := hs31
      clear hs15 hid32
      refine hK27 _ _ ?_; clear hK27 K26
      refine sq (r_build (.cons rfl rfl (.cons rfl (One.cells hc29.one) (.cons rfl rfl .nil))) (cells := #[.int .u32 ((m : Nat) : Int), cv28, .int .i64 0]) (by kernel_rfl)) rfl ?_
      refine sqo rfl fun K34 hK35 => ow_newbox (mk := fun b => .pointer (some ⟨b, 0, none⟩)) hs31 (r_box rfl rfl) rfl ?_
      rintro b36 w37 (hs38 : St w0 I (ids []) G1 [⟨b36, #[.int .u32 ((m : Nat) : Int), cv28, .int .i64 0], 137⟩] w37)
      clear hs31
      refine hK35 _ _ ?_; clear hK35 K34
      refine sq (r_assign rfl) rfl ?_
      refine wl_nil ?_
      refine hK25 _ _ ?_; (try clear hK25 K24)
      refine wp_seq_k fun K39 hK40 => ?_
      refine wp_seq_k fun K41 hK42 => ?_
      refine nrm (vals := [(0, .int .u32 ((m : Nat) : Int)), (1, .slice (some ⟨kb, ko, none⟩) kids.length sc), (4, .nilIface), (5, .pointer (some ⟨b36, 0, none⟩)), (17, .bool (!(decide (((kids.length : Nat) : Int) = (((bitsL m).length : Nat) : Int)))))]) (.cons rfl (.cons rfl (.cons rfl (.cons rfl (.cons rfl .nil))))) fun g43 => ?_
      refine wl_begin ?_
      refine sq (r_move rfl) rfl ?_
      refine sq (r_lens rfl (by kernel_rfl) rfl) rfl ?_
      refine sq (r_move rfl) rfl ?_
      refine wl_nil ?_
      refine hK42 _ _ ?_; (try clear hK42 K41)
      refine wp_block ?_
      refine lp (σ := Nat) (fun m45 f46 w47 => ∃ (g44 : Nat → Value) (k : Nat), m45 = kids.length - k ∧ f46 = updL g44 [(0, .int .u32 ((m : Nat) : Int)), (1, .slice (some ⟨kb, ko, none⟩) kids.length sc), (5, .pointer (some ⟨b36, 0, none⟩)), (17, .bool (!(decide (((kids.length : Nat) : Int) = (((bitsL m).length : Nat) : Int))))), (23, .slice (some ⟨kb, ko, none⟩) kids.length sc), (24, .int .i64 ((kids.length : Nat) : Int)), (25, .int .i64 ((k : Nat) : Int))] ∧ (k ≤ kids.length) ∧ (∀ i, (hi : i < kids.length) → i < k → (kids[i]'hi).isN = false) ∧ St w0 I (ids []) G1 [⟨b36, #[.int .u32 ((m : Nat) : Int), cv28, .int .i64 ((N.sizes (kids.take k) : Nat) : Int)], 137⟩] w47) (fun m => m) (kids.length) ⟨_, 0, rfl, updL_self (.cons rfl (.cons rfl (.cons rfl (.cons rfl (.cons rfl (.cons rfl (.cons rfl .nil))))))), (Nat.zero_le _), (fun i _ h => by omega), hs38⟩ ?_
      clear hs38
      rintro m45 f46 w47 ⟨g44, k, rfl, rfl, hkl, hnn, hs48⟩
      refine wp_seq_k fun K49 hK50 => ?_
      refine wl_begin ?_
      refine sq (r_lti rfl rfl rfl rfl) rfl ?_
      refine wl_nil ?_
      refine hK50 _ _ ?_; (try clear hK50 K49)
      refine wp_seq_k fun K51 hK52 => ?_
      refine condS rfl rfl (fun h53 => ?_) (fun h53 => ?_)
      ·
        have p54 := of_decide_eq_true h53
        have hlt : k < kids.length := by omega
        obtain ⟨u, hu, hun⟩ := hat k hlt
        have hq1 := N.sizes_take hlt
        have hq2 := hszle (k + 1)
        refine wp_skip ?_
        refine hK52 _ _ ?_; (try clear hK52 K51)
        refine wp_seq_k fun K55 hK56 => ?_
        refine wp_block ?_
        refine wp_seq_k fun K57 hK58 => ?_
        refine wl_begin ?_
        refine sq (r_index (e := 28) (sz := 1) (i := k) rfl rfl (by kernel_rfl) rfl rfl (by omega)) rfl ?_
        refine sq (r_load rfl (by kernel_rfl) rfl (hs48.imm (le33 _ _ hkb)) hu) rfl ?_
        refine sq (r_assign rfl) rfl ?_
        refine wl_nil ?_
        refine hK58 _ _ ?_; (try clear hK58 K57)
        refine wp_seq_k fun K59 hK60 => ?_
        refine wp_seq_k fun K61 hK62 => ?_
        refine wl_begin ?_
        refine sq (r_move rfl) rfl ?_
        refine sq (r_eqf rfl (by kernel_rfl) rfl hun.pif) rfl ?_
        refine wl_nil ?_
        refine hK62 _ _ ?_; (try clear hK62 K61)
        refine condS rfl rfl (fun h63 => ?_) (fun h63 => ?_)
        ·
          refine wp_seq_k fun K64 hK65 => ?_
          refine wl_begin ?_
          refine sq (r_assign rfl) rfl ?_
          refine wl_nil ?_
          refine hK65 _ _ ?_; (try clear hK65 K64)
          refine wp_ret ?_
          exact leave (X' := []) (L := [⟨b36, #[.int .u32 ((m : Nat) : Int), cv28, .int .i64 ((N.sizes (kids.take k) : Nat) : Int)], 137⟩]) hs48 rfl (res_one (v := .nilIface) rfl (.tmp rfl rfl .nil)) (by rw [show N.mk m kids = .none from if_pos (.inr (.inr (List.any_eq_true.2 ⟨_, List.getElem_mem hlt, by rw [← hun.isN]; assumption⟩)))]; rfl)
        ·
          refine wp_skip ?_
          refine hK60 _ _ ?_; (try clear hK60 K59)
          refine draw_begin (S := SS G1 []) (by kernel_rfl) ?_
          have hs66 := hs48.drew; clear hs48
          have hss := hs66.ss (I := G1) (GH.le.refl _) (SubL.sub .nil)
          refine dt 0 rfl (by kernel_rfl) (fun _ _ _ h => h) hss (fun _ h => r_move rfl) rfl ?_
          refine dt 1 rfl (by kernel_rfl) (fun _ _ _ h => h) hss (fun _ h => r_nilCheck rfl rfl) rfl ?_
          refine dt 2 rfl (by kernel_rfl) (fun _ _ _ h => h) hss (fun _ h => (r_fieldAddr (off := 2) rfl (by kernel_rfl) rfl)) rfl ?_
          refine dt 4 rfl (by kernel_rfl) (fun _ _ _ h => h) hss (fun _ h => r_move rfl) rfl ?_
          refine nrmD (vals := [(0, .int .u32 ((m : Nat) : Int)), (1, .slice (some ⟨kb, ko, none⟩) kids.length sc), (5, .pointer (some ⟨b36, 0, none⟩)), (7, u), (17, .bool (!(decide (((kids.length : Nat) : Int) = (((bitsL m).length : Nat) : Int))))), (23, .slice (some ⟨kb, ko, none⟩) kids.length sc), (24, .int .i64 ((kids.length : Nat) : Int)), (25, .int .i64 ((k : Nat) : Int)), (26, .bool (decide (((k : Nat) : Int) < ((kids.length : Nat) : Int)))), (30, .bool (isNilIf u)), (31, .pointer (some ⟨b36, 0, none⟩)), (33, .pointer (some ⟨b36, 2, none⟩)), (35, u)]) (.cons rfl (.cons rfl (.cons rfl (.cons rfl (.cons rfl (.cons rfl (.cons rfl (.cons rfl (.cons rfl (.cons rfl (.cons rfl (.cons rfl (.cons rfl .nil))))))))))))) fun g67 => ?_
          refine draw_all [3, 5] (by kernel_rfl) rfl (forall_2 ?_ ?_)
          ·
            refine dmo rfl (ow_val (r_load rfl (by kernel_rfl) rfl (hs66.box (.head _)) rfl) rfl ?_)
            replace hss := hs66.ss (I := G1) (GH.le.refl _) (SubL.sub .nil)
            refine ⟨hss, ?_⟩
            refine dro 5 (by kernel_rfl) rfl (ow_count (L := [⟨b36, #[.int .u32 ((m : Nat) : Int), cv28, .int .i64 ((N.sizes (kids.take k) : Nat) : Int)], 137⟩]) hs66 (hun.up le33) (N.ne_of (by rw [← hun.isN]; assumption)) rfl rfl rfl ?_)
            rintro _ _ X1 w68 ⟨rfl, rfl⟩ - hs69 hid70
            obtain rfl : X1 = [] := List.map_eq_nil_iff.1 hid70
            replace hs69 : St w0 I (ids []) G1 [⟨b36, #[.int .u32 ((m : Nat) : Int), cv28, .int .i64 ((N.sizes (kids.take k) : Nat) : Int)], 137⟩] w68 := hs69
            clear hs66 hid70
            replace hss := hs69.ss (I := G1) (GH.le.refl _) (SubL.sub .nil)
            refine ⟨hss, ?_⟩
            refine dt 6 rfl (by kernel_rfl) (fun _ _ _ h => h) hss (fun _ h => (r_addi rfl rfl rfl rfl (by omega))) rfl ?_
            refine dt 7 rfl (by kernel_rfl) (fun _ _ _ h => h) hss (fun _ h => r_nilCheck rfl rfl) rfl ?_
            refine dt 8 rfl (by kernel_rfl) (fun _ _ _ h => h) hss (fun _ h => (r_fieldAddr (off := 2) rfl (by kernel_rfl) rfl)) rfl ?_
            refine dro 9 (by kernel_rfl) rfl (ow_store (vs := [.int .i64 (((N.sizes (kids.take k) : Nat) : Int) + (((N.size (kids[k]'hlt)) : Nat) : Int))]) hs69 rfl rfl (by kernel_rfl) rfl rfl (.cons trivial .nil) rfl ?_)
            rintro w71 (hs72 : St w0 I (ids []) G1 [⟨b36, #[.int .u32 ((m : Nat) : Int), cv28, .int .i64 (((N.sizes (kids.take k) : Nat) : Int) + (((N.size (kids[k]'hlt)) : Nat) : Int))], 137⟩] w71)
            clear hs69
            replace hss := hs72.ss (I := G1) (GH.le.refl _) (SubL.sub .nil)
            refine ⟨hss, ?_⟩
            refine draw_done (by kernel_rfl) ?_
            refine hK56 _ _ ?_; (try clear hK56 K55)
            refine wl_begin ?_
            refine sq (r_addi rfl rfl rfl rfl (by omega)) rfl ?_
            refine sq (r_move rfl) rfl ?_
            refine wl_nil ?_
            have hsz2 : N.sizes (kids.take (k + 1)) = N.sizes (kids.take k) + N.size (kids[k]'hlt) := N.sizes_take hlt
            have hcell : Value.int .i64 ((((N.sizes (kids.take k) : Nat) : Int) + (((N.size (kids[k]'hlt)) : Nat) : Int))) = .int .i64 ((N.sizes (kids.take (k + 1)) : Nat) : Int) := by rw [hsz2]; rfl
            rw [hcell] at hs72
            exact ⟨_, _, rfl, ⟨_, (k + 1), rfl, updL_self (.cons rfl (.cons rfl (.cons rfl (.cons rfl (.cons rfl (.cons rfl (.cons rfl .nil))))))), hlt, (fun i hi hik => if h : i < k then hnn i hi h else by obtain rfl : i = k := (by omega); rw [← hun.isN]; assumption), hs72⟩, (by omega)⟩
          ·
            refine dmo rfl (ow_count (L := [⟨b36, #[.int .u32 ((m : Nat) : Int), cv28, .int .i64 ((N.sizes (kids.take k) : Nat) : Int)], 137⟩]) hs66 (hun.up le33) (N.ne_of (by rw [← hun.isN]; assumption)) rfl rfl rfl ?_)
            rintro _ _ X1 w74 ⟨rfl, rfl⟩ - hs75 hid76
            obtain rfl : X1 = [] := List.map_eq_nil_iff.1 hid76
            replace hs75 : St w0 I (ids []) G1 [⟨b36, #[.int .u32 ((m : Nat) : Int), cv28, .int .i64 ((N.sizes (kids.take k) : Nat) : Int)], 137⟩] w74 := hs75
            clear hs66 hid76
            replace hss := hs75.ss (I := G1) (GH.le.refl _) (SubL.sub .nil)
            refine ⟨hss, ?_⟩
            refine dro 3 (by kernel_rfl) rfl (ow_val (r_load rfl (by kernel_rfl) rfl (hs75.box (.head _)) rfl) rfl ?_)
            replace hss := hs75.ss (I := G1) (GH.le.refl _) (SubL.sub .nil)
            refine ⟨hss, ?_⟩
            refine dt 6 rfl (by kernel_rfl) (fun _ _ _ h => h) hss (fun _ h => (r_addi rfl rfl rfl rfl (by omega))) rfl ?_
            refine dt 7 rfl (by kernel_rfl) (fun _ _ _ h => h) hss (fun _ h => r_nilCheck rfl rfl) rfl ?_
            refine dt 8 rfl (by kernel_rfl) (fun _ _ _ h => h) hss (fun _ h => (r_fieldAddr (off := 2) rfl (by kernel_rfl) rfl)) rfl ?_
            refine dro 9 (by kernel_rfl) rfl (ow_store (vs := [.int .i64 (((N.sizes (kids.take k) : Nat) : Int) + (((N.size (kids[k]'hlt)) : Nat) : Int))]) hs75 rfl rfl (by kernel_rfl) rfl rfl (.cons trivial .nil) rfl ?_)
            rintro w77 (hs78 : St w0 I (ids []) G1 [⟨b36, #[.int .u32 ((m : Nat) : Int), cv28, .int .i64 (((N.sizes (kids.take k) : Nat) : Int) + (((N.size (kids[k]'hlt)) : Nat) : Int))], 137⟩] w77)
            clear hs75
            replace hss := hs78.ss (I := G1) (GH.le.refl _) (SubL.sub .nil)
            refine ⟨hss, ?_⟩
            refine draw_done (by kernel_rfl) ?_
            refine hK56 _ _ ?_; (try clear hK56 K55)
            refine wl_begin ?_
            refine sq (r_addi rfl rfl rfl rfl (by omega)) rfl ?_
            refine sq (r_move rfl) rfl ?_
            refine wl_nil ?_
            have hsz2 : N.sizes (kids.take (k + 1)) = N.sizes (kids.take k) + N.size (kids[k]'hlt) := N.sizes_take hlt
            have hcell : Value.int .i64 ((((N.sizes (kids.take k) : Nat) : Int) + (((N.size (kids[k]'hlt)) : Nat) : Int))) = .int .i64 ((N.sizes (kids.take (k + 1)) : Nat) : Int) := by rw [hsz2]; rfl
            rw [hcell] at hs78
            exact ⟨_, _, rfl, ⟨_, (k + 1), rfl, updL_self (.cons rfl (.cons rfl (.cons rfl (.cons rfl (.cons rfl (.cons rfl (.cons rfl .nil))))))), hlt, (fun i hi hik => if h : i < k then hnn i hi h else by obtain rfl : i = k := (by omega); rw [← hun.isN]; assumption), hs78⟩, (by omega)⟩
      ·
        have p80 := of_decide_eq_false h53
        obtain rfl : k = kids.length := by omega
        rw [List.take_length] at hs48
        have hgood : ¬ (kids.length = 0 ∨ kids.length ≠ (bitsL m).length ∨ kids.any N.isN = true) := by
          rintro (h | h | h)
          · omega
          · omega
          · obtain ⟨x, hx, hx2⟩ := List.any_eq_true.1 h
            obtain ⟨i, hi, rfl⟩ := List.getElem_of_mem hx
            rw [hnn i hi hi] at hx2; cases hx2
        refine wp_exit ?_
        refine hK40 _ _ ?_; (try clear hK40 K39)
        refine wp_seq_k fun K81 hK82 => ?_
        refine wl_begin ?_
        refine sq (r_move rfl) rfl ?_
        refine sq (r_makeIf rfl (by kernel_rfl)) rfl ?_
        refine sq (r_assign rfl) rfl ?_
        refine wl_nil ?_
        refine hK82 _ _ ?_; (try clear hK82 K81)
        refine wp_ret ?_
        obtain ⟨G2, le83, hs84, hb85⟩ := hs48.freezeB; clear hs48
        replace hs84 : St w0 I (ids []) G2 [] w47 := hs84
        replace hb85 : G2 b36 = some (.cells #[.int .u32 ((m : Nat) : Int), cv28, .int .i64 ((N.sizes kids : Nat) : Int)] 137 (0, 0)) := hb85
        exact leave (X' := []) (L := []) hs84 rfl (res_one (v := .iface 133 (.pointer (some ⟨b36, 0, none⟩))) rfl (.tmp rfl rfl .nil)) (by rw [show N.mk m kids = .branch m kids from if_neg hgood]; exact ⟨b36, cv28, vs, rfl, hb85, (hc29.up le83), (hks.up (le33.trans le83)), hm⟩)
end Go.Proofs.YtlnlodfnplkckaaDoor
/- The contracts of graft.With, prune.pick. -/
namespace Go.Proofs.YtlnlodfnplkckaaDoor
set_option linter.unusedVariables false
set_option linter.unusedSimpArgs false
theorem NodesAt.snoc {I : GH} : ∀ {l : List N} {vs : List Value} {u : Value} {n : N}, NodesAt I vs l → NodeAt I u n → NodesAt I (vs ++ [u]) (l ++ [n])
  | [], vs, u, n, h, hn => by rw [show vs = [] from h]; exact ⟨u, [], rfl, hn, rfl⟩
  | _ :: _, _, u, n, ⟨v, us, h1, h2, h3⟩, hn => by subst h1; exact ⟨v, us ++ [u], rfl, h2, NodesAt.snoc h3 hn⟩
namespace N
/-- A child of the new branch. -/
def wkid (n : N) (c : Int) (k : N) (i : Int) : N := if i = c then k else n.kid i
/-- What graft.With makes. -/
def withK (n : N) (c : Int) (k : N) : N := mk (n.map.getD 0 ||| bitN c) ((bitsL (n.map.getD 0 ||| bitN c)).map fun (i : Nat) => wkid n c k (i : Int))
/-- What prune.pick makes. -/
def pick (n : N) (m : Nat) : N := mk m ((bitsL m).map fun (i : Nat) => n.kid (i : Int))
end N
theorem bits_map (m : Nat) (F : Int → N) : (bitsF m).map (fun i => F ((i.val : Nat) : Int)) = (bitsL m).map (fun (i : Nat) => F (i : Int)) := by
  rw [← bitsF_val, List.map_map]; rfl
set_option maxRecDepth 100000 in
theorem with_node_ok {I : GH} (ht : TabG I) {v kv : Value} {n k : N} (hn : NodeAt I v n) (hk : NodeAt I kv k) (hfit : n.fit) (hm : n.map.getD 0 < 2 ^ 32) (c : Int)
    (hsz : N.sizes ((bitsL (n.map.getD 0 ||| bitN c)).map fun (i : Nat) => N.wkid n c k (i : Int)) ≤ 1000000) :
    Fn Tryd.prog 146 #[v, .int .i64 c, kv] I [] (fun r J _ => NodeAt J r (n.withK c k)) := by
  refine enterM (args := [v, .int .i64 c, kv]) Tryd.func146 rfl rfl fun w0 hs0 => ?_
  refine wp_seq_k fun K1 hK2 => ?_
  refine wl_begin ?_
  refine sqo rfl fun K3 hK4 => ow_newbox (mk := fun b => .pointer (some ⟨b, 0, none⟩)) hs0 (r_box rfl (One.cells hn.one)) rfl ?_
  rintro b5 w6 (hs7 : St w0 I (ids []) I [⟨b5, #[v], 28⟩] w6)
  clear hs0
  refine hK4 _ _ ?_; clear hK4 K3
  refine sqo rfl fun K8 hK9 => ow_newbox (mk := fun b => .pointer (some ⟨b, 0, none⟩)) hs7 (r_box rfl rfl) rfl ?_
  rintro b10 w11 (hs12 : St w0 I (ids []) I [⟨b10, #[.int .i64 c], 3⟩, ⟨b5, #[v], 28⟩] w11)
  clear hs7
  refine hK9 _ _ ?_; clear hK9 K8
  refine sqo rfl fun K13 hK14 => ow_newbox (mk := fun b => .pointer (some ⟨b, 0, none⟩)) hs12 (r_box rfl (One.cells hk.one)) rfl ?_
  rintro b15 w16 (hs17 : St w0 I (ids []) I [⟨b15, #[kv], 28⟩, ⟨b10, #[.int .i64 c], 3⟩, ⟨b5, #[v], 28⟩] w16)
  clear hs12
  refine hK14 _ _ ?_; clear hK14 K13
  refine sq (r_assign rfl) rfl ?_
  refine wl_nil ?_
  refine hK2 _ _ ?_; (try clear hK2 K1)
  refine wp_seq_k fun K18 hK19 => ?_
  refine wl_begin ?_
  refine sq (r_load rfl (by kernel_rfl) rfl (hs17.box (.tail _ (.tail _ (.head _)))) rfl) rfl ?_
  refine sqo rfl fun K20 hK21 => ow_call (X := []) (L := [⟨b15, #[kv], 28⟩, ⟨b10, #[.int .i64 c], 3⟩, ⟨b5, #[v], 28⟩]) (lb := []) hs17 (map_ok hn) (by kernel_rfl) rfl rfl rfl rfl rfl ?_
  rintro _ _ X1 w22 ⟨rfl, rfl⟩ - hs23 hid24
  obtain rfl : X1 = [] := List.map_eq_nil_iff.1 hid24
  replace hs23 : St w0 I (ids []) I [⟨b15, #[kv], 28⟩, ⟨b10, #[.int .i64 c], 3⟩, ⟨b5, #[v], 28⟩] w22 := hs23
  clear hs17 hid24
  refine hK21 _ _ ?_; clear hK21 K20
  refine sq (r_move rfl) rfl ?_
  refine sq (r_extract rfl rfl rfl) rfl ?_
  refine sq (r_extract rfl rfl rfl) rfl ?_
  refine sq (r_assign rfl) rfl ?_
  refine sq (r_assign rfl) rfl ?_
  refine wl_nil ?_
  refine hK19 _ _ ?_; (try clear hK19 K18)
  refine wp_seq_k fun K25 hK26 => ?_
  refine wl_begin ?_
  refine sq (r_move rfl) rfl ?_
  refine sq (r_load rfl (by kernel_rfl) rfl (hs23.box (.tail _ (.head _))) rfl) rfl ?_
  refine sqo rfl fun K27 hK28 => ow_call (X := []) (L := [⟨b15, #[kv], 28⟩, ⟨b10, #[.int .i64 c], 3⟩, ⟨b5, #[v], 28⟩]) (lb := []) hs23 (with_ok (by assumption) c) (by kernel_rfl) rfl rfl rfl rfl rfl ?_
  rintro _ _ X1 w29 ⟨rfl, rfl⟩ - hs30 hid31
  obtain rfl : X1 = [] := List.map_eq_nil_iff.1 hid31
  replace hs30 : St w0 I (ids []) I [⟨b15, #[kv], 28⟩, ⟨b10, #[.int .i64 c], 3⟩, ⟨b5, #[v], 28⟩] w29 := hs30
  clear hs23 hid31
  refine hK28 _ _ ?_; clear hK28 K27
  refine sq (r_assign rfl) rfl ?_
  refine wl_nil ?_
  refine hK26 _ _ ?_; (try clear hK26 K25)
  refine wp_seq_k fun K32 hK33 => ?_
  refine nrm (vals := [(0, v), (1, .int .i64 c), (2, kv), (3, .pointer (some ⟨b5, 0, none⟩)), (4, .pointer (some ⟨b10, 0, none⟩)), (5, .pointer (some ⟨b15, 0, none⟩)), (6, .nilIface), (7, .int .u32 (((((N.map n).getD 0) ||| bitN c) : Nat) : Int))]) (.cons rfl (.cons rfl (.cons rfl (.cons rfl (.cons rfl (.cons rfl (.cons rfl (.cons rfl .nil)))))))) fun g34 => ?_
  refine wl_begin ?_
  refine sqo rfl fun K35 hK36 => ow_newbox (mk := fun b => .pointer (some ⟨b, 0, none⟩)) hs30 (r_alloc (cs := [.slice none 0 0]) (by kernel_rfl)) rfl ?_
  rintro b37 w38 (hs39 : St w0 I (ids []) I [⟨b37, #[.slice none 0 0], 135⟩, ⟨b15, #[kv], 28⟩, ⟨b10, #[.int .i64 c], 3⟩, ⟨b5, #[v], 28⟩] w38)
  clear hs30
  refine hK36 _ _ ?_; clear hK36 K35
  refine wl_nil ?_
  refine hK33 _ _ ?_; (try clear hK33 K32)
  refine wp_seq_k fun K40 hK41 => ?_
  refine wp_seq_k fun K42 hK43 => ?_
  refine wl_begin ?_
  refine sq (r_move rfl) rfl ?_
  refine sqo rfl fun K44 hK45 => ow_call (X := []) (L := [⟨b37, #[.slice none 0 0], 135⟩, ⟨b15, #[kv], 28⟩, ⟨b10, #[.int .i64 c], 3⟩, ⟨b5, #[v], 28⟩]) (lb := []) hs39 (all_ok ht (Nat.or_lt_two_pow (by assumption) (bitN_lt _))) (by kernel_rfl) rfl rfl rfl rfl rfl ?_
  rintro _ G1 X1 w48 ⟨b46, rfl, hq47⟩ le51 hs49 hid50
  obtain rfl : X1 = [] := List.map_eq_nil_iff.1 hid50
  replace hs49 : St w0 I (ids []) G1 [⟨b37, #[.slice none 0 0], 135⟩, ⟨b15, #[kv], 28⟩, ⟨b10, #[.int .i64 c], 3⟩, ⟨b5, #[v], 28⟩] w48 := hs49
  clear hs39 hid50
  refine hK45 _ _ ?_; clear hK45 K44
  refine wl_nil ?_
  refine hK43 _ _ ?_; (try clear hK43 K42)
  refine wp_block ?_
  refine nrm (vals := [(0, v), (1, .int .i64 c), (2, kv), (3, .pointer (some ⟨b5, 0, none⟩)), (4, .pointer (some ⟨b10, 0, none⟩)), (5, .pointer (some ⟨b15, 0, none⟩)), (6, .nilIface), (7, .int .u32 (((((N.map n).getD 0) ||| bitN c) : Nat) : Int)), (9, .pointer (some ⟨b37, 0, none⟩)), (22, .func (.func 117) #[] #[.pointer (some ⟨b46, 0, none⟩)])]) (.cons rfl (.cons rfl (.cons rfl (.cons rfl (.cons rfl (.cons rfl (.cons rfl (.cons rfl (.cons rfl (.cons rfl .nil)))))))))) fun g52 => ?_
  refine rangeF (α := Fin 32) (enc := encF) hs49 rfl rfl (by kernel_rfl) hq47 rfl (fun (pre : List (Fin 32)) (G2 : GH) (LL : List Bx) => ∃ (rv : Value), ∃ (vs : List Value), ∃ (RR : List Bx), LL = (⟨b37, #[rv], 135⟩ :: (⟨b15, #[kv], 28⟩ :: (⟨b10, #[.int .i64 c], 3⟩ :: (⟨b5, #[v], 28⟩ :: (RR ++ []))))) ∧ (RowAt 28 1 rv pre.length vs RR) ∧ (NodesAt G2 vs (pre.map (fun i => N.wkid n c k ((i.val : Nat) : Int))))) (fun _ _ _ _ => False) ⟨_, [], [], rfl, RowAt.nil _ _, rfl⟩ (fun x => upd (upd (updL g52 [(0, v), (1, .int .i64 c), (2, kv), (3, .pointer (some ⟨b5, 0, none⟩)), (4, .pointer (some ⟨b10, 0, none⟩)), (5, .pointer (some ⟨b15, 0, none⟩)), (6, .nilIface), (7, .int .u32 (((((N.map n).getD 0) ||| bitN c) : Nat) : Int)), (9, .pointer (some ⟨b37, 0, none⟩)), (22, .func (.func 117) #[] #[.pointer (some ⟨b46, 0, none⟩)])]) 23 (encF x)) 10 (.int .i64 ((x.val : Nat) : Int))) ?_ ?_ ?_ ?_
  ·
    intro l x W K hK
    refine wl_beginR (by kernel_rfl) (fun _ _ h => h) ?_
    refine sq (r_assign rfl) rfl ?_
    refine wl_nil ?_
    exact hK
  ·
    rintro l pre x G2 LL W57 hlen56 le53 ⟨rv, vs, RR, rfl, hrow, hks⟩ hown55 hs54
    clear hs49
    replace hs54 : St W57 G2 (ids (⟨b37, #[rv], 135⟩ :: (⟨b15, #[kv], 28⟩ :: (⟨b10, #[.int .i64 c], 3⟩ :: (⟨b5, #[v], 28⟩ :: (RR ++ [])))))) G2 (⟨b37, #[rv], 135⟩ :: (⟨b15, #[kv], 28⟩ :: (⟨b10, #[.int .i64 c], 3⟩ :: (⟨b5, #[v], 28⟩ :: (RR ++ []))))) W57 := hs54
    refine blockR ?_
    refine seqR fun K58 hK59 => ?_
    refine seqR fun K60 hK61 => ?_
    refine wl_beginR (by kernel_rfl) (fun _ _ h => h) ?_
    refine sq (r_move rfl) rfl ?_
    refine sq (r_load rfl (by kernel_rfl) rfl (hs54.box (.tail _ (.tail _ (.head _)))) rfl) rfl ?_
    refine sq (r_eqi rfl rfl rfl rfl) rfl ?_
    refine wl_nil ?_
    refine hK61 _ _ ?_; (try clear hK61 K60)
    refine condSR rfl rfl (fun h62 => ?_) (fun h62 => ?_)
    ·
      have p63 := of_decide_eq_true h62
      refine seqR fun K64 hK65 => ?_
      refine wl_beginR (by kernel_rfl) (fun _ _ h => h) ?_
      refine sq (r_load rfl (by kernel_rfl) rfl (hs54.box (.head _)) rfl) rfl ?_
      refine sq (r_load rfl (by kernel_rfl) rfl (hs54.box (.tail _ (.head _))) rfl) rfl ?_
      refine sqo rfl fun K66 hK67 => ow_newimm (mk := fun b => .slice (some ⟨b, 0, none⟩) 1 1) hs54 (r_buildSlice (e := 28) (cells := #[kv]) (.cons rfl (One.cells hk.one) .nil) (by kernel_rfl)) rfl ?_
      rintro b68 G3 w69 hb70 le71 hs72 ge73
      clear hs54
      replace hb70 : G3 b68 = some (.cells #[kv] 28 (0, 0)) := hb70
      refine hK67 _ _ ?_; clear hK67 K66
      have hs76 : St W57 G2 (ids (⟨b37, #[rv], 135⟩ :: (⟨b15, #[kv], 28⟩ :: (⟨b10, #[.int .i64 c], 3⟩ :: (⟨b5, #[v], 28⟩ :: (RR ++ [])))))) G3 (RR ++ ([⟨b37, #[rv], 135⟩, ⟨b15, #[kv], 28⟩, ⟨b10, #[.int .i64 c], 3⟩, ⟨b5, #[v], 28⟩] : List Bx)) w69 := hs72.perm (List.Perm.trans ((List.Perm.trans ((List.Perm.trans ((List.Perm.trans ((List.Perm.refl _).cons _) (List.perm_middle (l₁ := (RR : List Bx)) (a := (⟨b5, #[v], 28⟩ : Bx)) (l₂ := [])).symm).cons _) (List.perm_middle (l₁ := (RR : List Bx)) (a := (⟨b10, #[.int .i64 c], 3⟩ : Bx)) (l₂ := [⟨b5, #[v], 28⟩])).symm).cons _) (List.perm_middle (l₁ := (RR : List Bx)) (a := (⟨b15, #[kv], 28⟩ : Bx)) (l₂ := [⟨b10, #[.int .i64 c], 3⟩, ⟨b5, #[v], 28⟩])).symm).cons _) (List.perm_middle (l₁ := (RR : List Bx)) (a := (⟨b37, #[rv], 135⟩ : Bx)) (l₂ := [⟨b15, #[kv], 28⟩, ⟨b10, #[.int .i64 c], 3⟩, ⟨b5, #[v], 28⟩])).symm); clear hs72
      refine sqo rfl fun K74 hK75 => ow_append (R := RR) (L := [⟨b37, #[rv], 135⟩, ⟨b15, #[kv], 28⟩, ⟨b10, #[.int .i64 c], 3⟩, ⟨b5, #[v], 28⟩]) (E := 28) (sz := 1) (bytes := 16) (news := [kv]) hs76 hrow (by kernel_rfl) rfl rfl rfl rfl rfl rfl (SliceAt.news (m := 1) (hs76.imm hb70) rfl) (ones_old (.cons hk.one .nil)) (by simp only [maxLen]; omega) (by omega) rfl ?_
      rintro v77 R78 w79 hr80 hs81 hf82
      replace hs81 : St W57 G2 (ids (⟨b37, #[rv], 135⟩ :: (⟨b15, #[kv], 28⟩ :: (⟨b10, #[.int .i64 c], 3⟩ :: (⟨b5, #[v], 28⟩ :: (RR ++ [])))))) G3 (R78 ++ ([⟨b37, #[rv], 135⟩, ⟨b15, #[kv], 28⟩, ⟨b10, #[.int .i64 c], 3⟩, ⟨b5, #[v], 28⟩] : List Bx)) w79 := hs81; clear hs76 hf82
      refine hK75 _ _ ?_; clear hK75 K74
      have hs85 : St W57 G2 (ids (⟨b37, #[rv], 135⟩ :: (⟨b15, #[kv], 28⟩ :: (⟨b10, #[.int .i64 c], 3⟩ :: (⟨b5, #[v], 28⟩ :: (RR ++ [])))))) G3 (⟨b37, #[rv], 135⟩ :: (R78 ++ ([⟨b15, #[kv], 28⟩, ⟨b10, #[.int .i64 c], 3⟩, ⟨b5, #[v], 28⟩] : List Bx))) w79 := hs81.perm (List.Perm.trans ((List.Perm.refl _).append_left _) (List.perm_middle (l₁ := (R78 : List Bx)) (a := (⟨b37, #[rv], 135⟩ : Bx)) (l₂ := [⟨b15, #[kv], 28⟩, ⟨b10, #[.int .i64 c], 3⟩, ⟨b5, #[v], 28⟩]))); clear hs81
      refine sqo rfl fun K83 hK84 => ow_store (vs := [v77]) hs85 rfl rfl (by kernel_rfl) rfl (congrArg Array.toList (One.cells hr80.one)) (.cons hr80.one .nil) rfl ?_
      rintro w86 (hs87 : St W57 G2 (ids (⟨b37, #[rv], 135⟩ :: (⟨b15, #[kv], 28⟩ :: (⟨b10, #[.int .i64 c], 3⟩ :: (⟨b5, #[v], 28⟩ :: (RR ++ [])))))) G3 (⟨b37, #[v77], 135⟩ :: (R78 ++ ([⟨b15, #[kv], 28⟩, ⟨b10, #[.int .i64 c], 3⟩, ⟨b5, #[v], 28⟩] : List Bx))) w86)
      clear hs85
      refine hK84 _ _ ?_; clear hK84 K83
      refine wl_nil ?_
      refine hK65 _ _ ?_; (try clear hK65 K64)
      refine exitR ?_
      have hs88 : St W57 G2 (ids (⟨b37, #[rv], 135⟩ :: (⟨b15, #[kv], 28⟩ :: (⟨b10, #[.int .i64 c], 3⟩ :: (⟨b5, #[v], 28⟩ :: (RR ++ [])))))) G3 (R78 ++ ([⟨b37, #[v77], 135⟩, ⟨b15, #[kv], 28⟩, ⟨b10, #[.int .i64 c], 3⟩, ⟨b5, #[v], 28⟩] : List Bx)) w86 := hs87.perm (List.Perm.trans ((List.Perm.refl _).cons _) (List.perm_middle (l₁ := (R78 : List Bx)) (a := (⟨b37, #[v77], 135⟩ : Bx)) (l₂ := [⟨b15, #[kv], 28⟩, ⟨b10, #[.int .i64 c], 3⟩, ⟨b5, #[v], 28⟩])).symm); clear hs87
      have hs89 : St W57 G2 (ids (⟨b37, #[rv], 135⟩ :: (⟨b15, #[kv], 28⟩ :: (⟨b10, #[.int .i64 c], 3⟩ :: (⟨b5, #[v], 28⟩ :: (RR ++ [])))))) G3 (⟨b5, #[v], 28⟩ :: (R78 ++ ([⟨b37, #[v77], 135⟩, ⟨b15, #[kv], 28⟩, ⟨b10, #[.int .i64 c], 3⟩] : List Bx))) w86 := hs88.perm (List.Perm.trans ((List.Perm.trans ((List.Perm.trans ((List.Perm.trans ((List.Perm.refl _).cons _) (List.Perm.swap _ _ _)).cons _) (List.Perm.swap _ _ _)).cons _) (List.Perm.swap _ _ _)).append_left _) (List.perm_middle (l₁ := (R78 : List Bx)) (a := (⟨b5, #[v], 28⟩ : Bx)) (l₂ := [⟨b37, #[v77], 135⟩, ⟨b15, #[kv], 28⟩, ⟨b10, #[.int .i64 c], 3⟩]))); clear hs88
      have hs90 : St W57 G2 (ids (⟨b37, #[rv], 135⟩ :: (⟨b15, #[kv], 28⟩ :: (⟨b10, #[.int .i64 c], 3⟩ :: (⟨b5, #[v], 28⟩ :: (RR ++ [])))))) G3 (⟨b10, #[.int .i64 c], 3⟩ :: (⟨b5, #[v], 28⟩ :: (R78 ++ ([⟨b37, #[v77], 135⟩, ⟨b15, #[kv], 28⟩] : List Bx)))) w86 := hs89.perm (List.Perm.trans ((List.Perm.trans ((List.Perm.trans ((List.Perm.trans ((List.Perm.refl _).cons _) (List.Perm.swap _ _ _)).cons _) (List.Perm.swap _ _ _)).append_left _) (List.perm_middle (l₁ := (R78 : List Bx)) (a := (⟨b10, #[.int .i64 c], 3⟩ : Bx)) (l₂ := [⟨b37, #[v77], 135⟩, ⟨b15, #[kv], 28⟩]))).cons _) (List.Perm.swap _ _ _)); clear hs89
      have hs91 : St W57 G2 (ids (⟨b37, #[rv], 135⟩ :: (⟨b15, #[kv], 28⟩ :: (⟨b10, #[.int .i64 c], 3⟩ :: (⟨b5, #[v], 28⟩ :: (RR ++ [])))))) G3 (⟨b15, #[kv], 28⟩ :: (⟨b10, #[.int .i64 c], 3⟩ :: (⟨b5, #[v], 28⟩ :: (R78 ++ ([⟨b37, #[v77], 135⟩] : List Bx))))) w86 := hs90.perm (List.Perm.trans ((List.Perm.trans ((List.Perm.trans ((List.Perm.trans ((List.Perm.refl _).cons _) (List.Perm.swap _ _ _)).append_left _) (List.perm_middle (l₁ := (R78 : List Bx)) (a := (⟨b15, #[kv], 28⟩ : Bx)) (l₂ := [⟨b37, #[v77], 135⟩]))).cons _) (List.Perm.swap _ _ _)).cons _) (List.Perm.swap _ _ _)); clear hs90
      have hs92 : St W57 G2 (ids (⟨b37, #[rv], 135⟩ :: (⟨b15, #[kv], 28⟩ :: (⟨b10, #[.int .i64 c], 3⟩ :: (⟨b5, #[v], 28⟩ :: (RR ++ [])))))) G3 (⟨b37, #[v77], 135⟩ :: (⟨b15, #[kv], 28⟩ :: (⟨b10, #[.int .i64 c], 3⟩ :: (⟨b5, #[v], 28⟩ :: (R78 ++ []))))) w86 := hs91.perm (List.Perm.trans ((List.Perm.trans ((List.Perm.trans ((List.Perm.trans ((List.Perm.refl _).append_left _) (List.perm_middle (l₁ := (R78 : List Bx)) (a := (⟨b37, #[v77], 135⟩ : Bx)) (l₂ := []))).cons _) (List.Perm.swap _ _ _)).cons _) (List.Perm.swap _ _ _)).cons _) (List.Perm.swap _ _ _)); clear hs91
      exact ⟨_, _, hs92, ⟨_, _, R78, rfl, (by simpa using hr80), (by rw [List.map_append]; exact NodesAt.snoc (NodesAt.up le71 hks) (by show NodeAt _ _ (N.wkid n c k ((x.val : Nat) : Int)); unfold N.wkid; rw [if_pos (by omega)]; exact (hk.up ((le51.trans le53).trans le71))))⟩⟩
    ·
      have p93 := of_decide_eq_false h62
      refine skipR ?_
      refine hK59 _ _ ?_; (try clear hK59 K58)
      refine seqR fun K94 hK95 => ?_
      refine wl_beginR (by kernel_rfl) (fun _ _ h => h) ?_
      refine sq (r_load rfl (by kernel_rfl) rfl (hs54.box (.tail _ (.tail _ (.tail _ (.head _))))) rfl) rfl ?_
      refine sq (r_move rfl) rfl ?_
      refine sqo rfl fun K96 hK97 => ow_call (X := []) (L := (⟨b37, #[rv], 135⟩ :: (⟨b15, #[kv], 28⟩ :: (⟨b10, #[.int .i64 c], 3⟩ :: (⟨b5, #[v], 28⟩ :: (RR ++ [])))))) (lb := []) hs54 (kid_ok (hn.up (le51.trans le53)) hfit ((x.val : Nat) : Int)) (by kernel_rfl) rfl rfl rfl rfl rfl ?_
      rintro _ _ X1 w100 ⟨u98, rfl, hn99, rfl⟩ - hs101 hid102
      obtain rfl : X1 = [] := List.map_eq_nil_iff.1 hid102
      replace hs101 : St W57 G2 (ids (⟨b37, #[rv], 135⟩ :: (⟨b15, #[kv], 28⟩ :: (⟨b10, #[.int .i64 c], 3⟩ :: (⟨b5, #[v], 28⟩ :: (RR ++ [])))))) G2 (⟨b37, #[rv], 135⟩ :: (⟨b15, #[kv], 28⟩ :: (⟨b10, #[.int .i64 c], 3⟩ :: (⟨b5, #[v], 28⟩ :: (RR ++ []))))) w100 := hs101
      clear hs54 hid102
      refine hK97 _ _ ?_; clear hK97 K96
      refine sq (r_move rfl) rfl ?_
      refine sq (r_extract rfl rfl rfl) rfl ?_
      refine sq (r_extract rfl rfl rfl) rfl ?_
      refine sq (r_assign rfl) rfl ?_
      refine sq (r_assign rfl) rfl ?_
      refine wl_nil ?_
      refine hK95 _ _ ?_; (try clear hK95 K94)
      refine wl_beginR (by kernel_rfl) (fun _ _ h => h) ?_
      refine sq (r_load rfl (by kernel_rfl) rfl (hs101.box (.head _)) rfl) rfl ?_
      refine sq (r_move rfl) rfl ?_
      refine sqo rfl fun K103 hK104 => ow_newimm (mk := fun b => .slice (some ⟨b, 0, none⟩) 1 1) hs101 (r_buildSlice (e := 28) (cells := #[u98]) (.cons rfl (One.cells hn99.one) .nil) (by kernel_rfl)) rfl ?_
      rintro b105 G4 w106 hb107 le108 hs109 ge110
      clear hs101
      replace hb107 : G4 b105 = some (.cells #[u98] 28 (0, 0)) := hb107
      refine hK104 _ _ ?_; clear hK104 K103
      have hs113 : St W57 G2 (ids (⟨b37, #[rv], 135⟩ :: (⟨b15, #[kv], 28⟩ :: (⟨b10, #[.int .i64 c], 3⟩ :: (⟨b5, #[v], 28⟩ :: (RR ++ [])))))) G4 (RR ++ ([⟨b37, #[rv], 135⟩, ⟨b15, #[kv], 28⟩, ⟨b10, #[.int .i64 c], 3⟩, ⟨b5, #[v], 28⟩] : List Bx)) w106 := hs109.perm (List.Perm.trans ((List.Perm.trans ((List.Perm.trans ((List.Perm.trans ((List.Perm.refl _).cons _) (List.perm_middle (l₁ := (RR : List Bx)) (a := (⟨b5, #[v], 28⟩ : Bx)) (l₂ := [])).symm).cons _) (List.perm_middle (l₁ := (RR : List Bx)) (a := (⟨b10, #[.int .i64 c], 3⟩ : Bx)) (l₂ := [⟨b5, #[v], 28⟩])).symm).cons _) (List.perm_middle (l₁ := (RR : List Bx)) (a := (⟨b15, #[kv], 28⟩ : Bx)) (l₂ := [⟨b10, #[.int .i64 c], 3⟩, ⟨b5, #[v], 28⟩])).symm).cons _) (List.perm_middle (l₁ := (RR : List Bx)) (a := (⟨b37, #[rv], 135⟩ : Bx)) (l₂ := [⟨b15, #[kv], 28⟩, ⟨b10, #[.int .i64 c], 3⟩, ⟨b5, #[v], 28⟩])).symm); clear hs109
      refine sqo rfl fun K111 hK112 => ow_append (R := RR) (L := [⟨b37, #[rv], 135⟩, ⟨b15, #[kv], 28⟩, ⟨b10, #[.int .i64 c], 3⟩, ⟨b5, #[v], 28⟩]) (E := 28) (sz := 1) (bytes := 16) (news := [u98]) hs113 hrow (by kernel_rfl) rfl rfl rfl rfl rfl rfl (SliceAt.news (m := 1) (hs113.imm hb107) rfl) (ones_old (.cons hn99.one .nil)) (by simp only [maxLen]; omega) (by omega) rfl ?_
      rintro v114 R115 w116 hr117 hs118 hf119
      replace hs118 : St W57 G2 (ids (⟨b37, #[rv], 135⟩ :: (⟨b15, #[kv], 28⟩ :: (⟨b10, #[.int .i64 c], 3⟩ :: (⟨b5, #[v], 28⟩ :: (RR ++ [])))))) G4 (R115 ++ ([⟨b37, #[rv], 135⟩, ⟨b15, #[kv], 28⟩, ⟨b10, #[.int .i64 c], 3⟩, ⟨b5, #[v], 28⟩] : List Bx)) w116 := hs118; clear hs113 hf119
      refine hK112 _ _ ?_; clear hK112 K111
      have hs122 : St W57 G2 (ids (⟨b37, #[rv], 135⟩ :: (⟨b15, #[kv], 28⟩ :: (⟨b10, #[.int .i64 c], 3⟩ :: (⟨b5, #[v], 28⟩ :: (RR ++ [])))))) G4 (⟨b37, #[rv], 135⟩ :: (R115 ++ ([⟨b15, #[kv], 28⟩, ⟨b10, #[.int .i64 c], 3⟩, ⟨b5, #[v], 28⟩] : List Bx))) w116 := hs118.perm (List.Perm.trans ((List.Perm.refl _).append_left _) (List.perm_middle (l₁ := (R115 : List Bx)) (a := (⟨b37, #[rv], 135⟩ : Bx)) (l₂ := [⟨b15, #[kv], 28⟩, ⟨b10, #[.int .i64 c], 3⟩, ⟨b5, #[v], 28⟩]))); clear hs118
      refine sqo rfl fun K120 hK121 => ow_store (vs := [v114]) hs122 rfl rfl (by kernel_rfl) rfl (congrArg Array.toList (One.cells hr117.one)) (.cons hr117.one .nil) rfl ?_
      rintro w123 (hs124 : St W57 G2 (ids (⟨b37, #[rv], 135⟩ :: (⟨b15, #[kv], 28⟩ :: (⟨b10, #[.int .i64 c], 3⟩ :: (⟨b5, #[v], 28⟩ :: (RR ++ [])))))) G4 (⟨b37, #[v114], 135⟩ :: (R115 ++ ([⟨b15, #[kv], 28⟩, ⟨b10, #[.int .i64 c], 3⟩, ⟨b5, #[v], 28⟩] : List Bx))) w123)
      clear hs122
      refine hK121 _ _ ?_; clear hK121 K120
      refine wl_nil ?_
      have hs125 : St W57 G2 (ids (⟨b37, #[rv], 135⟩ :: (⟨b15, #[kv], 28⟩ :: (⟨b10, #[.int .i64 c], 3⟩ :: (⟨b5, #[v], 28⟩ :: (RR ++ [])))))) G4 (R115 ++ ([⟨b37, #[v114], 135⟩, ⟨b15, #[kv], 28⟩, ⟨b10, #[.int .i64 c], 3⟩, ⟨b5, #[v], 28⟩] : List Bx)) w123 := hs124.perm (List.Perm.trans ((List.Perm.refl _).cons _) (List.perm_middle (l₁ := (R115 : List Bx)) (a := (⟨b37, #[v114], 135⟩ : Bx)) (l₂ := [⟨b15, #[kv], 28⟩, ⟨b10, #[.int .i64 c], 3⟩, ⟨b5, #[v], 28⟩])).symm); clear hs124
      have hs126 : St W57 G2 (ids (⟨b37, #[rv], 135⟩ :: (⟨b15, #[kv], 28⟩ :: (⟨b10, #[.int .i64 c], 3⟩ :: (⟨b5, #[v], 28⟩ :: (RR ++ [])))))) G4 (⟨b5, #[v], 28⟩ :: (R115 ++ ([⟨b37, #[v114], 135⟩, ⟨b15, #[kv], 28⟩, ⟨b10, #[.int .i64 c], 3⟩] : List Bx))) w123 := hs125.perm (List.Perm.trans ((List.Perm.trans ((List.Perm.trans ((List.Perm.trans ((List.Perm.refl _).cons _) (List.Perm.swap _ _ _)).cons _) (List.Perm.swap _ _ _)).cons _) (List.Perm.swap _ _ _)).append_left _) (List.perm_middle (l₁ := (R115 : List Bx)) (a := (⟨b5, #[v], 28⟩ : Bx)) (l₂ := [⟨b37, #[v114], 135⟩, ⟨b15, #[kv], 28⟩, ⟨b10, #[.int .i64 c], 3⟩]))); clear hs125
      have hs127 : St W57 G2 (ids (⟨b37, #[rv], 135⟩ :: (⟨b15, #[kv], 28⟩ :: (⟨b10, #[.int .i64 c], 3⟩ :: (⟨b5, #[v], 28⟩ :: (RR ++ [])))))) G4 (⟨b10, #[.int .i64 c], 3⟩ :: (⟨b5, #[v], 28⟩ :: (R115 ++ ([⟨b37, #[v114], 135⟩, ⟨b15, #[kv], 28⟩] : List Bx)))) w123 := hs126.perm (List.Perm.trans ((List.Perm.trans ((List.Perm.trans ((List.Perm.trans ((List.Perm.refl _).cons _) (List.Perm.swap _ _ _)).cons _) (List.Perm.swap _ _ _)).append_left _) (List.perm_middle (l₁ := (R115 : List Bx)) (a := (⟨b10, #[.int .i64 c], 3⟩ : Bx)) (l₂ := [⟨b37, #[v114], 135⟩, ⟨b15, #[kv], 28⟩]))).cons _) (List.Perm.swap _ _ _)); clear hs126
      have hs128 : St W57 G2 (ids (⟨b37, #[rv], 135⟩ :: (⟨b15, #[kv], 28⟩ :: (⟨b10, #[.int .i64 c], 3⟩ :: (⟨b5, #[v], 28⟩ :: (RR ++ [])))))) G4 (⟨b15, #[kv], 28⟩ :: (⟨b10, #[.int .i64 c], 3⟩ :: (⟨b5, #[v], 28⟩ :: (R115 ++ ([⟨b37, #[v114], 135⟩] : List Bx))))) w123 := hs127.perm (List.Perm.trans ((List.Perm.trans ((List.Perm.trans ((List.Perm.trans ((List.Perm.refl _).cons _) (List.Perm.swap _ _ _)).append_left _) (List.perm_middle (l₁ := (R115 : List Bx)) (a := (⟨b15, #[kv], 28⟩ : Bx)) (l₂ := [⟨b37, #[v114], 135⟩]))).cons _) (List.Perm.swap _ _ _)).cons _) (List.Perm.swap _ _ _)); clear hs127
      have hs129 : St W57 G2 (ids (⟨b37, #[rv], 135⟩ :: (⟨b15, #[kv], 28⟩ :: (⟨b10, #[.int .i64 c], 3⟩ :: (⟨b5, #[v], 28⟩ :: (RR ++ [])))))) G4 (⟨b37, #[v114], 135⟩ :: (⟨b15, #[kv], 28⟩ :: (⟨b10, #[.int .i64 c], 3⟩ :: (⟨b5, #[v], 28⟩ :: (R115 ++ []))))) w123 := hs128.perm (List.Perm.trans ((List.Perm.trans ((List.Perm.trans ((List.Perm.trans ((List.Perm.refl _).append_left _) (List.perm_middle (l₁ := (R115 : List Bx)) (a := (⟨b37, #[v114], 135⟩ : Bx)) (l₂ := []))).cons _) (List.Perm.swap _ _ _)).cons _) (List.Perm.swap _ _ _)).cons _) (List.Perm.swap _ _ _)); clear hs128
      exact ⟨_, _, hs129, ⟨_, _, R115, rfl, (by simpa using hr117), (by rw [List.map_append]; exact NodesAt.snoc (NodesAt.up le108 hks) (by show NodeAt _ _ (N.wkid n c k ((x.val : Nat) : Int)); unfold N.wkid; rw [if_neg (by omega)]; exact (hn99.up le108)))⟩⟩
  ·
    generalize hpre : (bitsF (((N.map n).getD 0) ||| bitN c)) = pre
    rintro D130 G2 LL W131 hD132 le135 ⟨rv, vs, RR, rfl, hrow, hks⟩ hD133 hsA134
    clear hs49
    replace hsA134 : St w0 I (ids []) G2 (⟨b37, #[rv], 135⟩ :: (⟨b15, #[kv], 28⟩ :: (⟨b10, #[.int .i64 c], 3⟩ :: (⟨b5, #[v], 28⟩ :: (RR ++ []))))) W131 := hsA134
    have hs136 : St w0 I (ids []) G2 (RR ++ ([⟨b37, #[rv], 135⟩, ⟨b15, #[kv], 28⟩, ⟨b10, #[.int .i64 c], 3⟩, ⟨b5, #[v], 28⟩] : List Bx)) W131 := hsA134.perm (List.Perm.trans ((List.Perm.trans ((List.Perm.trans ((List.Perm.trans ((List.Perm.refl _).cons _) (List.perm_middle (l₁ := (RR : List Bx)) (a := (⟨b5, #[v], 28⟩ : Bx)) (l₂ := [])).symm).cons _) (List.perm_middle (l₁ := (RR : List Bx)) (a := (⟨b10, #[.int .i64 c], 3⟩ : Bx)) (l₂ := [⟨b5, #[v], 28⟩])).symm).cons _) (List.perm_middle (l₁ := (RR : List Bx)) (a := (⟨b15, #[kv], 28⟩ : Bx)) (l₂ := [⟨b10, #[.int .i64 c], 3⟩, ⟨b5, #[v], 28⟩])).symm).cons _) (List.perm_middle (l₁ := (RR : List Bx)) (a := (⟨b37, #[rv], 135⟩ : Bx)) (l₂ := [⟨b15, #[kv], 28⟩, ⟨b10, #[.int .i64 c], 3⟩, ⟨b5, #[v], 28⟩])).symm); clear hsA134
    obtain ⟨G5, le137, hs138, hz139⟩ := hs136.freezeRow (R := RR) (L := [⟨b37, #[rv], 135⟩, ⟨b15, #[kv], 28⟩, ⟨b10, #[.int .i64 c], 3⟩, ⟨b5, #[v], 28⟩]) hrow (fun _ h => by cases h); clear hs136
    replace hs138 : St w0 I (ids []) G5 [⟨b37, #[rv], 135⟩, ⟨b15, #[kv], 28⟩, ⟨b10, #[.int .i64 c], 3⟩, ⟨b5, #[v], 28⟩] W131 := hs138
    have hs140 : St W131 G5 (ids [⟨b37, #[rv], 135⟩, ⟨b15, #[kv], 28⟩, ⟨b10, #[.int .i64 c], 3⟩, ⟨b5, #[v], 28⟩]) G5 [⟨b37, #[rv], 135⟩, ⟨b15, #[kv], 28⟩, ⟨b10, #[.int .i64 c], 3⟩, ⟨b5, #[v], 28⟩] W131 := hs138.base
    refine hK41 _ _ ?_; (try clear hK41 K40)
    refine wp_seq_k fun K141 hK142 => ?_
    refine wl_begin ?_
    refine sq (r_move rfl) rfl ?_
    refine sq (r_load rfl (by kernel_rfl) rfl (hs140.box (.head _)) rfl) rfl ?_
    have hks2 : NodesAt G5 vs (pre.map (fun i => N.wkid n c k ((i.val : Nat) : Int))) := NodesAt.up le137 hks
    have hlen2 : (pre.map (fun i => N.wkid n c k ((i.val : Nat) : Int))).length = pre.length := List.length_map _
    have hpl : pre.length ≤ 32 := by rw [← hpre, bitsF_length]; exact bitsL_le _
    have hsz2 : N.sizes (pre.map (fun i => N.wkid n c k ((i.val : Nat) : Int))) ≤ 1000000 := by rw [← hpre, bits_map _ (fun i => N.wkid n c k i)]; exact hsz
    refine sqo rfl fun K143 hK144 => ow_call (X := []) (L := [⟨b37, #[rv], 135⟩, ⟨b15, #[kv], 28⟩, ⟨b10, #[.int .i64 c], 3⟩, ⟨b5, #[v], 28⟩]) (lb := []) hs140 (branch_ok (m := (((N.map n).getD 0) ||| bitN c)) (Nat.or_lt_two_pow (by assumption) (bitN_lt _)) (kids := pre.map (fun i => N.wkid n c k ((i.val : Nat) : Int))) (by rw [hlen2]; exact hz139) hks2 (by omega) hsz2) (by kernel_rfl) rfl rfl rfl rfl rfl ?_
    rintro v145 G6 X1 w147 hn146 le150 hs148 hid149
    obtain rfl : X1 = [] := List.map_eq_nil_iff.1 hid149
    replace hs148 : St W131 G5 (ids [⟨b37, #[rv], 135⟩, ⟨b15, #[kv], 28⟩, ⟨b10, #[.int .i64 c], 3⟩, ⟨b5, #[v], 28⟩]) G6 [⟨b37, #[rv], 135⟩, ⟨b15, #[kv], 28⟩, ⟨b10, #[.int .i64 c], 3⟩, ⟨b5, #[v], 28⟩] w147 := hs148
    clear hs140 hid149
    refine hK144 _ _ ?_; clear hK144 K143
    refine sq (r_assign rfl) rfl ?_
    refine wl_nil ?_
    refine hK142 _ _ ?_; (try clear hK142 K141)
    refine wp_ret ?_
    refine leaveM (X' := []) (L := [⟨b37, #[rv], 135⟩, ⟨b15, #[kv], 28⟩, ⟨b10, #[.int .i64 c], 3⟩, ⟨b5, #[v], 28⟩]) hs138 hD133 hD132 hs148 rfl rfl (.inl rfl) (fun w151 hs152 => ?_)
    replace hs152 : St w0 I (ids []) G6 [⟨b37, #[rv], 135⟩, ⟨b15, #[kv], 28⟩, ⟨b10, #[.int .i64 c], 3⟩, ⟨b5, #[v], 28⟩] w151 := hs152
    exact ⟨_, (res_one (v := v145) rfl (.tmp rfl rfl .nil)), (by unfold N.withK; rw [← bits_map _ (fun i => N.wkid n c k i), hpre]; exact hn146)⟩
  ·
    intro _ _ _ _ _ _ _ _ _ h; exact h.elim
set_option maxRecDepth 100000 in
theorem pick_ok {I : GH} (ht : TabG I) {v : Value} {n : N} (hn : NodeAt I v n) (hfit : n.fit) {m : Nat} (hm : m < 2 ^ 32)
    (hsz : N.sizes ((bitsL m).map fun (i : Nat) => n.kid (i : Int)) ≤ 1000000) :
    Fn Tryd.prog 158 #[v, .int .u32 ((m : Nat) : Int)] I [] (fun r J _ => NodeAt J r (n.pick m)) := by
  refine enterM (args := [v, .int .u32 ((m : Nat) : Int)]) Tryd.func158 rfl rfl fun w0 hs0 => ?_
  refine wp_seq_k fun K1 hK2 => ?_
  refine wl_begin ?_
  refine sqo rfl fun K3 hK4 => ow_newbox (mk := fun b => .pointer (some ⟨b, 0, none⟩)) hs0 (r_box rfl (One.cells hn.one)) rfl ?_
  rintro b5 w6 (hs7 : St w0 I (ids []) I [⟨b5, #[v], 28⟩] w6)
  clear hs0
  refine hK4 _ _ ?_; clear hK4 K3
  refine sq (r_assign rfl) rfl ?_
  refine wl_nil ?_
  refine hK2 _ _ ?_; (try clear hK2 K1)
  refine wp_seq_k fun K8 hK9 => ?_
  refine wl_begin ?_
  refine sqo rfl fun K10 hK11 => ow_newbox (mk := fun b => .pointer (some ⟨b, 0, none⟩)) hs7 (r_alloc (cs := [.slice none 0 0]) (by kernel_rfl)) rfl ?_
  rintro b12 w13 (hs14 : St w0 I (ids []) I [⟨b12, #[.slice none 0 0], 135⟩, ⟨b5, #[v], 28⟩] w13)
  clear hs7
  refine hK11 _ _ ?_; clear hK11 K10
  refine wl_nil ?_
  refine hK9 _ _ ?_; (try clear hK9 K8)
  refine wp_seq_k fun K15 hK16 => ?_
  refine wp_seq_k fun K17 hK18 => ?_
  refine wl_begin ?_
  refine sq (r_move rfl) rfl ?_
  refine sqo rfl fun K19 hK20 => ow_call (X := []) (L := [⟨b12, #[.slice none 0 0], 135⟩, ⟨b5, #[v], 28⟩]) (lb := []) hs14 (all_ok ht hm) (by kernel_rfl) rfl rfl rfl rfl rfl ?_
  rintro _ G1 X1 w23 ⟨b21, rfl, hq22⟩ le26 hs24 hid25
  obtain rfl : X1 = [] := List.map_eq_nil_iff.1 hid25
  replace hs24 : St w0 I (ids []) G1 [⟨b12, #[.slice none 0 0], 135⟩, ⟨b5, #[v], 28⟩] w23 := hs24
  clear hs14 hid25
  refine hK20 _ _ ?_; clear hK20 K19
  refine wl_nil ?_
  refine hK18 _ _ ?_; (try clear hK18 K17)
  refine wp_block ?_
  refine nrm (vals := [(0, v), (1, .int .u32 ((m : Nat) : Int)), (2, .pointer (some ⟨b5, 0, none⟩)), (4, .nilIface), (5, .pointer (some ⟨b12, 0, none⟩)), (10, .func (.func 117) #[] #[.pointer (some ⟨b21, 0, none⟩)])]) (.cons rfl (.cons rfl (.cons rfl (.cons rfl (.cons rfl (.cons rfl .nil)))))) fun g27 => ?_
  refine rangeF (α := Fin 32) (enc := encF) hs24 rfl rfl (by kernel_rfl) hq22 rfl (fun (pre : List (Fin 32)) (G2 : GH) (LL : List Bx) => ∃ (rv : Value), ∃ (vs : List Value), ∃ (RR : List Bx), LL = (⟨b12, #[rv], 135⟩ :: (⟨b5, #[v], 28⟩ :: (RR ++ []))) ∧ (RowAt 28 1 rv pre.length vs RR) ∧ (NodesAt G2 vs (pre.map (fun i => N.kid n ((i.val : Nat) : Int))))) (fun _ _ _ _ => False) ⟨_, [], [], rfl, RowAt.nil _ _, rfl⟩ (fun x => upd (upd (updL g27 [(0, v), (1, .int .u32 ((m : Nat) : Int)), (2, .pointer (some ⟨b5, 0, none⟩)), (4, .nilIface), (5, .pointer (some ⟨b12, 0, none⟩)), (10, .func (.func 117) #[] #[.pointer (some ⟨b21, 0, none⟩)])]) 11 (encF x)) 6 (.int .i64 ((x.val : Nat) : Int))) ?_ ?_ ?_ ?_
  ·
    intro l x W K hK
    refine wl_beginR (by kernel_rfl) (fun _ _ h => h) ?_
    refine sq (r_assign rfl) rfl ?_
    refine wl_nil ?_
    exact hK
  ·
    rintro l pre x G2 LL W32 hlen31 le28 ⟨rv, vs, RR, rfl, hrow, hks⟩ hown30 hs29
    clear hs24
    replace hs29 : St W32 G2 (ids (⟨b12, #[rv], 135⟩ :: (⟨b5, #[v], 28⟩ :: (RR ++ [])))) G2 (⟨b12, #[rv], 135⟩ :: (⟨b5, #[v], 28⟩ :: (RR ++ []))) W32 := hs29
    refine blockR ?_
    refine seqR fun K33 hK34 => ?_
    refine wl_beginR (by kernel_rfl) (fun _ _ h => h) ?_
    refine sq (r_load rfl (by kernel_rfl) rfl (hs29.box (.tail _ (.head _))) rfl) rfl ?_
    refine sq (r_move rfl) rfl ?_
    refine sqo rfl fun K35 hK36 => ow_call (X := []) (L := (⟨b12, #[rv], 135⟩ :: (⟨b5, #[v], 28⟩ :: (RR ++ [])))) (lb := []) hs29 (kid_ok (hn.up (le26.trans le28)) hfit ((x.val : Nat) : Int)) (by kernel_rfl) rfl rfl rfl rfl rfl ?_
    rintro _ _ X1 w39 ⟨u37, rfl, hn38, rfl⟩ - hs40 hid41
    obtain rfl : X1 = [] := List.map_eq_nil_iff.1 hid41
    replace hs40 : St W32 G2 (ids (⟨b12, #[rv], 135⟩ :: (⟨b5, #[v], 28⟩ :: (RR ++ [])))) G2 (⟨b12, #[rv], 135⟩ :: (⟨b5, #[v], 28⟩ :: (RR ++ []))) w39 := hs40
    clear hs29 hid41
    refine hK36 _ _ ?_; clear hK36 K35
    refine sq (r_move rfl) rfl ?_
    refine sq (r_extract rfl rfl rfl) rfl ?_
    refine sq (r_extract rfl rfl rfl) rfl ?_
    refine sq (r_assign rfl) rfl ?_
    refine sq (r_assign rfl) rfl ?_
    refine wl_nil ?_
    refine hK34 _ _ ?_; (try clear hK34 K33)
    refine wl_beginR (by kernel_rfl) (fun _ _ h => h) ?_
    refine sq (r_load rfl (by kernel_rfl) rfl (hs40.box (.head _)) rfl) rfl ?_
    refine sq (r_move rfl) rfl ?_
    refine sqo rfl fun K42 hK43 => ow_newimm (mk := fun b => .slice (some ⟨b, 0, none⟩) 1 1) hs40 (r_buildSlice (e := 28) (cells := #[u37]) (.cons rfl (One.cells hn38.one) .nil) (by kernel_rfl)) rfl ?_
    rintro b44 G3 w45 hb46 le47 hs48 ge49
    clear hs40
    replace hb46 : G3 b44 = some (.cells #[u37] 28 (0, 0)) := hb46
    refine hK43 _ _ ?_; clear hK43 K42
    have hs52 : St W32 G2 (ids (⟨b12, #[rv], 135⟩ :: (⟨b5, #[v], 28⟩ :: (RR ++ [])))) G3 (RR ++ ([⟨b12, #[rv], 135⟩, ⟨b5, #[v], 28⟩] : List Bx)) w45 := hs48.perm (List.Perm.trans ((List.Perm.trans ((List.Perm.refl _).cons _) (List.perm_middle (l₁ := (RR : List Bx)) (a := (⟨b5, #[v], 28⟩ : Bx)) (l₂ := [])).symm).cons _) (List.perm_middle (l₁ := (RR : List Bx)) (a := (⟨b12, #[rv], 135⟩ : Bx)) (l₂ := [⟨b5, #[v], 28⟩])).symm); clear hs48
    refine sqo rfl fun K50 hK51 => ow_append (R := RR) (L := [⟨b12, #[rv], 135⟩, ⟨b5, #[v], 28⟩]) (E := 28) (sz := 1) (bytes := 16) (news := [u37]) hs52 hrow (by kernel_rfl) rfl rfl rfl rfl rfl rfl (SliceAt.news (m := 1) (hs52.imm hb46) rfl) (ones_old (.cons hn38.one .nil)) (by simp only [maxLen]; omega) (by omega) rfl ?_
    rintro v53 R54 w55 hr56 hs57 hf58
    replace hs57 : St W32 G2 (ids (⟨b12, #[rv], 135⟩ :: (⟨b5, #[v], 28⟩ :: (RR ++ [])))) G3 (R54 ++ ([⟨b12, #[rv], 135⟩, ⟨b5, #[v], 28⟩] : List Bx)) w55 := hs57; clear hs52 hf58
    refine hK51 _ _ ?_; clear hK51 K50
    have hs61 : St W32 G2 (ids (⟨b12, #[rv], 135⟩ :: (⟨b5, #[v], 28⟩ :: (RR ++ [])))) G3 (⟨b12, #[rv], 135⟩ :: (R54 ++ ([⟨b5, #[v], 28⟩] : List Bx))) w55 := hs57.perm (List.Perm.trans ((List.Perm.refl _).append_left _) (List.perm_middle (l₁ := (R54 : List Bx)) (a := (⟨b12, #[rv], 135⟩ : Bx)) (l₂ := [⟨b5, #[v], 28⟩]))); clear hs57
    refine sqo rfl fun K59 hK60 => ow_store (vs := [v53]) hs61 rfl rfl (by kernel_rfl) rfl (congrArg Array.toList (One.cells hr56.one)) (.cons hr56.one .nil) rfl ?_
    rintro w62 (hs63 : St W32 G2 (ids (⟨b12, #[rv], 135⟩ :: (⟨b5, #[v], 28⟩ :: (RR ++ [])))) G3 (⟨b12, #[v53], 135⟩ :: (R54 ++ ([⟨b5, #[v], 28⟩] : List Bx))) w62)
    clear hs61
    refine hK60 _ _ ?_; clear hK60 K59
    refine wl_nil ?_
    have hs64 : St W32 G2 (ids (⟨b12, #[rv], 135⟩ :: (⟨b5, #[v], 28⟩ :: (RR ++ [])))) G3 (R54 ++ ([⟨b12, #[v53], 135⟩, ⟨b5, #[v], 28⟩] : List Bx)) w62 := hs63.perm (List.Perm.trans ((List.Perm.refl _).cons _) (List.perm_middle (l₁ := (R54 : List Bx)) (a := (⟨b12, #[v53], 135⟩ : Bx)) (l₂ := [⟨b5, #[v], 28⟩])).symm); clear hs63
    have hs65 : St W32 G2 (ids (⟨b12, #[rv], 135⟩ :: (⟨b5, #[v], 28⟩ :: (RR ++ [])))) G3 (⟨b5, #[v], 28⟩ :: (R54 ++ ([⟨b12, #[v53], 135⟩] : List Bx))) w62 := hs64.perm (List.Perm.trans ((List.Perm.trans ((List.Perm.refl _).cons _) (List.Perm.swap _ _ _)).append_left _) (List.perm_middle (l₁ := (R54 : List Bx)) (a := (⟨b5, #[v], 28⟩ : Bx)) (l₂ := [⟨b12, #[v53], 135⟩]))); clear hs64
    have hs66 : St W32 G2 (ids (⟨b12, #[rv], 135⟩ :: (⟨b5, #[v], 28⟩ :: (RR ++ [])))) G3 (⟨b12, #[v53], 135⟩ :: (⟨b5, #[v], 28⟩ :: (R54 ++ []))) w62 := hs65.perm (List.Perm.trans ((List.Perm.trans ((List.Perm.refl _).append_left _) (List.perm_middle (l₁ := (R54 : List Bx)) (a := (⟨b12, #[v53], 135⟩ : Bx)) (l₂ := []))).cons _) (List.Perm.swap _ _ _)); clear hs65
    exact ⟨_, _, hs66, ⟨_, _, R54, rfl, (by simpa using hr56), (by rw [List.map_append]; exact NodesAt.snoc (NodesAt.up le47 hks) (hn38.up le47))⟩⟩
  ·
    generalize hpre : (bitsF m) = pre
    rintro D67 G2 LL W68 hD69 le72 ⟨rv, vs, RR, rfl, hrow, hks⟩ hD70 hsA71
    clear hs24
    replace hsA71 : St w0 I (ids []) G2 (⟨b12, #[rv], 135⟩ :: (⟨b5, #[v], 28⟩ :: (RR ++ []))) W68 := hsA71
    have hs73 : St w0 I (ids []) G2 (RR ++ ([⟨b12, #[rv], 135⟩, ⟨b5, #[v], 28⟩] : List Bx)) W68 := hsA71.perm (List.Perm.trans ((List.Perm.trans ((List.Perm.refl _).cons _) (List.perm_middle (l₁ := (RR : List Bx)) (a := (⟨b5, #[v], 28⟩ : Bx)) (l₂ := [])).symm).cons _) (List.perm_middle (l₁ := (RR : List Bx)) (a := (⟨b12, #[rv], 135⟩ : Bx)) (l₂ := [⟨b5, #[v], 28⟩])).symm); clear hsA71
    obtain ⟨G4, le74, hs75, hz76⟩ := hs73.freezeRow (R := RR) (L := [⟨b12, #[rv], 135⟩, ⟨b5, #[v], 28⟩]) hrow (fun _ h => by cases h); clear hs73
    replace hs75 : St w0 I (ids []) G4 [⟨b12, #[rv], 135⟩, ⟨b5, #[v], 28⟩] W68 := hs75
    have hs77 : St W68 G4 (ids [⟨b12, #[rv], 135⟩, ⟨b5, #[v], 28⟩]) G4 [⟨b12, #[rv], 135⟩, ⟨b5, #[v], 28⟩] W68 := hs75.base
    refine hK16 _ _ ?_; (try clear hK16 K15)
    refine wp_seq_k fun K78 hK79 => ?_
    refine wl_begin ?_
    refine sq (r_move rfl) rfl ?_
    refine sq (r_load rfl (by kernel_rfl) rfl (hs77.box (.head _)) rfl) rfl ?_
    have hks2 : NodesAt G4 vs (pre.map (fun i => N.kid n ((i.val : Nat) : Int))) := NodesAt.up le74 hks
    have hlen2 : (pre.map (fun i => N.kid n ((i.val : Nat) : Int))).length = pre.length := List.length_map _
    have hpl : pre.length ≤ 32 := by rw [← hpre, bitsF_length]; exact bitsL_le _
    have hsz2 : N.sizes (pre.map (fun i => N.kid n ((i.val : Nat) : Int))) ≤ 1000000 := by rw [← hpre, bits_map _ (fun i => N.kid n i)]; exact hsz
    refine sqo rfl fun K80 hK81 => ow_call (X := []) (L := [⟨b12, #[rv], 135⟩, ⟨b5, #[v], 28⟩]) (lb := []) hs77 (branch_ok (m := m) hm (kids := pre.map (fun i => N.kid n ((i.val : Nat) : Int))) (by rw [hlen2]; exact hz76) hks2 (by omega) hsz2) (by kernel_rfl) rfl rfl rfl rfl rfl ?_
    rintro v82 G5 X1 w84 hn83 le87 hs85 hid86
    obtain rfl : X1 = [] := List.map_eq_nil_iff.1 hid86
    replace hs85 : St W68 G4 (ids [⟨b12, #[rv], 135⟩, ⟨b5, #[v], 28⟩]) G5 [⟨b12, #[rv], 135⟩, ⟨b5, #[v], 28⟩] w84 := hs85
    clear hs77 hid86
    refine hK81 _ _ ?_; clear hK81 K80
    refine sq (r_assign rfl) rfl ?_
    refine wl_nil ?_
    refine hK79 _ _ ?_; (try clear hK79 K78)
    refine wp_ret ?_
    refine leaveM (X' := []) (L := [⟨b12, #[rv], 135⟩, ⟨b5, #[v], 28⟩]) hs75 hD70 hD69 hs85 rfl rfl (.inl rfl) (fun w88 hs89 => ?_)
    replace hs89 : St w0 I (ids []) G5 [⟨b12, #[rv], 135⟩, ⟨b5, #[v], 28⟩] w88 := hs89
    exact ⟨_, (res_one (v := v82) rfl (.tmp rfl rfl .nil)), (by unfold N.pick; rw [← bits_map _ (fun i => N.kid n i), hpre]; exact hn83)⟩
  ·
    intro _ _ _ _ _ _ _ _ _ h; exact h.elim
end Go.Proofs.YtlnlodfnplkckaaDoor
/- Tries as such: the way of a hash, what is put, what is deleted; what trees they are. Each theorem's conditions stand in it. -/
namespace Go.Proofs.YtlnlodfnplkckaaDoor
open T (Sm)
set_option linter.unusedVariables false
/-! ### Sets -/
theorem bitsL_nodup (m : Nat) : (bitsL m).Nodup := List.Pairwise.filter _ List.nodup_range
theorem or_bit {m c j : Nat} (hc : c < 32) : (m ||| bitN (c : Int)).testBit j = (m.testBit j || decide (j = c)) := by
  rw [bitN_of hc, Nat.testBit_or, Nat.testBit_two_pow]
  congr 1
  by_cases e : c = j
  · subst e; simp
  · simp [e, Ne.symm e]
theorem andNot_bit {m c j : Nat} (hm : m < 2 ^ 32) (hc : c < 32) : (andNot 32 m (bitN (c : Int))).testBit j = (m.testBit j && !decide (j = c)) := by
  unfold andNot
  rw [bitN_of hc, Nat.testBit_and]
  by_cases hj : j < 32
  · have h2 : 2 ^ c < 2 ^ 32 := Nat.pow_lt_pow_right (by decide) hc
    have : 2 ^ 32 - 1 - 2 ^ c = 2 ^ 32 - (2 ^ c + 1) := by omega
    rw [this, Nat.testBit_two_pow_sub_succ h2, Nat.testBit_two_pow]
    by_cases e : c = j
    · subst e; simp
    · simp [e, Ne.symm e, hj]
  · have hmj : m.testBit j = false := Nat.testBit_lt_two_pow (Nat.lt_of_lt_of_le hm (Nat.pow_le_pow_right (by decide) (by omega)))
    simp [hmj]
theorem andNot_lt32 {m : Nat} (b : Nat) (hm : m < 2 ^ 32) : andNot 32 m b < 2 ^ 32 := andNot_lt b hm
theorem cntB_at {m j : Nat} (hj : j < (bitsL m).length) : cntB m (bitsL m)[j] = j := by
  have hmem : (bitsL m)[j] ∈ bitsL m := List.getElem_mem hj
  have h1 := mem_bitsL.1 hmem
  have h2 := bitsL_at h1.1 h1.2
  have h3 := cntB_lt h1.1 h1.2
  have h4 : (bitsL m)[cntB m (bitsL m)[j]]'h3 = (bitsL m)[j] := by
    rw [List.getElem?_eq_getElem h3] at h2
    exact Option.some.inj h2
  exact (List.getElem_inj (bitsL_nodup m)).1 h4

/-! ### Children -/
namespace N
theorem kid_lt (m : Nat) (kids : List N) (c : Int) : SizeOf.sizeOf (kid (.branch m kids) c) < SizeOf.sizeOf (N.branch m kids) := by
  have hn : SizeOf.sizeOf N.none < SizeOf.sizeOf (N.branch m kids) := by
    simp only [N.none.sizeOf_spec, N.branch.sizeOf_spec]
    have : 0 < SizeOf.sizeOf kids := by cases kids <;> simp <;> omega
    omega
  simp only [kid]
  split
  · exact hn
  · rw [List.getD_eq_getElem?_getD]
    by_cases h : cntB m c.toNat < kids.length
    · rw [List.getElem?_eq_getElem h]
      have := List.sizeOf_lt_of_mem (List.getElem_mem h)
      simp only [Option.getD_some, N.branch.sizeOf_spec]
      omega
    · rw [List.getElem?_eq_none (by omega)]
      exact hn
theorem has_iff {m : Nat} {kids : List N} {c : Nat} (hc : c < 32) : has (.branch m kids) (c : Int) = m.testBit c := by
  have := bitN_and m (c : Int)
  simp only [has]
  by_cases h : m.testBit c = true
  · have h2 : ¬ (m &&& bitN (c : Int) = 0) := fun h3 => (this.1 h3) ⟨by omega, by omega, by simpa using h⟩
    simp [h2, h]
  · have h2 : m &&& bitN (c : Int) = 0 := this.2 fun h3 => h (by simpa using h3.2.2)
    simp [h2, h]
theorem kid_no {m : Nat} {kids : List N} {c : Nat} (h : ¬ m.testBit c = true) : kid (.branch m kids) (c : Int) = .none := by
  simp only [kid]
  rw [if_pos ((bitN_and m (c : Int)).2 fun h3 => h (by simpa using h3.2.2))]
theorem kid_yes {m : Nat} {kids : List N} {c : Nat} (hc : c < 32) (h : m.testBit c = true) : kid (.branch m kids) (c : Int) = kids.getD (cntB m c) .none := by
  simp only [kid]
  rw [if_neg (fun h3 => (bitN_and m (c : Int)).1 h3 ⟨by omega, by omega, by simpa using h⟩)]
  rfl
theorem kids_eq {m : Nat} {kids : List N} (h : kids.length = (bitsL m).length) : kids = (bitsL m).map fun (i : Nat) => kid (.branch m kids) (i : Int) := by
  apply List.ext_getElem
  · simp [h]
  · intro j h1 h2
    have hj : j < (bitsL m).length := by omega
    have hm := mem_bitsL.1 (List.getElem_mem hj)
    rw [List.getElem_map, kid_yes hm.1 hm.2, cntB_at hj, List.getD_eq_getElem?_getD, List.getElem?_eq_getElem h1]
    rfl
/-- The children of what Branch makes. -/
theorem kid_map {m : Nat} {F : Nat → N} {c : Nat} (hc : c < 32) : kid (.branch m ((bitsL m).map F)) (c : Int) = if m.testBit c = true then F c else .none := by
  split
  · rename_i h
    rw [kid_yes hc h, List.getD_eq_getElem?_getD, List.getElem?_map, bitsL_at hc h]
    rfl
  · rename_i h; exact kid_no h
theorem mk_ne {m : Nat} {kids : List N} (h : mk m kids ≠ .none) : mk m kids = .branch m kids ∧ kids.length ≠ 0 ∧ kids.length = (bitsL m).length ∧ ∀ n ∈ kids, n.isN = false := by
  unfold mk at h ⊢
  split at h
  · exact absurd rfl h
  · rename_i hn
    rw [if_neg hn]
    refine ⟨rfl, fun e => hn (.inl e), Classical.byContradiction fun e => hn (.inr (.inl e)), fun n hm => ?_⟩
    cases hb : n.isN with
    | false => rfl
    | true => exact absurd (.inr (.inr (List.any_eq_true.2 ⟨n, hm, hb⟩))) hn
theorem mk_yes {m : Nat} {kids : List N} (h0 : kids.length ≠ 0) (h1 : kids.length = (bitsL m).length) (h2 : ∀ n ∈ kids, n.isN = false) : mk m kids = .branch m kids := by
  unfold mk
  rw [if_neg]
  rintro (h | h | h)
  · exact h0 h
  · exact h h1
  · obtain ⟨n, h3, h4⟩ := List.any_eq_true.1 h
    rw [h2 n h3] at h4; cases h4
theorem mk_fit (m : Nat) (kids : List N) : (mk m kids).fit := by
  by_cases h : mk m kids = .none
  · rw [h]; trivial
  · rw [(mk_ne h).1]; exact (mk_ne h).2.2.1
theorem kid_mem {m : Nat} {kids : List N} {c : Int} (hf : kids.length = (bitsL m).length) (h : has (.branch m kids) c = true) : kid (.branch m kids) c ∈ kids := by
  simp only [has, Bool.not_eq_true', decide_eq_false_iff_not] at h
  have h2 := h
  rw [bitN_and, Classical.not_not] at h2
  obtain ⟨h3, h4, h5⟩ := h2
  simp only [kid, h, if_false]
  have := cntB_lt (m := m) (i := c.toNat) (by omega) h5
  rw [List.getD_eq_getElem?_getD, List.getElem?_eq_getElem (by omega)]
  exact List.getElem_mem _
theorem mk_kid (m : Nat) (kids : List N) (c : Int) (h : (mk m kids).has c = true) : ((mk m kids).kid c).isN = false := by
  by_cases h0 : mk m kids = .none
  · rw [h0] at h; cases h
  · obtain ⟨e, _, h2, h3⟩ := mk_ne h0
    rw [e] at h ⊢
    exact h3 _ (kid_mem h2 h)

/-! ### How many pairs -/
def sumL (l : List Nat) : Nat := l.foldr (· + ·) 0
theorem sizes_sum (l : List N) : sizes l = sumL (l.map size) := by
  induction l with
  | nil => rfl
  | cons n l ih => simp only [sizes, List.map_cons, sumL, List.foldr_cons] at ih ⊢; omega
theorem sumL_append (l m : List Nat) : sumL (l ++ m) = sumL l + sumL m := by
  induction l with
  | nil => simp [sumL]
  | cons n l ih => simp only [List.cons_append, sumL, List.foldr_cons] at ih ⊢; omega
theorem sumL_filter {α : Type} (p : α → Bool) (F : α → Nat) (l : List α) : sumL ((l.filter p).map F) = sumL (l.map fun i => if p i = true then F i else 0) := by
  induction l with
  | nil => rfl
  | cons a l ih =>
    by_cases h : p a = true
    · rw [List.filter_cons_of_pos h]
      simp only [List.map_cons, sumL, List.foldr_cons, h, if_true] at ih ⊢; omega
    · rw [List.filter_cons_of_neg h]
      simp only [List.map_cons, sumL, List.foldr_cons, h] at ih ⊢
      simpa using ih
/-- What is summed over a set. -/
theorem sum_bits (m : Nat) (F : Nat → Nat) : sumL ((bitsL m).map F) = sumL ((List.range 32).map fun i => if m.testBit i = true then F i else 0) := sumL_filter _ _ _
theorem sum_one {F G : Nat → Nat} {c n : Nat} (hc : c < n) (h : ∀ i, i ≠ c → F i = G i) : sumL ((List.range n).map F) + G c = sumL ((List.range n).map G) + F c := by
  induction n with
  | zero => omega
  | succ n ih =>
    rw [List.range_succ, List.map_append, List.map_append, sumL_append, sumL_append]
    simp only [List.map_cons, List.map_nil, sumL, List.foldr_cons, List.foldr_nil, Nat.add_zero]
    simp only [sumL] at ih
    by_cases e : c = n
    · subst e
      have : (List.range c).map F = (List.range c).map G := by
        apply List.map_congr_left
        intro i hi
        have := List.mem_range.1 hi
        exact h i (by omega)
      rw [this]; omega
    · have := ih (by omega)
      have h2 := h n (by omega)
      omega
theorem branch_size {m : Nat} {kids : List N} (h : kids.length = (bitsL m).length) : (N.branch m kids).size = sumL ((List.range 32).map fun (i : Nat) => (kid (.branch m kids) (i : Int)).size) := by
  have h1 : (N.branch m kids).size = sizes kids := rfl
  have h2 := congrArg sizes (kids_eq h)
  rw [h1, h2, sizes_sum, List.map_map, sum_bits]
  congr 1
  apply List.map_congr_left
  intro i hi
  by_cases hb : m.testBit i = true
  · simp [hb]
  · rw [if_neg hb, kid_no hb]; rfl
theorem withK_sizes {m c : Nat} {kids : List N} {k : N} (hc : c < 32) (h : kids.length = (bitsL m).length) :
    sizes ((bitsL (m ||| bitN (c : Int))).map fun (i : Nat) => wkid (.branch m kids) (c : Int) k (i : Int)) + (kid (.branch m kids) (c : Int)).size = (N.branch m kids).size + k.size := by
  rw [sizes_sum, List.map_map, sum_bits, branch_size h]
  have := sum_one (F := fun i => if (m ||| bitN (c : Int)).testBit i = true then (size ∘ fun (i : Nat) => wkid (.branch m kids) (c : Int) k (i : Int)) i else 0) (G := fun (i : Nat) => (kid (.branch m kids) (i : Int)).size) hc ?_
  · rw [if_pos (by rw [or_bit hc]; simp)] at this
    simp only [Function.comp, wkid, if_true] at this ⊢
    exact this
  · intro i hi
    simp only [Function.comp, wkid]
    rw [or_bit hc]
    by_cases hb : m.testBit i = true
    · rw [hb, Bool.true_or, if_pos rfl, if_neg (by omega)]
    · rw [kid_no hb]
      have : ¬ (m.testBit i || decide (i = c)) = true := by simp [hi, hb]
      rw [if_neg this]; rfl
theorem pick_sizes {m c : Nat} {kids : List N} (hm : m < 2 ^ 32) (hc : c < 32) (h : kids.length = (bitsL m).length) :
    sizes ((bitsL (andNot 32 m (bitN (c : Int)))).map fun (i : Nat) => kid (.branch m kids) (i : Int)) + (kid (.branch m kids) (c : Int)).size = (N.branch m kids).size := by
  rw [sizes_sum, List.map_map, sum_bits, branch_size h]
  have := sum_one (F := fun i => if (andNot 32 m (bitN (c : Int))).testBit i = true then (size ∘ fun (i : Nat) => kid (.branch m kids) (i : Int)) i else 0) (G := fun (i : Nat) => (kid (.branch m kids) (i : Int)).size) hc ?_
  · rw [if_neg (by rw [andNot_bit hm hc]; simp)] at this
    simp only [Function.comp] at this ⊢
    omega
  · intro i hi
    simp only [Function.comp]
    rw [andNot_bit hm hc]
    by_cases hb : m.testBit i = true
    · rw [if_pos (by simp [hb, hi])]
    · rw [kid_no hb, if_neg (by simp [hb])]; rfl

/-- By the kinds of nodes, and their children. -/
theorem rec2 {P : N → Nat → Prop} (h0 : ∀ l, P .none l) (h1 : ∀ h k x l, P (.leaf h k x) l) (h2 : ∀ h t l, P (.bucket h t) l)
    (h3 : ∀ m kids l, (∀ (c : Int) (l' : Nat), P (kid (.branch m kids) c) l') → P (.branch m kids) l) : ∀ n l, P n l := by
  have key : ∀ (s : Nat) (n : N) (l : Nat), SizeOf.sizeOf n < s → P n l := by
    intro s
    induction s with
    | zero => intro n l h; omega
    | succ s ih =>
      intro n l h
      cases n with
      | none => exact h0 l
      | leaf g k x => exact h1 g k x l
      | bucket g t => exact h2 g t l
      | branch m kids => exact h3 m kids l fun c l' => ih _ _ (Nat.lt_of_lt_of_le (kid_lt m kids c) (Nat.le_of_lt_succ h))
  exact fun n l => key _ n l (Nat.lt_succ_self _)

/-! ### What the functions do -/
def way (h : Nat) : N → Nat → N × Nat
  | .branch m kids, l => way h (kid (.branch m kids) ((chunkN h l : Nat) : Int)) (l + 1)
  | n, l => (n, l)
termination_by n => SizeOf.sizeOf n
decreasing_by exact kid_lt _ _ _
/-- Two nodes of unlike hashes. -/
def fork : Nat → N → Nat → N → Nat → Nat → N
  | 0, _, _, _, _, _ => .none
  | f + 1, a, g, b, h, l =>
    if chunkN g l = chunkN h l then mk (ofN [chunkN g l]) [fork f a g b h (l + 1)]
    else if chunkN h l < chunkN g l then mk (ofN [chunkN g l, chunkN h l]) [b, a] else mk (ofN [chunkN g l, chunkN h l]) [a, b]
def ins (h : Nat) (k x : Bs) : N → Nat → N × Bool
  | .none, _ => (.leaf h k x, true)
  | .leaf g k0 x0, l => if g ≠ h then (fork 13 (.leaf g k0 x0) g (.leaf h k x) h l, true) else if cmpB k k0 = 0 then (.leaf h k x, false) else (ofTree h ((T.fromL [(k0, x0)]).put k x), true)
  | .bucket g t, l => if g ≠ h then (fork 13 (.bucket g t) g (.leaf h k x) h l, true) else (ofTree h (t.put k x), decide (t.size < (t.put k x).size))
  | .branch m kids, l => (withK (.branch m kids) ((chunkN h l : Nat) : Int) (ins h k x (kid (.branch m kids) ((chunkN h l : Nat) : Int)) (l + 1)).1, (ins h k x (kid (.branch m kids) ((chunkN h l : Nat) : Int)) (l + 1)).2)
termination_by n => SizeOf.sizeOf n
decreasing_by all_goals exact kid_lt _ _ _
def insV (h : Nat) (k : Bs) : N → Nat → Nat
  | .none, _ => 0
  | .leaf _ _ _, _ => 1
  | .bucket g t, _ => if g ≠ h then 0 else t.path k
  | .branch m kids, l => 1 + insV h k (kid (.branch m kids) ((chunkN h l : Nat) : Int)) (l + 1)
termination_by n => SizeOf.sizeOf n
decreasing_by exact kid_lt _ _ _
def insC (h : Nat) (k : Bs) : N → Nat → Nat
  | .none, _ => 0
  | .leaf g _ _, _ => if g ≠ h then 0 else 1
  | .bucket g t, _ => if g ≠ h then 0 else t.path k
  | .branch m kids, l => insC h k (kid (.branch m kids) ((chunkN h l : Nat) : Int)) (l + 1)
termination_by n => SizeOf.sizeOf n
decreasing_by exact kid_lt _ _ _
/-- A branch of one child that is none itself gives way. -/
def collapse (n : N) : N :=
  match n with
  | .branch m kids => if (bitsL m).length ≠ 1 then n else if (kid n (((nthN m 0).getD 0 : Nat) : Int)).kind = 3 then n else kid n (((nthN m 0).getD 0 : Nat) : Int)
  | _ => n
def rem (h : Nat) (k : Bs) : N → Nat → Option N
  | .none, _ => Option.none
  | .leaf g k0 _, _ => if g ≠ h then Option.none else if cmpB k k0 ≠ 0 then Option.none else some .none
  | .bucket g t, _ => if g ≠ h then Option.none else (t.del k).map (ofTree h)
  | .branch m kids, l =>
    if has (.branch m kids) ((chunkN h l : Nat) : Int) = false then Option.none
    else (rem h k (kid (.branch m kids) ((chunkN h l : Nat) : Int)) (l + 1)).map fun r =>
      if r.isN = true then collapse (pick (.branch m kids) (andNot 32 m (bitN ((chunkN h l : Nat) : Int)))) else collapse (withK (.branch m kids) ((chunkN h l : Nat) : Int) r)
termination_by n => SizeOf.sizeOf n
decreasing_by exact kid_lt _ _ _
def remV (h : Nat) (k : Bs) : N → Nat → Nat
  | .none, _ => 0
  | .leaf _ _ _, _ => 1
  | .bucket g t, _ => if g ≠ h then 0 else t.delV k
  | .branch m kids, l => if has (.branch m kids) ((chunkN h l : Nat) : Int) = false then 1 else 1 + remV h k (kid (.branch m kids) ((chunkN h l : Nat) : Int)) (l + 1)
termination_by n => SizeOf.sizeOf n
decreasing_by exact kid_lt _ _ _
/-- What find.Get answers, and what it costs behind the branches. -/
def endGet (h : Nat) (k : Bs) : N → Option Bs
  | .leaf g k0 x0 => if g = h ∧ cmpB k k0 = 0 then some x0 else Option.none
  | .bucket g t => if g = h then t.get k else Option.none
  | _ => Option.none
def endV (h : Nat) (k : Bs) : N → Nat
  | .leaf _ _ _ => 1
  | .bucket g t => if g = h then t.path k else 0
  | _ => 0
def endC (h : Nat) (k : Bs) : N → Nat
  | .leaf g _ _ => if g = h then 1 else 0
  | .bucket g t => if g = h then t.path k else 0
  | _ => 0

/-! ### What tries they are: at a level, below a way -/
inductive WF : Nat → Nat → N → Prop where
  | none {l q : Nat} : WF l q .none
  | leaf {l q h : Nat} {k x : Bs} (hh : h < 2 ^ 64) (hq : h % 32 ^ l = q) (hk : k.length ≤ 1000000) (hx : x.length ≤ 1000000) : WF l q (.leaf h k x)
  | bucket {l q h : Nat} {t : T} (hh : h < 2 ^ 64) (hq : h % 32 ^ l = q) (hs : Sm t.toList) (h2 : 2 ≤ t.size) : WF l q (.bucket h t)
  | branch {l q m : Nat} {kids : List N} (hl : l < 13) (hm : m < 2 ^ 32) (hf : kids.length = (bitsL m).length) (h0 : kids.length ≠ 0) (hn : ∀ n ∈ kids, n.isN = false)
      (hk : ∀ i, i < 32 → m.testBit i = true → WF (l + 1) (q + i * 32 ^ l) (kid (.branch m kids) ((i : Nat) : Int))) : WF l q (.branch m kids)
theorem WF.fit {l q : Nat} {n : N} (h : WF l q n) : n.fit := by
  cases h with
  | branch hl hm hf h0 hn hk => exact hf
  | _ => trivial
theorem WF.map_lt {l q : Nat} {n : N} (h : WF l q n) : n.map.getD 0 < 2 ^ 32 := by
  cases h with
  | branch hl hm hf h0 hn hk => exact hm
  | _ => exact Nat.two_pow_pos 32
theorem WF.hash_lt {l q : Nat} {n : N} (h : WF l q n) : n.hash.getD 0 < 2 ^ 64 := by
  cases h with
  | leaf hh hq hk hx => exact hh
  | bucket hh hq hs h2 => exact hh
  | _ => exact Nat.two_pow_pos 64
theorem WF.kid {l q : Nat} {m : Nat} {kids : List N} (h : WF l q (.branch m kids)) {c : Nat} (hc : c < 32) : WF (l + 1) (q + c * 32 ^ l) (N.kid (.branch m kids) ((c : Nat) : Int)) := by
  cases h with
  | branch hl hm hf h0 hn hk =>
    by_cases hb : m.testBit c = true
    · exact hk c hc hb
    · rw [kid_no hb]; exact .none
theorem chunk_step {h l q : Nat} (hl : l < 13) (hq : h % 32 ^ l = q) : h % 32 ^ (l + 1) = q + chunkN h l * 32 ^ l := by
  have e : chunkN h l = h / 32 ^ l % 32 := by
    unfold chunkN
    rw [Nat.min_eq_left (by omega), Nat.pow_mul]
  rw [e, Nat.pow_succ, Nat.mod_mul, hq, Nat.mul_comm]
end N
end Go.Proofs.YtlnlodfnplkckaaDoor
/- The contracts of graft.fork, prune.collapse, prune.without, find.way. -/
namespace Go.Proofs.YtlnlodfnplkckaaDoor
set_option linter.unusedVariables false
set_option linter.unusedSimpArgs false
theorem ints1 {I : GH} {b c : Nat} {T0 : TypeId} (hb : I b = some (.cells #[.int .i64 ((c : Nat) : Int)] T0 (0, 0))) : IntsAt I b [c] :=
  ⟨_, _, _, hb, fun i h => by
    have : i = 0 := by simpa using h
    subst this; rfl⟩
theorem ints2 {I : GH} {b c d : Nat} {T0 : TypeId} (hb : I b = some (.cells #[.int .i64 ((c : Nat) : Int), .int .i64 ((d : Nat) : Int)] T0 (0, 0))) : IntsAt I b [c, d] :=
  ⟨_, _, _, hb, fun i h => by
    have : i = 0 ∨ i = 1 := by simp only [List.length_cons, List.length_nil] at h; omega
    rcases this with rfl | rfl <;> rfl⟩
theorem lit1 {I : GH} {b : Nat} {u : Value} {T0 : TypeId} (hb : I b = some (.cells #[u] T0 (0, 0))) : SliceAt I (.slice (some ⟨b, 0, none⟩) 1 1) 1 1 [u] :=
  ⟨_, 1, rfl, Nat.le_refl _, (fun h => by cases h), rfl, fun _ => ⟨b, 0, _, _, _, rfl, hb, rfl⟩⟩
theorem lit2 {I : GH} {b : Nat} {u v : Value} {T0 : TypeId} (hb : I b = some (.cells #[u, v] T0 (0, 0))) : SliceAt I (.slice (some ⟨b, 0, none⟩) 2 2) 2 1 [u, v] :=
  ⟨_, 2, rfl, Nat.le_refl _, (fun h => by cases h), rfl, fun _ => ⟨b, 0, _, _, _, rfl, hb, rfl⟩⟩
theorem N.mk_size (m : Nat) (kids : List N) : (N.mk m kids).size ≤ N.sizes kids := by
  unfold N.mk
  split
  · exact Nat.zero_le _
  · exact Nat.le_refl _
theorem N.fork_size : ∀ (f : Nat) (a : N) (g : Nat) (b : N) (h l : Nat), (N.fork f a g b h l).size ≤ a.size + b.size := by
  intro f
  induction f with
  | zero => intro a g b h l; exact Nat.zero_le _
  | succ f ih =>
    intro a g b h l
    simp only [N.fork]
    split
    · have h1 := N.mk_size (ofN [chunkN g l]) [N.fork f a g b h (l + 1)]
      have h2 := ih a g b h (l + 1)
      simp only [N.sizes] at h1
      omega
    · split
      · have h1 := N.mk_size (ofN [chunkN g l, chunkN h l]) [b, a]
        simp only [N.sizes] at h1
        omega
      · have h1 := N.mk_size (ofN [chunkN g l, chunkN h l]) [a, b]
        simp only [N.sizes] at h1
        omega
set_option maxRecDepth 100000 in
theorem fork_ok {g h : Nat} (hg : g < 2 ^ 64) (hh : h < 2 ^ 64) {a b : N} (hsz : a.size + b.size ≤ 1000000) : ∀ (f : Nat) {I : GH} {av bv : Value} {l : Nat}, NodeAt I av a → NodeAt I bv b → l + f ≤ 1000 → (∃ j, j < f ∧ chunkN g (l + j) ≠ chunkN h (l + j)) →
    Fn Tryd.prog 135 #[av, .int .u64 ((g : Nat) : Int), bv, .int .u64 ((h : Nat) : Int), .int .i64 ((l : Nat) : Int)] I [] (fun v J _ => NodeAt J v (N.fork f a g b h l)) := by
  intro f
  induction f with
  | zero => intro I av bv l _ _ _ hd; obtain ⟨j, h1, _⟩ := hd; omega
  | succ f ih =>
    intro I av bv l ha hb hlf hd
    refine enter (args := [av, .int .u64 ((g : Nat) : Int), bv, .int .u64 ((h : Nat) : Int), .int .i64 ((l : Nat) : Int)]) Tryd.func135 rfl rfl fun w0 hs0 => ?_
    refine wp_seq_k fun K1 hK2 => ?_
    refine wl_begin ?_
    refine sq (r_assign rfl) rfl ?_
    refine wl_nil ?_
    refine hK2 _ _ ?_; (try clear hK2 K1)
    refine wp_seq_k fun K3 hK4 => ?_
    refine wl_begin ?_
    refine sq (r_move rfl) rfl ?_
    refine sq (r_move rfl) rfl ?_
    refine sqo rfl fun K5 hK6 => ow_call (X := []) (L := []) (lb := []) hs0 (chunk_ok (h := g) (l := l) hg) (by kernel_rfl) rfl rfl rfl rfl rfl ?_
    rintro _ _ X1 w7 ⟨rfl, rfl⟩ - hs8 hid9
    obtain rfl : X1 = [] := List.map_eq_nil_iff.1 hid9
    replace hs8 : St w0 I (ids []) I [] w7 := hs8
    clear hs0 hid9
    refine hK6 _ _ ?_; clear hK6 K5
    refine sq (r_move rfl) rfl ?_
    refine sq (r_move rfl) rfl ?_
    refine sqo rfl fun K10 hK11 => ow_call (X := []) (L := []) (lb := []) hs8 (chunk_ok (h := h) (l := l) hh) (by kernel_rfl) rfl rfl rfl rfl rfl ?_
    rintro _ _ X1 w12 ⟨rfl, rfl⟩ - hs13 hid14
    obtain rfl : X1 = [] := List.map_eq_nil_iff.1 hid14
    replace hs13 : St w0 I (ids []) I [] w12 := hs13
    clear hs8 hid14
    refine hK11 _ _ ?_; clear hK11 K10
    refine sq (r_assign rfl) rfl ?_
    refine sq (r_assign rfl) rfl ?_
    refine wl_nil ?_
    refine hK4 _ _ ?_; (try clear hK4 K3)
    refine wp_seq_k fun K15 hK16 => ?_
    refine wp_block ?_
    refine wp_seq_k fun K17 hK18 => ?_
    refine wl_begin ?_
    refine sq (r_move rfl) rfl ?_
    refine sq (r_move rfl) rfl ?_
    refine sq (r_eqi rfl rfl rfl rfl) rfl ?_
    refine sq (r_assign rfl) rfl ?_
    refine wl_nil ?_
    refine hK18 _ _ ?_; (try clear hK18 K17)
    refine condS rfl rfl (fun h19 => ?_) (fun h19 => ?_)
    ·
      have p20 := of_decide_eq_true h19
      refine wp_seq_k fun K21 hK22 => ?_
      refine nrm (vals := [(0, av), (1, .int .u64 ((g : Nat) : Int)), (2, bv), (3, .int .u64 ((h : Nat) : Int)), (4, .int .i64 ((l : Nat) : Int)), (10, .nilIface), (11, .int .i64 (((chunkN g l) : Nat) : Int)), (12, .int .i64 (((chunkN h l) : Nat) : Int)), (19, .bool (decide ((((chunkN g l) : Nat) : Int) = (((chunkN h l) : Nat) : Int))))]) (.cons rfl (.cons rfl (.cons rfl (.cons rfl (.cons rfl (.cons rfl (.cons rfl (.cons rfl (.cons rfl .nil))))))))) fun g23 => ?_
      refine wl_begin ?_
      refine sq (r_move rfl) rfl ?_
      refine sqo rfl fun K24 hK25 => ow_newimm (mk := fun b => .slice (some ⟨b, 0, none⟩) 1 1) hs13 (r_buildSlice (e := 3) (cells := #[.int .i64 (((chunkN g l) : Nat) : Int)]) (.cons rfl rfl .nil) (by kernel_rfl)) rfl ?_
      rintro b26 G1 w27 hb28 le29 hs30 ge31
      clear hs13
      replace hb28 : G1 b26 = some (.cells #[.int .i64 (((chunkN g l) : Nat) : Int)] 3 (0, 0)) := hb28
      refine hK25 _ _ ?_; clear hK25 K24
      refine sqo rfl fun K32 hK33 => ow_call (X := []) (L := []) (lb := []) hs30 (of_ok (l := [(chunkN g l)]) (ints1 hb28) (by simp)) (by kernel_rfl) rfl rfl rfl rfl rfl ?_
      rintro _ _ X1 w34 ⟨rfl, rfl⟩ - hs35 hid36
      obtain rfl : X1 = [] := List.map_eq_nil_iff.1 hid36
      replace hs35 : St w0 I (ids []) G1 [] w34 := hs35
      clear hs30 hid36
      refine hK33 _ _ ?_; clear hK33 K32
      refine sq (r_move rfl) rfl ?_
      refine sq (r_move rfl) rfl ?_
      refine sq (r_move rfl) rfl ?_
      refine sq (r_move rfl) rfl ?_
      refine sq (r_move rfl) rfl ?_
      refine sq (r_addi rfl rfl rfl rfl (by omega)) rfl ?_
      refine sqo rfl fun K37 hK38 => ow_call (X := []) (L := []) (lb := []) hs35 (ih (l := l + 1) (ha.up le29) (hb.up le29) (by omega) (by obtain ⟨j, h1, h2⟩ := hd; cases j with | zero => (simp only [Nat.add_zero] at h2; omega) | succ j => exact ⟨j, by omega, by rw [show l + 1 + j = l + (j + 1) by omega]; exact h2⟩)) (by kernel_rfl) rfl rfl rfl rfl rfl ?_
      rintro v39 G2 X1 w41 hn40 le44 hs42 hid43
      obtain rfl : X1 = [] := List.map_eq_nil_iff.1 hid43
      replace hs42 : St w0 I (ids []) G2 [] w41 := hs42
      clear hs35 hid43
      refine hK38 _ _ ?_; clear hK38 K37
      refine sqo rfl fun K45 hK46 => ow_newimm (mk := fun b => .slice (some ⟨b, 0, none⟩) 1 1) hs42 (r_buildSlice (e := 28) (cells := #[v39]) (.cons rfl (One.cells hn40.one) .nil) (by kernel_rfl)) rfl ?_
      rintro b47 G3 w48 hb49 le50 hs51 ge52
      clear hs42
      replace hb49 : G3 b47 = some (.cells #[v39] 28 (0, 0)) := hb49
      refine hK46 _ _ ?_; clear hK46 K45
      refine sqo rfl fun K53 hK54 => ow_call (X := []) (L := []) (lb := []) hs51 (branch_ok (m := (ofN [(chunkN g l)])) (ofN_lt _) (kids := [(N.fork f a g b h (l + 1))]) (lit1 hb49) ⟨_, _, rfl, (hn40.up le50), rfl⟩ (by simp) (by simp only [N.sizes]; have hfs := N.fork_size f a g b h (l + 1); omega)) (by kernel_rfl) rfl rfl rfl rfl rfl ?_
      rintro v55 G4 X1 w57 hn56 le60 hs58 hid59
      obtain rfl : X1 = [] := List.map_eq_nil_iff.1 hid59
      replace hs58 : St w0 I (ids []) G4 [] w57 := hs58
      clear hs51 hid59
      refine hK54 _ _ ?_; clear hK54 K53
      refine sq (r_assign rfl) rfl ?_
      refine wl_nil ?_
      refine hK22 _ _ ?_; (try clear hK22 K21)
      refine wp_ret ?_
      exact leave (X' := []) (L := []) hs58 rfl (res_one (v := v55) rfl (.tmp rfl rfl .nil)) (by rw [N.fork]; first | (rw [if_pos (by omega)]; exact hn56) | (rw [if_neg (by omega), if_pos (by omega)]; exact hn56) | (rw [if_neg (by omega), if_neg (by omega)]; exact hn56))
    ·
      have p61 := of_decide_eq_false h19
      refine wp_seq_k fun K62 hK63 => ?_
      refine nrm (vals := [(0, av), (1, .int .u64 ((g : Nat) : Int)), (2, bv), (3, .int .u64 ((h : Nat) : Int)), (4, .int .i64 ((l : Nat) : Int)), (10, .nilIface), (11, .int .i64 (((chunkN g l) : Nat) : Int)), (12, .int .i64 (((chunkN h l) : Nat) : Int)), (19, .bool (decide ((((chunkN g l) : Nat) : Int) = (((chunkN h l) : Nat) : Int))))]) (.cons rfl (.cons rfl (.cons rfl (.cons rfl (.cons rfl (.cons rfl (.cons rfl (.cons rfl (.cons rfl .nil))))))))) fun g64 => ?_
      refine wl_begin ?_
      refine sq (r_move rfl) rfl ?_
      refine sq (r_move rfl) rfl ?_
      refine sq (r_gti rfl rfl rfl rfl) rfl ?_
      refine sq (r_assign rfl) rfl ?_
      refine wl_nil ?_
      refine hK63 _ _ ?_; (try clear hK63 K62)
      refine condS rfl rfl (fun h65 => ?_) (fun h65 => ?_)
      ·
        have p66 := of_decide_eq_true h65
        refine wl_begin ?_
        refine sq (r_move rfl) rfl ?_
        refine sq (r_move rfl) rfl ?_
        refine sq (r_assign rfl) rfl ?_
        refine sq (r_assign rfl) rfl ?_
        refine wl_nil ?_
        refine hK16 _ _ ?_; (try clear hK16 K15)
        refine wp_seq_k fun K67 hK68 => ?_
        refine wl_begin ?_
        refine sq (r_move rfl) rfl ?_
        refine sq (r_move rfl) rfl ?_
        refine sqo rfl fun K69 hK70 => ow_newimm (mk := fun b => .slice (some ⟨b, 0, none⟩) 2 2) hs13 (r_buildSlice (e := 3) (cells := #[.int .i64 (((chunkN g l) : Nat) : Int), .int .i64 (((chunkN h l) : Nat) : Int)]) (.cons rfl rfl (.cons rfl rfl .nil)) (by kernel_rfl)) rfl ?_
        rintro b71 G5 w72 hb73 le74 hs75 ge76
        clear hs13
        replace hb73 : G5 b71 = some (.cells #[.int .i64 (((chunkN g l) : Nat) : Int), .int .i64 (((chunkN h l) : Nat) : Int)] 3 (0, 0)) := hb73
        refine hK70 _ _ ?_; clear hK70 K69
        refine sqo rfl fun K77 hK78 => ow_call (X := []) (L := []) (lb := []) hs75 (of_ok (l := [(chunkN g l), (chunkN h l)]) (ints2 hb73) (by simp)) (by kernel_rfl) rfl rfl rfl rfl rfl ?_
        rintro _ _ X1 w79 ⟨rfl, rfl⟩ - hs80 hid81
        obtain rfl : X1 = [] := List.map_eq_nil_iff.1 hid81
        replace hs80 : St w0 I (ids []) G5 [] w79 := hs80
        clear hs75 hid81
        refine hK78 _ _ ?_; clear hK78 K77
        refine sq (r_move rfl) rfl ?_
        refine sq (r_move rfl) rfl ?_
        refine sqo rfl fun K82 hK83 => ow_newimm (mk := fun b => .slice (some ⟨b, 0, none⟩) 2 2) hs80 (r_buildSlice (e := 28) (cells := #[bv, av]) (.cons rfl (One.cells hb.one) (.cons rfl (One.cells ha.one) .nil)) (by kernel_rfl)) rfl ?_
        rintro b84 G6 w85 hb86 le87 hs88 ge89
        clear hs80
        replace hb86 : G6 b84 = some (.cells #[bv, av] 28 (0, 0)) := hb86
        refine hK83 _ _ ?_; clear hK83 K82
        refine sqo rfl fun K90 hK91 => ow_call (X := []) (L := []) (lb := []) hs88 (branch_ok (m := (ofN [(chunkN g l), (chunkN h l)])) (ofN_lt _) (kids := [b, a]) (lit2 hb86) ⟨_, _, rfl, (hb.up (le74.trans le87)), ⟨_, _, rfl, (ha.up (le74.trans le87)), rfl⟩⟩ (by simp) (by simp only [N.sizes]; have hfs := N.fork_size f a g b h (l + 1); omega)) (by kernel_rfl) rfl rfl rfl rfl rfl ?_
        rintro v92 G7 X1 w94 hn93 le97 hs95 hid96
        obtain rfl : X1 = [] := List.map_eq_nil_iff.1 hid96
        replace hs95 : St w0 I (ids []) G7 [] w94 := hs95
        clear hs88 hid96
        refine hK91 _ _ ?_; clear hK91 K90
        refine sq (r_assign rfl) rfl ?_
        refine wl_nil ?_
        refine hK68 _ _ ?_; (try clear hK68 K67)
        refine wp_ret ?_
        exact leave (X' := []) (L := []) hs95 rfl (res_one (v := v92) rfl (.tmp rfl rfl .nil)) (by rw [N.fork]; first | (rw [if_pos (by omega)]; exact hn93) | (rw [if_neg (by omega), if_pos (by omega)]; exact hn93) | (rw [if_neg (by omega), if_neg (by omega)]; exact hn93))
      ·
        have p98 := of_decide_eq_false h65
        refine wp_skip ?_
        refine hK16 _ _ ?_; (try clear hK16 K15)
        refine wp_seq_k fun K99 hK100 => ?_
        refine wl_begin ?_
        refine sq (r_move rfl) rfl ?_
        refine sq (r_move rfl) rfl ?_
        refine sqo rfl fun K101 hK102 => ow_newimm (mk := fun b => .slice (some ⟨b, 0, none⟩) 2 2) hs13 (r_buildSlice (e := 3) (cells := #[.int .i64 (((chunkN g l) : Nat) : Int), .int .i64 (((chunkN h l) : Nat) : Int)]) (.cons rfl rfl (.cons rfl rfl .nil)) (by kernel_rfl)) rfl ?_
        rintro b103 G8 w104 hb105 le106 hs107 ge108
        clear hs13
        replace hb105 : G8 b103 = some (.cells #[.int .i64 (((chunkN g l) : Nat) : Int), .int .i64 (((chunkN h l) : Nat) : Int)] 3 (0, 0)) := hb105
        refine hK102 _ _ ?_; clear hK102 K101
        refine sqo rfl fun K109 hK110 => ow_call (X := []) (L := []) (lb := []) hs107 (of_ok (l := [(chunkN g l), (chunkN h l)]) (ints2 hb105) (by simp)) (by kernel_rfl) rfl rfl rfl rfl rfl ?_
        rintro _ _ X1 w111 ⟨rfl, rfl⟩ - hs112 hid113
        obtain rfl : X1 = [] := List.map_eq_nil_iff.1 hid113
        replace hs112 : St w0 I (ids []) G8 [] w111 := hs112
        clear hs107 hid113
        refine hK110 _ _ ?_; clear hK110 K109
        refine sq (r_move rfl) rfl ?_
        refine sq (r_move rfl) rfl ?_
        refine sqo rfl fun K114 hK115 => ow_newimm (mk := fun b => .slice (some ⟨b, 0, none⟩) 2 2) hs112 (r_buildSlice (e := 28) (cells := #[av, bv]) (.cons rfl (One.cells ha.one) (.cons rfl (One.cells hb.one) .nil)) (by kernel_rfl)) rfl ?_
        rintro b116 G9 w117 hb118 le119 hs120 ge121
        clear hs112
        replace hb118 : G9 b116 = some (.cells #[av, bv] 28 (0, 0)) := hb118
        refine hK115 _ _ ?_; clear hK115 K114
        refine sqo rfl fun K122 hK123 => ow_call (X := []) (L := []) (lb := []) hs120 (branch_ok (m := (ofN [(chunkN g l), (chunkN h l)])) (ofN_lt _) (kids := [a, b]) (lit2 hb118) ⟨_, _, rfl, (ha.up (le106.trans le119)), ⟨_, _, rfl, (hb.up (le106.trans le119)), rfl⟩⟩ (by simp) (by simp only [N.sizes]; have hfs := N.fork_size f a g b h (l + 1); omega)) (by kernel_rfl) rfl rfl rfl rfl rfl ?_
        rintro v124 G10 X1 w126 hn125 le129 hs127 hid128
        obtain rfl : X1 = [] := List.map_eq_nil_iff.1 hid128
        replace hs127 : St w0 I (ids []) G10 [] w126 := hs127
        clear hs120 hid128
        refine hK123 _ _ ?_; clear hK123 K122
        refine sq (r_assign rfl) rfl ?_
        refine wl_nil ?_
        refine hK100 _ _ ?_; (try clear hK100 K99)
        refine wp_ret ?_
        exact leave (X' := []) (L := []) hs127 rfl (res_one (v := v124) rfl (.tmp rfl rfl .nil)) (by rw [N.fork]; first | (rw [if_pos (by omega)]; exact hn125) | (rw [if_neg (by omega), if_pos (by omega)]; exact hn125) | (rw [if_neg (by omega), if_neg (by omega)]; exact hn125))
namespace N
theorem collapse_1 {n : N} (h : n.map.isSome = false) : collapse n = n := by
  cases n with
  | branch m kids => cases h
  | _ => rfl
theorem collapse_2 {n : N} (h : (bitsL (n.map.getD 0)).length ≠ 1) : collapse n = n := by
  cases n with
  | branch m kids => exact if_pos h
  | _ => rfl
theorem collapse_3 {n : N} (h : (n.kid (((nthN (n.map.getD 0) 0).getD 0 : Nat) : Int)).kind = 3) : collapse n = n := by
  cases n with
  | branch m kids =>
    simp only [collapse]
    split
    · rfl
    · exact if_pos h
  | _ => rfl
theorem collapse_4 {n : N} (h0 : n.map.isSome = true) (h1 : (bitsL (n.map.getD 0)).length = 1) (h : (n.kid (((nthN (n.map.getD 0) 0).getD 0 : Nat) : Int)).kind ≠ 3) : collapse n = n.kid (((nthN (n.map.getD 0) 0).getD 0 : Nat) : Int) := by
  cases n with
  | branch m kids =>
    simp only [collapse]
    rw [if_neg (fun e => e h1)]
    exact if_neg h
  | _ => cases h0
theorem nth0 {m : Nat} (h1 : (bitsL m).length = 1) : ∃ c, nthN m 0 = some c ∧ c < 32 ∧ m.testBit c = true := by
  cases hb : bitsL m with
  | nil => rw [hb] at h1; cases h1
  | cons c l =>
    refine ⟨c, ?_, mem_bitsL.1 (hb ▸ .head _)⟩
    unfold nthN
    rw [if_pos (by omega), hb]; rfl
theorem only_ne {n : N} (hnn : ∀ c, n.has c = true → (n.kid c).isN = false) (h0 : n.map.isSome = true) (h1 : (bitsL (n.map.getD 0)).length = 1) : n.kid (((nthN (n.map.getD 0) 0).getD 0 : Nat) : Int) ≠ .none := by
  cases n with
  | branch m kids =>
    obtain ⟨c, h2, h3, h4⟩ := nth0 h1
    have e : nthN ((N.branch m kids).map.getD 0) 0 = some c := h2
    rw [e]
    exact ne_of (hnn _ (by rw [Option.getD_some, has_iff h3]; exact h4))
  | _ => cases h0
end N
set_option maxRecDepth 100000 in
theorem collapse_ok {I : GH} (ht : TabG I) {v : Value} {n : N} (hn : NodeAt I v n) (hfit : n.fit) (hm : n.map.getD 0 < 2 ^ 32) (hnn : ∀ c, n.has c = true → (n.kid c).isN = false) :
    Fn Tryd.prog 152 #[v] I [] (fun r J _ => NodeAt J r n.collapse) := by
  refine enter (args := [v]) Tryd.func152 rfl rfl fun w0 hs0 => ?_
  refine wp_seq_k fun K1 hK2 => ?_
  refine wl_begin ?_
  refine sq (r_assign rfl) rfl ?_
  refine wl_nil ?_
  refine hK2 _ _ ?_; (try clear hK2 K1)
  refine wp_seq_k fun K3 hK4 => ?_
  refine wl_begin ?_
  refine sq (r_move rfl) rfl ?_
  refine sqo rfl fun K5 hK6 => ow_call (X := []) (L := []) (lb := []) hs0 (map_ok hn) (by kernel_rfl) rfl rfl rfl rfl rfl ?_
  rintro _ _ X1 w7 ⟨rfl, rfl⟩ - hs8 hid9
  obtain rfl : X1 = [] := List.map_eq_nil_iff.1 hid9
  replace hs8 : St w0 I (ids []) I [] w7 := hs8
  clear hs0 hid9
  refine hK6 _ _ ?_; clear hK6 K5
  refine sq (r_move rfl) rfl ?_
  refine sq (r_extract rfl rfl rfl) rfl ?_
  refine sq (r_extract rfl rfl rfl) rfl ?_
  refine sq (r_assign rfl) rfl ?_
  refine sq (r_assign rfl) rfl ?_
  refine wl_nil ?_
  refine hK4 _ _ ?_; (try clear hK4 K3)
  refine wp_seq_k fun K10 hK11 => ?_
  refine wp_seq_k fun K12 hK13 => ?_
  refine wl_begin ?_
  refine sq (r_move rfl) rfl ?_
  refine sq (r_not rfl rfl) rfl ?_
  refine sq (r_move rfl) rfl ?_
  refine bsplit (!((N.map n).isSome)) (fun h14 => ?_) (fun h14 => ?_)
  ·
    have h15 : ((N.map n).isSome) = false := by simpa using h14
    refine sqN (wantedF rfl rfl rfl (congrArg Value.bool h14)) rfl ?_
    refine sqN (wantedF rfl rfl rfl (congrArg Value.bool h14)) rfl ?_
    refine sqN (wantedF rfl rfl rfl (congrArg Value.bool h14)) rfl ?_
    refine sq (r_pick rfl rfl rfl (congrArg Value.bool h14)) rfl ?_
    refine wl_nil ?_
    refine hK13 _ _ ?_; (try clear hK13 K12)
    refine condT rfl rfl ?_
    refine wp_seq_k fun K16 hK17 => ?_
    refine nrm (vals := [(0, v), (2, .nilIface), (3, .int .u32 (((N.map n).getD 0 : Nat) : Int)), (4, .bool ((N.map n).isSome)), (20, .bool true)]) (.cons rfl (.cons rfl (.cons rfl (.cons rfl (.cons rfl .nil))))) fun g18 => ?_
    refine wl_begin ?_
    refine sq (r_move rfl) rfl ?_
    refine sq (r_assign rfl) rfl ?_
    refine wl_nil ?_
    refine hK17 _ _ ?_; (try clear hK17 K16)
    refine wp_ret ?_
    exact leave (X' := []) (L := []) hs8 rfl (res_one (v := v) rfl (.tmp rfl rfl .nil)) (by first | (rw [N.collapse_1 (by assumption)]; exact hn) | (rw [N.collapse_2 (by omega)]; exact hn) | (rw [N.collapse_3 (by omega)]; exact hn))
  ·
    have h19 : ((N.map n).isSome) = true := by simpa using h14
    refine sqG (wantedT rfl rfl rfl (congrArg Value.bool h14)) (r_move rfl) rfl ?_
    refine sqoG (wantedT rfl rfl rfl (congrArg Value.bool h14)) fun K20 hK21 => ow_call (X := []) (L := []) (lb := []) hs8 (count_ok (by assumption)) (by kernel_rfl) rfl rfl rfl rfl rfl ?_
    rintro _ _ X1 w22 ⟨rfl, rfl⟩ - hs23 hid24
    obtain rfl : X1 = [] := List.map_eq_nil_iff.1 hid24
    replace hs23 : St w0 I (ids []) I [] w22 := hs23
    clear hs8 hid24
    refine hK21 _ _ ?_; clear hK21 K20
    refine sqG (wantedT rfl rfl rfl (congrArg Value.bool h14)) (r_nei rfl rfl rfl rfl) rfl ?_
    refine sq (r_pick rfl rfl rfl (congrArg Value.bool h14)) rfl ?_
    refine wl_nil ?_
    refine hK13 _ _ ?_; (try clear hK13 K12)
    refine condS rfl rfl (fun h25 => ?_) (fun h25 => ?_)
    ·
      have h26 : (decide ((((bitsL ((N.map n).getD 0)).length : Nat) : Int) = 1)) = false := by simpa using h25
      have p27 := of_decide_eq_false h26
      refine wp_seq_k fun K28 hK29 => ?_
      refine nrm (vals := [(0, v), (2, .nilIface), (3, .int .u32 (((N.map n).getD 0 : Nat) : Int)), (4, .bool ((N.map n).isSome)), (20, .bool (!(decide ((((bitsL ((N.map n).getD 0)).length : Nat) : Int) = 1))))]) (.cons rfl (.cons rfl (.cons rfl (.cons rfl (.cons rfl .nil))))) fun g30 => ?_
      refine wl_begin ?_
      refine sq (r_move rfl) rfl ?_
      refine sq (r_assign rfl) rfl ?_
      refine wl_nil ?_
      refine hK29 _ _ ?_; (try clear hK29 K28)
      refine wp_ret ?_
      exact leave (X' := []) (L := []) hs23 rfl (res_one (v := v) rfl (.tmp rfl rfl .nil)) (by first | (rw [N.collapse_1 (by assumption)]; exact hn) | (rw [N.collapse_2 (by omega)]; exact hn) | (rw [N.collapse_3 (by omega)]; exact hn))
    ·
      have h31 : (decide ((((bitsL ((N.map n).getD 0)).length : Nat) : Int) = 1)) = true := by simpa using h25
      have p32 := of_decide_eq_true h31
      refine wp_skip ?_
      refine hK11 _ _ ?_; (try clear hK11 K10)
      refine wp_seq_k fun K33 hK34 => ?_
      refine nrm (vals := [(0, v), (2, .nilIface), (3, .int .u32 (((N.map n).getD 0 : Nat) : Int)), (4, .bool ((N.map n).isSome)), (20, .bool (!(decide ((((bitsL ((N.map n).getD 0)).length : Nat) : Int) = 1))))]) (.cons rfl (.cons rfl (.cons rfl (.cons rfl (.cons rfl .nil))))) fun g35 => ?_
      refine wl_begin ?_
      refine sq (r_move rfl) rfl ?_
      refine sqo rfl fun K36 hK37 => ow_call (X := []) (L := []) (lb := []) hs23 (nth_ok ht (by assumption) 0 ⟨by omega, by omega⟩) (by kernel_rfl) rfl rfl rfl rfl rfl ?_
      rintro _ G1 X1 w38 rfl le41 hs39 hid40
      obtain rfl : X1 = [] := List.map_eq_nil_iff.1 hid40
      replace hs39 : St w0 I (ids []) G1 [] w38 := hs39
      clear hs23 hid40
      refine hK37 _ _ ?_; clear hK37 K36
      refine sq (r_move rfl) rfl ?_
      refine sq (r_extract rfl rfl rfl) rfl ?_
      refine sq (r_extract rfl rfl rfl) rfl ?_
      refine sq (r_assign rfl) rfl ?_
      refine sq (r_assign rfl) rfl ?_
      refine wl_nil ?_
      refine hK34 _ _ ?_; (try clear hK34 K33)
      refine wp_seq_k fun K42 hK43 => ?_
      refine wl_begin ?_
      refine sq (r_move rfl) rfl ?_
      refine sq (r_move rfl) rfl ?_
      refine sqo rfl fun K44 hK45 => ow_call (X := []) (L := []) (lb := []) hs39 (kid_ok (hn.up le41) hfit (((nthN ((N.map n).getD 0) 0).getD 0 : Nat) : Int)) (by kernel_rfl) rfl rfl rfl rfl rfl ?_
      rintro _ _ X1 w48 ⟨u46, rfl, hn47, rfl⟩ - hs49 hid50
      obtain rfl : X1 = [] := List.map_eq_nil_iff.1 hid50
      replace hs49 : St w0 I (ids []) G1 [] w48 := hs49
      clear hs39 hid50
      refine hK45 _ _ ?_; clear hK45 K44
      refine sq (r_move rfl) rfl ?_
      refine sq (r_extract rfl rfl rfl) rfl ?_
      refine sq (r_extract rfl rfl rfl) rfl ?_
      refine sq (r_assign rfl) rfl ?_
      refine sq (r_assign rfl) rfl ?_
      refine wl_nil ?_
      refine hK43 _ _ ?_; (try clear hK43 K42)
      refine wp_seq_k fun K51 hK52 => ?_
      refine wp_seq_k fun K53 hK54 => ?_
      refine nrm (vals := [(0, v), (2, .nilIface), (3, .int .u32 (((N.map n).getD 0 : Nat) : Int)), (4, .bool ((N.map n).isSome)), (5, .int .i64 (((nthN ((N.map n).getD 0) 0).getD 0 : Nat) : Int)), (7, u46), (20, .bool (!(decide ((((bitsL ((N.map n).getD 0)).length : Nat) : Int) = 1))))]) (.cons rfl (.cons rfl (.cons rfl (.cons rfl (.cons rfl (.cons rfl (.cons rfl .nil))))))) fun g55 => ?_
      refine wl_begin ?_
      refine sq (r_move rfl) rfl ?_
      refine sqo rfl fun K56 hK57 => ow_kind (L := []) hs49 hn47 (N.only_ne hnn (by assumption) (by omega)) rfl rfl rfl ?_
      rintro _ _ X1 w58 ⟨rfl, rfl⟩ - hs59 hid60
      obtain rfl : X1 = [] := List.map_eq_nil_iff.1 hid60
      replace hs59 : St w0 I (ids []) G1 [] w58 := hs59
      clear hs49 hid60
      refine hK57 _ _ ?_; clear hK57 K56
      refine sq (r_eqi rfl rfl rfl rfl) rfl ?_
      refine wl_nil ?_
      refine hK54 _ _ ?_; (try clear hK54 K53)
      refine condS rfl rfl (fun h61 => ?_) (fun h61 => ?_)
      ·
        have p62 := of_decide_eq_true h61
        refine wp_seq_k fun K63 hK64 => ?_
        refine wl_begin ?_
        refine sq (r_move rfl) rfl ?_
        refine sq (r_assign rfl) rfl ?_
        refine wl_nil ?_
        refine hK64 _ _ ?_; (try clear hK64 K63)
        refine wp_ret ?_
        exact leave (X' := []) (L := []) hs59 rfl (res_one (v := v) rfl (.tmp rfl rfl .nil)) (by first | (rw [N.collapse_1 (by assumption)]; exact (hn.up le41)) | (rw [N.collapse_2 (by omega)]; exact (hn.up le41)) | (rw [N.collapse_3 (by omega)]; exact (hn.up le41)))
      ·
        have p65 := of_decide_eq_false h61
        refine wp_skip ?_
        refine hK52 _ _ ?_; (try clear hK52 K51)
        refine wp_seq_k fun K66 hK67 => ?_
        refine wl_begin ?_
        refine sq (r_move rfl) rfl ?_
        refine sq (r_assign rfl) rfl ?_
        refine wl_nil ?_
        refine hK67 _ _ ?_; (try clear hK67 K66)
        refine wp_ret ?_
        exact leave (X' := []) (L := []) hs59 rfl (res_one (v := u46) rfl (.tmp rfl rfl .nil)) (by rw [N.collapse_4 (by assumption) (by omega) (by omega)]; exact hn47)
theorem N.mk_map_lt {m : Nat} (hm : m < 2 ^ 32) (kids : List N) : (N.mk m kids).map.getD 0 < 2 ^ 32 := by
  by_cases h : N.mk m kids = .none
  · rw [h]; exact Nat.two_pow_pos 32
  · rw [(N.mk_ne h).1]; exact hm
set_option maxRecDepth 100000 in
theorem without_node_ok {I : GH} (ht : TabG I) {v : Value} {n : N} (hn : NodeAt I v n) (hfit : n.fit) (hm : n.map.getD 0 < 2 ^ 32) (c : Int) (hsz : N.sizes ((bitsL (andNot 32 (n.map.getD 0) (bitN c))).map fun (i : Nat) => n.kid (i : Int)) ≤ 1000000) :
    Fn Tryd.prog 151 #[v, .int .i64 c] I [] (fun r J _ => NodeAt J r (N.collapse (N.pick n (andNot 32 (n.map.getD 0) (bitN c))))) := by
  refine enter (args := [v, .int .i64 c]) Tryd.func151 rfl rfl fun w0 hs0 => ?_
  refine wp_seq_k fun K1 hK2 => ?_
  refine wl_begin ?_
  refine sq (r_assign rfl) rfl ?_
  refine wl_nil ?_
  refine hK2 _ _ ?_; (try clear hK2 K1)
  refine wp_seq_k fun K3 hK4 => ?_
  refine wl_begin ?_
  refine sq (r_move rfl) rfl ?_
  refine sqo rfl fun K5 hK6 => ow_call (X := []) (L := []) (lb := []) hs0 (map_ok hn) (by kernel_rfl) rfl rfl rfl rfl rfl ?_
  rintro _ _ X1 w7 ⟨rfl, rfl⟩ - hs8 hid9
  obtain rfl : X1 = [] := List.map_eq_nil_iff.1 hid9
  replace hs8 : St w0 I (ids []) I [] w7 := hs8
  clear hs0 hid9
  refine hK6 _ _ ?_; clear hK6 K5
  refine sq (r_move rfl) rfl ?_
  refine sq (r_extract rfl rfl rfl) rfl ?_
  refine sq (r_extract rfl rfl rfl) rfl ?_
  refine sq (r_assign rfl) rfl ?_
  refine sq (r_assign rfl) rfl ?_
  refine wl_nil ?_
  refine hK4 _ _ ?_; (try clear hK4 K3)
  refine wp_seq_k fun K10 hK11 => ?_
  refine wl_begin ?_
  refine sq (r_move rfl) rfl ?_
  refine sq (r_move rfl) rfl ?_
  refine sqo rfl fun K12 hK13 => ow_call (X := []) (L := []) (lb := []) hs8 (without_ok (by assumption) c) (by kernel_rfl) rfl rfl rfl rfl rfl ?_
  rintro _ _ X1 w14 ⟨rfl, rfl⟩ - hs15 hid16
  obtain rfl : X1 = [] := List.map_eq_nil_iff.1 hid16
  replace hs15 : St w0 I (ids []) I [] w14 := hs15
  clear hs8 hid16
  refine hK13 _ _ ?_; clear hK13 K12
  refine sq (r_assign rfl) rfl ?_
  refine wl_nil ?_
  refine hK11 _ _ ?_; (try clear hK11 K10)
  refine wp_seq_k fun K17 hK18 => ?_
  refine wl_begin ?_
  refine sq (r_move rfl) rfl ?_
  refine sq (r_move rfl) rfl ?_
  refine sqo rfl fun K19 hK20 => ow_call (X := []) (L := []) (lb := []) hs15 (pick_ok ht hn hfit (andNot_lt _ (by assumption)) hsz) (by kernel_rfl) rfl rfl rfl rfl rfl ?_
  rintro v21 G1 X1 w23 hn22 le26 hs24 hid25
  obtain rfl : X1 = [] := List.map_eq_nil_iff.1 hid25
  replace hs24 : St w0 I (ids []) G1 [] w23 := hs24
  clear hs15 hid25
  refine hK20 _ _ ?_; clear hK20 K19
  refine sqo rfl fun K27 hK28 => ow_call (X := []) (L := []) (lb := []) hs24 (collapse_ok (ht.up le26) hn22 (N.mk_fit _ _) (N.mk_map_lt (andNot_lt32 _ hm) _) (N.mk_kid _ _)) (by kernel_rfl) rfl rfl rfl rfl rfl ?_
  rintro v29 G2 X1 w31 hn30 le34 hs32 hid33
  obtain rfl : X1 = [] := List.map_eq_nil_iff.1 hid33
  replace hs32 : St w0 I (ids []) G2 [] w31 := hs32
  clear hs24 hid33
  refine hK28 _ _ ?_; clear hK28 K27
  refine sq (r_assign rfl) rfl ?_
  refine wl_nil ?_
  refine hK18 _ _ ?_; (try clear hK18 K17)
  refine wp_ret ?_
  exact leave (X' := []) (L := []) hs32 rfl (res_one (v := v29) rfl (.tmp rfl rfl .nil)) hn30
end Go.Proofs.YtlnlodfnplkckaaDoor
/- The contracts of find.way, find.Get. -/
namespace Go.Proofs.YtlnlodfnplkckaaDoor
set_option linter.unusedVariables false
set_option linter.unusedSimpArgs false
namespace N
theorem of_map {n : N} (h : n.map.isSome = true) : ∃ m kids, n = .branch m kids := by
  cases n with
  | branch m kids => exact ⟨m, kids, rfl⟩
  | _ => cases h
theorem way_end {n : N} (h : Nat) (l : Nat) (hm : n.map.isSome = false) : way h n l = (n, l) := by
  cases n with
  | branch m kids => cases hm
  | _ => rw [way]; intro _ _ e; cases e
theorem of_kind1 {n : N} (h : n.kind = 1) : ∃ g k x, n = .leaf g k x := by
  cases n with
  | leaf g k x => exact ⟨g, k, x, rfl⟩
  | _ => cases h
theorem of_kind2 {n : N} (h : n.kind = 2) : ∃ g t, n = .bucket g t := by
  cases n with
  | bucket g t => exact ⟨g, t, rfl⟩
  | _ => cases h
theorem of_kind3 {n : N} (h : n.kind = 3) : ∃ m kids, n = .branch m kids := by
  cases n with
  | branch m kids => exact ⟨m, kids, rfl⟩
  | _ => cases h
theorem way_wf {h : Nat} : ∀ (n : N) {l q : Nat} {e : N} {d : Nat}, WF l q n → way h n l = (e, d) → (∃ q', WF d q' e) ∧ e.map.isSome = false := by
  intro n l q e d hw hwd
  induction n, l using way.induct h generalizing q with
  | case1 l m kids ih =>
    rw [way] at hwd
    exact ih (hw.kid (chunkN_lt _ _)) hwd
  | case2 n l hne =>
    have hm : n.map.isSome = false := by
      cases n with
      | branch m kids => exact absurd rfl (hne m kids)
      | _ => rfl
    rw [way_end h l hm] at hwd
    cases hwd
    exact ⟨⟨_, hw⟩, hm⟩
theorem WF.pair_sm {l q : Nat} {n : N} (h : WF l q n) : n.pair.1.length ≤ 1000000 ∧ n.pair.2.length ≤ 1000000 := by
  cases h with
  | leaf hh hq hk hx => exact ⟨hk, hx⟩
  | _ => exact ⟨Nat.zero_le _, Nat.zero_le _⟩
theorem WF.level {l q m : Nat} {kids : List N} (h : WF l q (.branch m kids)) : l < 13 := by cases h; assumption
theorem WF.tree_sm {l q h : Nat} {t : T} (hw : WF l q (.bucket h t)) : T.Sm t.toList := by cases hw; assumption
theorem end_hit {h : Nat} {k : Bs} {e : N} (h1 : e.kind = 1) (h2 : e.hash.getD 0 = h) (h3 : cmpB k e.pair.1 = 0) : endGet h k e = some e.pair.2 ∧ endV h k e = 1 ∧ endC h k e = 1 := by
  obtain ⟨g, k0, x0, rfl⟩ := of_kind1 h1
  exact ⟨if_pos ⟨h2, h3⟩, rfl, if_pos h2⟩
theorem end_miss {h : Nat} {k : Bs} {e : N} (h1 : e.kind = 1) (h2 : e.hash.getD 0 = h) (h3 : ¬ cmpB k e.pair.1 = 0) : endGet h k e = Option.none ∧ endV h k e = 1 ∧ endC h k e = 1 := by
  obtain ⟨g, k0, x0, rfl⟩ := of_kind1 h1
  exact ⟨if_neg (fun h => h3 h.2), rfl, if_pos h2⟩
theorem end_else {h : Nat} {k : Bs} {e : N} (h1 : e.kind = 1) (h2 : ¬ e.hash.getD 0 = h) : endGet h k e = Option.none ∧ endV h k e = 1 ∧ endC h k e = 0 := by
  obtain ⟨g, k0, x0, rfl⟩ := of_kind1 h1
  exact ⟨if_neg (fun h => h2 h.1), rfl, if_neg h2⟩
theorem end_no {h : Nat} {k : Bs} {e : N} (h1 : ¬ e.kind = 1) (h2 : e.hash.isSome = false ∨ ¬ e.hash.getD 0 = h) : endGet h k e = Option.none ∧ endV h k e = 0 ∧ endC h k e = 0 := by
  cases e with
  | leaf g k0 x0 => exact absurd rfl h1
  | bucket g t =>
    rcases h2 with h2 | h2
    · cases h2
    · exact ⟨if_neg h2, if_neg h2, if_neg h2⟩
  | _ => exact ⟨rfl, rfl, rfl⟩
theorem end_bucket {h : Nat} {k : Bs} {t : T} : endGet h k (.bucket h t) = t.get k ∧ endV h k (.bucket h t) = t.path k ∧ endC h k (.bucket h t) = t.path k := ⟨if_pos rfl, if_pos rfl, if_pos rfl⟩
theorem of_hash {h : Nat} {e : N} (h1 : ¬ e.kind = 1) (h2 : e.hash.isSome = true) (h3 : e.hash.getD 0 = h) : ∃ t, e = .bucket h t := by
  cases e with
  | leaf g k0 x0 => exact absurd rfl h1
  | bucket g t => exact ⟨t, by rw [show g = h from h3]⟩
  | _ => cases h2
end N
set_option maxRecDepth 100000 in
theorem way_ok {I : GH} {m : Option Nat} {v c : Nat} {n : N} {nv : Value} {h : Nat} {e : N} {d : Nat} (hw : N.WF 0 0 n) (hn : NodeAt I nv n) (hh : h < 2 ^ 64) (hwd : N.way h n 0 = (e, d)) :
    Fn Tryd.prog 57 #[nv, .int .u64 ((h : Nat) : Int), mV m] I (mX m v c) (fun r J X => ∃ u, r = .tuple #[u, .int .i64 ((d : Nat) : Int)] ∧ NodeAt J u e ∧ I = J ∧ X = mX m (v + d) c) := by
  refine enter (args := [nv, .int .u64 ((h : Nat) : Int), (mV m)]) Tryd.func57 rfl rfl fun w0 hs0 => ?_
  replace hs0 : St w0 I (ids (mX m (v) (c))) I (mX m (v) (c) ++ []) w0 := by simpa using hs0
  refine wp_seq_k fun K1 hK2 => ?_
  refine wl_begin ?_
  refine sq (r_assign rfl) rfl ?_
  refine sq (r_assign rfl) rfl ?_
  refine wl_nil ?_
  refine hK2 _ _ ?_; (try clear hK2 K1)
  refine wp_seq_k fun K3 hK4 => ?_
  refine wl_begin ?_
  refine sq (r_assign rfl) rfl ?_
  refine wl_nil ?_
  refine hK4 _ _ ?_; (try clear hK4 K3)
  refine wp_block ?_
  refine lp (σ := Nat) (fun m6 f7 w8 => ∃ (g5 : Nat → Value) (nd : N) (dv : Value) (d0 : Nat), m6 = SizeOf.sizeOf nd ∧ f7 = updL g5 [(0, dv), (1, .int .u64 ((h : Nat) : Int)), (2, (mV m)), (8, .int .i64 ((d0 : Nat) : Int))] ∧ (NodeAt I dv nd) ∧ (∃ q, N.WF d0 q nd) ∧ (N.way h n 0 = N.way h nd d0) ∧ St w0 I (ids (mX m (v) (c))) I (mX m (v + d0) (c) ++ []) w8) (fun m => m) (SizeOf.sizeOf n) ⟨_, n, nv, 0, rfl, updL_self (.cons rfl (.cons rfl (.cons rfl (.cons rfl .nil)))), hn, ⟨_, hw⟩, rfl, hs0⟩ ?_
  clear hs0
  rintro m6 f7 w8 ⟨g5, nd, dv, d0, rfl, rfl, hnd, hwf, hway, hs9⟩
  refine wp_block ?_
  refine wp_seq_k fun K10 hK11 => ?_
  refine wp_seq_k fun K12 hK13 => ?_
  have hmlt : (N.map nd).getD 0 < 2 ^ 32 := (hwf.elim fun _ z => z.map_lt)
  refine wl_begin ?_
  refine sq (r_move rfl) rfl ?_
  refine sqo rfl fun K14 hK15 => ow_call (X := []) (L := (mX m (v + d0) (c) ++ [])) (lb := []) hs9 (map_ok hnd) (by kernel_rfl) rfl rfl rfl rfl rfl ?_
  rintro _ _ X1 w16 ⟨rfl, rfl⟩ - hs17 hid18
  obtain rfl : X1 = [] := List.map_eq_nil_iff.1 hid18
  replace hs17 : St w0 I (ids (mX m (v) (c))) I (mX m (v + d0) (c) ++ []) w16 := hs17
  clear hs9 hid18
  refine hK15 _ _ ?_; clear hK15 K14
  refine sq (r_move rfl) rfl ?_
  refine sq (r_extract rfl rfl rfl) rfl ?_
  refine sq (r_extract rfl rfl rfl) rfl ?_
  refine sq (r_assign rfl) rfl ?_
  refine sq (r_assign rfl) rfl ?_
  refine wl_nil ?_
  refine hK13 _ _ ?_; (try clear hK13 K12)
  refine wp_seq_k fun K19 hK20 => ?_
  refine wl_begin ?_
  refine sq (r_move rfl) rfl ?_
  refine sq (r_not rfl rfl) rfl ?_
  refine wl_nil ?_
  refine hK20 _ _ ?_; (try clear hK20 K19)
  refine condS rfl rfl (fun h21 => ?_) (fun h21 => ?_)
  ·
    have h22 : ((N.map nd).isSome) = false := by simpa using h21
    have hno : nd.map.isSome = false := by simpa using h21
    refine wp_seq_k fun K23 hK24 => ?_
    refine wl_begin ?_
    refine sq (r_move rfl) rfl ?_
    refine sq (r_move rfl) rfl ?_
    refine sq (r_assign rfl) rfl ?_
    refine sq (r_assign rfl) rfl ?_
    refine wl_nil ?_
    refine hK24 _ _ ?_; (try clear hK24 K23)
    refine wp_ret ?_
    exact leave (X' := mX m (v + d0) (c)) (L := []) hs17 (mX_ids _ _ _ _ _) (res_many (vs := [dv, .int .i64 ((d0 : Nat) : Int)]) rfl (.tmp rfl rfl (.tmp rfl rfl .nil)) rfl) (by have ew := hway.symm.trans hwd; rw [N.way_end h d0 hno] at ew; cases ew; exact ⟨_, rfl, hnd, rfl, rfl⟩)
  ·
    have h25 : ((N.map nd).isSome) = true := by simpa using h21
    have hsome : nd.map.isSome = true := by simpa using h21
    obtain ⟨bm, bk, hbe⟩ := N.of_map hsome
    have hd12 : d0 < 13 := by obtain ⟨q, hq⟩ := hwf; rw [hbe] at hq; exact hq.level
    refine wp_skip ?_
    refine hK11 _ _ ?_; (try clear hK11 K10)
    refine wp_seq_k fun K26 hK27 => ?_
    refine wl_begin ?_
    refine sq (r_move rfl) rfl ?_
    refine sqo rfl fun K28 hK29 => ow_call (X := mX m (v + d0) (c)) (L := []) (lb := []) hs17 (visit_ok) (by kernel_rfl) rfl rfl rfl rfl rfl ?_
    rintro _ _ X1 w30 ⟨rfl, rfl⟩ - hs31 hid32
    replace hs31 : St w0 I (ids (mX m (v) (c))) I (mX m (v + d0 + 1) (c) ++ []) w30 := hs31
    clear hs17 hid32
    refine hK29 _ _ ?_; clear hK29 K28
    refine wl_nil ?_
    refine hK27 _ _ ?_; (try clear hK27 K26)
    refine wp_seq_k fun K33 hK34 => ?_
    refine nrm (vals := [(0, dv), (1, .int .u64 ((h : Nat) : Int)), (2, (mV m)), (8, .int .i64 ((d0 : Nat) : Int)), (10, .bool ((N.map nd).isSome)), (17, .bool (!((N.map nd).isSome)))]) (.cons rfl (.cons rfl (.cons rfl (.cons rfl (.cons rfl (.cons rfl .nil)))))) fun g35 => ?_
    refine wl_begin ?_
    refine sq (r_move rfl) rfl ?_
    refine sq (r_move rfl) rfl ?_
    refine sq (r_move rfl) rfl ?_
    refine sqo rfl fun K36 hK37 => ow_call (X := []) (L := (mX m (v + d0 + 1) (c) ++ [])) (lb := []) hs31 (chunk_ok (h := h) (l := d0) hh) (by kernel_rfl) rfl rfl rfl rfl rfl ?_
    rintro _ _ X1 w38 ⟨rfl, rfl⟩ - hs39 hid40
    obtain rfl : X1 = [] := List.map_eq_nil_iff.1 hid40
    replace hs39 : St w0 I (ids (mX m (v) (c))) I (mX m (v + d0 + 1) (c) ++ []) w38 := hs39
    clear hs31 hid40
    refine hK37 _ _ ?_; clear hK37 K36
    refine sqo rfl fun K41 hK42 => ow_call (X := []) (L := (mX m (v + d0 + 1) (c) ++ [])) (lb := []) hs39 (kid_ok hnd (hwf.elim fun _ z => z.fit) (((chunkN h d0) : Nat) : Int)) (by kernel_rfl) rfl rfl rfl rfl rfl ?_
    rintro _ _ X1 w45 ⟨u43, rfl, hn44, rfl⟩ - hs46 hid47
    obtain rfl : X1 = [] := List.map_eq_nil_iff.1 hid47
    replace hs46 : St w0 I (ids (mX m (v) (c))) I (mX m (v + d0 + 1) (c) ++ []) w45 := hs46
    clear hs39 hid47
    refine hK42 _ _ ?_; clear hK42 K41
    refine sq (r_move rfl) rfl ?_
    refine sq (r_extract rfl rfl rfl) rfl ?_
    refine sq (r_extract rfl rfl rfl) rfl ?_
    refine sq (r_assign rfl) rfl ?_
    refine wl_nil ?_
    refine hK34 _ _ ?_; (try clear hK34 K33)
    refine wl_begin ?_
    refine sq (r_move rfl) rfl ?_
    refine sq (r_addi rfl rfl rfl rfl (by omega)) rfl ?_
    refine sq (r_assign rfl) rfl ?_
    refine wl_nil ?_
    exact ⟨_, _, rfl, ⟨_, (N.kid nd (((chunkN h d0) : Nat) : Int)), u43, (d0 + 1), rfl, updL_self (.cons rfl (.cons rfl (.cons rfl (.cons rfl .nil)))), hn44, (by obtain ⟨q, hq⟩ := hwf; rw [hbe] at hq ⊢; exact ⟨_, hq.kid (chunkN_lt _ _)⟩), (by rw [hway, hbe, N.way]), hs46⟩, (by rw [hbe]; exact N.kid_lt _ _ _)⟩
set_option maxRecDepth 100000 in
theorem find_get_ok {I : GH} {m : Option Nat} {v c : Nat} {n : N} {nv kv : Value} {h : Nat} {k : Bs} {e : N} {d : Nat} (hw : N.WF 0 0 n) (hn : NodeAt I nv n) (hh : h < 2 ^ 64) (hk : BytesAt I kv k) (hwd : N.way h n 0 = (e, d)) :
    Fn Tryd.prog 27 #[nv, .int .u64 ((h : Nat) : Int), kv, mV m] I (mX m v c) (fun r J X => ∃ xv, r = .tuple #[xv, .bool (N.endGet h k e).isSome] ∧ BytesAt J xv ((N.endGet h k e).getD []) ∧ X = mX m (v + d + N.endV h k e) (c + N.endC h k e)) := by
  have hpsm : (N.pair e).1.length ≤ 1000000 ∧ (N.pair e).2.length ≤ 1000000 := by
    obtain ⟨⟨q, hq⟩, _⟩ := N.way_wf n hw hwd; exact hq.pair_sm
  have hhe : (N.hash e).getD 0 < 2 ^ 64 := by
    obtain ⟨⟨q, hq⟩, _⟩ := N.way_wf n hw hwd; exact hq.hash_lt
  refine enter (args := [nv, .int .u64 ((h : Nat) : Int), kv, (mV m)]) Tryd.func27 rfl rfl fun w0 hs0 => ?_
  replace hs0 : St w0 I (ids (mX m (v) (c))) I (mX m (v) (c) ++ []) w0 := by simpa using hs0
  refine wp_seq_k fun K1 hK2 => ?_
  refine wl_begin ?_
  refine sq (r_assign rfl) rfl ?_
  refine sq (r_assign rfl) rfl ?_
  refine wl_nil ?_
  refine hK2 _ _ ?_; (try clear hK2 K1)
  refine wp_seq_k fun K3 hK4 => ?_
  refine wl_begin ?_
  refine sq (r_move rfl) rfl ?_
  refine sq (r_move rfl) rfl ?_
  refine sq (r_move rfl) rfl ?_
  refine sqo rfl fun K5 hK6 => ow_call (X := mX m (v) (c)) (L := []) (lb := []) hs0 (way_ok hw hn hh hwd) (by kernel_rfl) rfl rfl rfl rfl rfl ?_
  rintro _ _ X1 w9 ⟨u7, rfl, hn8, rfl, rfl⟩ - hs10 hid11
  replace hs10 : St w0 I (ids (mX m (v) (c))) I (mX m (v + d) (c) ++ []) w9 := hs10
  clear hs0 hid11
  refine hK6 _ _ ?_; clear hK6 K5
  refine sq (r_move rfl) rfl ?_
  refine sq (r_extract rfl rfl rfl) rfl ?_
  refine sq (r_extract rfl rfl rfl) rfl ?_
  refine sq (r_assign rfl) rfl ?_
  refine wl_nil ?_
  refine hK4 _ _ ?_; (try clear hK4 K3)
  refine wp_seq_k fun K12 hK13 => ?_
  refine wl_begin ?_
  refine sq (r_move rfl) rfl ?_
  refine sqo rfl fun K14 hK15 => ow_call (X := []) (L := (mX m (v + d) (c) ++ [])) (lb := []) hs10 (hash_ok hn8) (by kernel_rfl) rfl rfl rfl rfl rfl ?_
  rintro _ _ X1 w16 ⟨rfl, rfl⟩ - hs17 hid18
  obtain rfl : X1 = [] := List.map_eq_nil_iff.1 hid18
  replace hs17 : St w0 I (ids (mX m (v) (c))) I (mX m (v + d) (c) ++ []) w16 := hs17
  clear hs10 hid18
  refine hK15 _ _ ?_; clear hK15 K14
  refine sq (r_move rfl) rfl ?_
  refine sq (r_extract rfl rfl rfl) rfl ?_
  refine sq (r_extract rfl rfl rfl) rfl ?_
  refine sq (r_assign rfl) rfl ?_
  refine sq (r_assign rfl) rfl ?_
  refine wl_nil ?_
  refine hK13 _ _ ?_; (try clear hK13 K12)
  refine wp_seq_k fun K19 hK20 => ?_
  refine wp_seq_k fun K21 hK22 => ?_
  refine nrm (vals := [(0, u7), (1, .int .u64 ((h : Nat) : Int)), (2, kv), (3, (mV m)), (8, .slice none 0 0), (9, .bool false), (10, .int .u64 (((N.hash e).getD 0 : Nat) : Int)), (11, .bool ((N.hash e).isSome))]) (.cons rfl (.cons rfl (.cons rfl (.cons rfl (.cons rfl (.cons rfl (.cons rfl (.cons rfl .nil)))))))) fun g23 => ?_
  refine wl_begin ?_
  refine sq (r_move rfl) rfl ?_
  refine sqo rfl fun K24 hK25 => ow_call (X := []) (L := (mX m (v + d) (c) ++ [])) (lb := []) hs17 (pair_of_ok hn8 hpsm) (by kernel_rfl) rfl rfl rfl rfl rfl ?_
  rintro _ G1 X1 w30 ⟨kv26, xv27, rfl, hk28, hx29⟩ le33 hs31 hid32
  obtain rfl : X1 = [] := List.map_eq_nil_iff.1 hid32
  replace hs31 : St w0 I (ids (mX m (v) (c))) G1 (mX m (v + d) (c) ++ []) w30 := hs31
  clear hs17 hid32
  refine hK25 _ _ ?_; clear hK25 K24
  refine sq (r_move rfl) rfl ?_
  refine sq (r_extract rfl rfl rfl) rfl ?_
  refine sq (r_extract rfl rfl rfl) rfl ?_
  refine sqo rfl fun K34 hK35 => ow_newbox (mk := fun b => .pointer (some ⟨b, 0, none⟩)) hs31 (r_alloc (cs := [.slice none 0 0, .slice none 0 0]) (by kernel_rfl)) rfl ?_
  rintro b36 w37 (hs38 : St w0 I (ids (mX m (v) (c))) G1 (⟨b36, #[.slice none 0 0, .slice none 0 0], 56⟩ :: (mX m (v + d) (c) ++ [])) w37)
  clear hs31
  refine hK35 _ _ ?_; clear hK35 K34
  refine sqo rfl fun K39 hK40 => ow_store (vs := [kv26, xv27]) hs38 rfl rfl (by kernel_rfl) rfl rfl (.cons (hk28).one (.cons (hx29).one .nil)) rfl ?_
  rintro w41 (hs42 : St w0 I (ids (mX m (v) (c))) G1 (⟨b36, #[kv26, xv27], 56⟩ :: (mX m (v + d) (c) ++ [])) w41)
  clear hs38
  refine hK40 _ _ ?_; clear hK40 K39
  refine sq (r_assign rfl) rfl ?_
  refine wl_nil ?_
  refine hK22 _ _ ?_; (try clear hK22 K21)
  refine wp_seq_k fun K43 hK44 => ?_
  refine wl_begin ?_
  refine sq (r_move rfl) rfl ?_
  refine wl_nil ?_
  refine hK44 _ _ ?_; (try clear hK44 K43)
  refine condS rfl rfl (fun h45 => ?_) (fun h45 => ?_)
  ·
    have p46 := of_decide_eq_true h45
    refine wp_seq_k fun K47 hK48 => ?_
    refine wl_begin ?_
    refine sq (r_move rfl) rfl ?_
    have hs51 : St w0 I (ids (mX m (v) (c))) G1 (mX m (v + d) (c) ++ ([⟨b36, #[kv26, xv27], 56⟩] : List Bx)) w41 := hs42.perm (List.Perm.trans ((List.Perm.refl _).cons _) (List.perm_middle (l₁ := (mX m (v + d) (c) : List Bx)) (a := (⟨b36, #[kv26, xv27], 56⟩ : Bx)) (l₂ := [])).symm); clear hs42
    refine sqo rfl fun K49 hK50 => ow_call (X := mX m (v + d) (c)) (L := [⟨b36, #[kv26, xv27], 56⟩]) (lb := []) hs51 (visit_ok) (by kernel_rfl) rfl rfl rfl rfl rfl ?_
    rintro _ _ X1 w52 ⟨rfl, rfl⟩ - hs53 hid54
    replace hs53 : St w0 I (ids (mX m (v) (c))) G1 (mX m (v + d + 1) (c) ++ ([⟨b36, #[kv26, xv27], 56⟩] : List Bx)) w52 := hs53
    clear hs51 hid54
    refine hK50 _ _ ?_; clear hK50 K49
    refine wl_nil ?_
    refine hK48 _ _ ?_; (try clear hK48 K47)
    refine wp_seq_k fun K55 hK56 => ?_
    refine wp_seq_k fun K57 hK58 => ?_
    refine wl_begin ?_
    refine sq (r_move rfl) rfl ?_
    refine sq (r_move rfl) rfl ?_
    refine sq (r_eqN (a := (N.hash e).getD 0) (b := h) rfl rfl rfl rfl) rfl ?_
    refine sq (r_move rfl) rfl ?_
    refine bsplit (decide ((N.hash e).getD 0 = h)) (fun h59 => ?_) (fun h59 => ?_)
    ·
      have p60 := of_decide_eq_true h59
      refine sqG (wantedT rfl rfl rfl (congrArg Value.bool h59)) (r_move rfl) rfl ?_
      refine sqG (wantedT rfl rfl rfl (congrArg Value.bool h59)) (r_move rfl) rfl ?_
      refine sqG (wantedT rfl rfl rfl (congrArg Value.bool h59)) (r_fieldAddr (off := 0) rfl (by kernel_rfl) rfl) rfl ?_
      refine sqG (wantedT rfl rfl rfl (congrArg Value.bool h59)) (r_load rfl (by kernel_rfl) rfl (hs53.box (List.mem_append_right _ (.head _))) rfl) rfl ?_
      refine sqoG (wantedT rfl rfl rfl (congrArg Value.bool h59)) fun K61 hK62 => ow_call (X := mX m (v + d + 1) (c)) (L := [⟨b36, #[kv26, xv27], 56⟩]) (lb := []) hs53 (mcmp_ok (hk.up le33) hk28) (by kernel_rfl) rfl rfl rfl rfl rfl ?_
      rintro _ _ X1 w63 ⟨rfl, rfl, rfl⟩ - hs64 hid65
      replace hs64 : St w0 I (ids (mX m (v) (c))) G1 (mX m (v + d + 1) (c + 1) ++ ([⟨b36, #[kv26, xv27], 56⟩] : List Bx)) w63 := hs64
      clear hs53 hid65
      refine hK62 _ _ ?_; clear hK62 K61
      refine sqG (wantedT rfl rfl rfl (congrArg Value.bool h59)) (r_eqi rfl rfl rfl rfl) rfl ?_
      refine sq (r_pick rfl rfl rfl (congrArg Value.bool h59)) rfl ?_
      refine wl_nil ?_
      refine hK58 _ _ ?_; (try clear hK58 K57)
      refine condS rfl rfl (fun h66 => ?_) (fun h66 => ?_)
      ·
        have p67 := of_decide_eq_true h66
        refine wp_seq_k fun K68 hK69 => ?_
        refine nrm (vals := [(0, u7), (1, .int .u64 ((h : Nat) : Int)), (2, kv), (3, (mV m)), (8, .slice none 0 0), (9, .bool false), (10, .int .u64 (((N.hash e).getD 0 : Nat) : Int)), (11, .bool ((N.hash e).isSome)), (12, .pointer (some ⟨b36, 0, none⟩)), (13, .bool (decide (N.kind e = 1))), (33, .bool (decide (N.kind e = 1))), (46, .bool (decide ((cmpB k ((N.pair e).1)) = 0)))]) (.cons rfl (.cons rfl (.cons rfl (.cons rfl (.cons rfl (.cons rfl (.cons rfl (.cons rfl (.cons rfl (.cons rfl (.cons rfl (.cons rfl .nil)))))))))))) fun g70 => ?_
        refine wl_begin ?_
        refine sq (r_fieldAddr (off := 1) rfl (by kernel_rfl) rfl) rfl ?_
        refine sq (r_load rfl (by kernel_rfl) rfl (hs64.box (List.mem_append_right _ (.head _))) rfl) rfl ?_
        refine sq (r_assign rfl) rfl ?_
        refine sq (r_assign rfl) rfl ?_
        refine wl_nil ?_
        refine hK69 _ _ ?_; (try clear hK69 K68)
        refine wp_ret ?_
        exact leave (X' := mX m (v + d + 1) (c + 1)) (L := [⟨b36, #[kv26, xv27], 56⟩]) hs64 (mX_ids _ _ _ _ _) (res_many (vs := [xv27, .bool true]) rfl (.tmp rfl rfl (.tmp rfl rfl .nil)) rfl) (by obtain ⟨q1, q2, q3⟩ := N.end_hit (h := h) (k := k) (e := e) (by assumption) (by assumption) (by assumption); exact ⟨_, by rw [q1]; rfl, by rw [q1]; exact hx29, mX_congr (by rw [q2]) (by rw [q3])⟩)
      ·
        have p71 := of_decide_eq_false h66
        refine wp_skip ?_
        refine hK56 _ _ ?_; (try clear hK56 K55)
        refine wp_seq_k fun K72 hK73 => ?_
        refine nrm (vals := [(0, u7), (1, .int .u64 ((h : Nat) : Int)), (2, kv), (3, (mV m)), (8, .slice none 0 0), (9, .bool false), (10, .int .u64 (((N.hash e).getD 0 : Nat) : Int)), (11, .bool ((N.hash e).isSome)), (12, .pointer (some ⟨b36, 0, none⟩)), (13, .bool (decide (N.kind e = 1))), (33, .bool (decide (N.kind e = 1))), (46, .bool (decide ((cmpB k ((N.pair e).1)) = 0)))]) (.cons rfl (.cons rfl (.cons rfl (.cons rfl (.cons rfl (.cons rfl (.cons rfl (.cons rfl (.cons rfl (.cons rfl (.cons rfl (.cons rfl .nil)))))))))))) fun g74 => ?_
        refine wl_begin ?_
        refine sq (r_assign rfl) rfl ?_
        refine sq (r_assign rfl) rfl ?_
        refine wl_nil ?_
        refine hK73 _ _ ?_; (try clear hK73 K72)
        refine wp_ret ?_
        exact leave (X' := mX m (v + d + 1) (c + 1)) (L := [⟨b36, #[kv26, xv27], 56⟩]) hs64 (mX_ids _ _ _ _ _) (res_many (vs := [.slice none 0 0, .bool false]) rfl (.tmp rfl rfl (.tmp rfl rfl .nil)) rfl) (by obtain ⟨q1, q2, q3⟩ := N.end_miss (h := h) (k := k) (e := e) (by assumption) (by assumption) (by assumption); exact ⟨_, by rw [q1]; rfl, by rw [q1]; exact BytesAt.nil _, mX_congr (by rw [q2]) (by rw [q3])⟩)
    ·
      have p75 := of_decide_eq_false h59
      refine sqN (wantedF rfl rfl rfl (congrArg Value.bool h59)) rfl ?_
      refine sqN (wantedF rfl rfl rfl (congrArg Value.bool h59)) rfl ?_
      refine sqN (wantedF rfl rfl rfl (congrArg Value.bool h59)) rfl ?_
      refine sqN (wantedF rfl rfl rfl (congrArg Value.bool h59)) rfl ?_
      refine sqN (wantedF rfl rfl rfl (congrArg Value.bool h59)) rfl ?_
      refine sqN (wantedF rfl rfl rfl (congrArg Value.bool h59)) rfl ?_
      refine sq (r_pick rfl rfl rfl (congrArg Value.bool h59)) rfl ?_
      refine wl_nil ?_
      refine hK58 _ _ ?_; (try clear hK58 K57)
      refine condF rfl rfl ?_
      refine wp_skip ?_
      refine hK56 _ _ ?_; (try clear hK56 K55)
      refine wp_seq_k fun K76 hK77 => ?_
      refine nrm (vals := [(0, u7), (1, .int .u64 ((h : Nat) : Int)), (2, kv), (3, (mV m)), (8, .slice none 0 0), (9, .bool false), (10, .int .u64 (((N.hash e).getD 0 : Nat) : Int)), (11, .bool ((N.hash e).isSome)), (12, .pointer (some ⟨b36, 0, none⟩)), (13, .bool (decide (N.kind e = 1))), (33, .bool (decide (N.kind e = 1))), (46, .bool false)]) (.cons rfl (.cons rfl (.cons rfl (.cons rfl (.cons rfl (.cons rfl (.cons rfl (.cons rfl (.cons rfl (.cons rfl (.cons rfl (.cons rfl .nil)))))))))))) fun g78 => ?_
      refine wl_begin ?_
      refine sq (r_assign rfl) rfl ?_
      refine sq (r_assign rfl) rfl ?_
      refine wl_nil ?_
      refine hK77 _ _ ?_; (try clear hK77 K76)
      refine wp_ret ?_
      exact leave (X' := mX m (v + d + 1) (c)) (L := [⟨b36, #[kv26, xv27], 56⟩]) hs53 (mX_ids _ _ _ _ _) (res_many (vs := [.slice none 0 0, .bool false]) rfl (.tmp rfl rfl (.tmp rfl rfl .nil)) rfl) (by obtain ⟨q1, q2, q3⟩ := N.end_else (h := h) (k := k) (e := e) (by assumption) (by assumption); exact ⟨_, by rw [q1]; rfl, by rw [q1]; exact BytesAt.nil _, mX_congr (by rw [q2]) (by rw [q3]; rfl)⟩)
  ·
    have p79 := of_decide_eq_false h45
    refine wp_skip ?_
    refine hK20 _ _ ?_; (try clear hK20 K19)
    refine wp_seq_k fun K80 hK81 => ?_
    refine wp_seq_k fun K82 hK83 => ?_
    refine wl_begin ?_
    refine sq (r_move rfl) rfl ?_
    refine sq (r_not rfl rfl) rfl ?_
    refine sq (r_move rfl) rfl ?_
    refine bsplit (!((N.hash e).isSome)) (fun h84 => ?_) (fun h84 => ?_)
    ·
      have h85 : ((N.hash e).isSome) = false := by simpa using h84
      refine sqN (wantedF rfl rfl rfl (congrArg Value.bool h84)) rfl ?_
      refine sqN (wantedF rfl rfl rfl (congrArg Value.bool h84)) rfl ?_
      refine sqN (wantedF rfl rfl rfl (congrArg Value.bool h84)) rfl ?_
      refine sq (r_pick rfl rfl rfl (congrArg Value.bool h84)) rfl ?_
      refine wl_nil ?_
      refine hK83 _ _ ?_; (try clear hK83 K82)
      refine condT rfl rfl ?_
      refine wp_seq_k fun K86 hK87 => ?_
      refine nrm (vals := [(0, u7), (1, .int .u64 ((h : Nat) : Int)), (2, kv), (3, (mV m)), (8, .slice none 0 0), (9, .bool false), (10, .int .u64 (((N.hash e).getD 0 : Nat) : Int)), (11, .bool ((N.hash e).isSome)), (12, .pointer (some ⟨b36, 0, none⟩)), (13, .bool (decide (N.kind e = 1))), (33, .bool (decide (N.kind e = 1))), (55, .bool true)]) (.cons rfl (.cons rfl (.cons rfl (.cons rfl (.cons rfl (.cons rfl (.cons rfl (.cons rfl (.cons rfl (.cons rfl (.cons rfl (.cons rfl .nil)))))))))))) fun g88 => ?_
      refine wl_begin ?_
      refine sq (r_assign rfl) rfl ?_
      refine sq (r_assign rfl) rfl ?_
      refine wl_nil ?_
      refine hK87 _ _ ?_; (try clear hK87 K86)
      refine wp_ret ?_
      have hs89 : St w0 I (ids (mX m (v) (c))) G1 (mX m (v + d) (c) ++ ([⟨b36, #[kv26, xv27], 56⟩] : List Bx)) w41 := hs42.perm (List.Perm.trans ((List.Perm.refl _).cons _) (List.perm_middle (l₁ := (mX m (v + d) (c) : List Bx)) (a := (⟨b36, #[kv26, xv27], 56⟩ : Bx)) (l₂ := [])).symm); clear hs42
      exact leave (X' := mX m (v + d) (c)) (L := [⟨b36, #[kv26, xv27], 56⟩]) hs89 (mX_ids _ _ _ _ _) (res_many (vs := [.slice none 0 0, .bool false]) rfl (.tmp rfl rfl (.tmp rfl rfl .nil)) rfl) (by obtain ⟨q1, q2, q3⟩ := N.end_no (h := h) (k := k) (e := e) (by assumption) (.inl (by assumption)); exact ⟨_, by rw [q1]; rfl, by rw [q1]; exact BytesAt.nil _, mX_congr (by rw [q2]; rfl) (by rw [q3]; rfl)⟩)
    ·
      have h90 : ((N.hash e).isSome) = true := by simpa using h84
      refine sqG (wantedT rfl rfl rfl (congrArg Value.bool h84)) (r_move rfl) rfl ?_
      refine sqG (wantedT rfl rfl rfl (congrArg Value.bool h84)) (r_move rfl) rfl ?_
      refine sqG (wantedT rfl rfl rfl (congrArg Value.bool h84)) (r_neN (a := (N.hash e).getD 0) (b := h) rfl rfl rfl rfl) rfl ?_
      refine sq (r_pick rfl rfl rfl (congrArg Value.bool h84)) rfl ?_
      refine wl_nil ?_
      refine hK83 _ _ ?_; (try clear hK83 K82)
      refine condS rfl rfl (fun h91 => ?_) (fun h91 => ?_)
      ·
        have h92 : (decide ((N.hash e).getD 0 = h)) = false := by simpa using h91
        have p93 := of_decide_eq_false h92
        refine wp_seq_k fun K94 hK95 => ?_
        refine nrm (vals := [(0, u7), (1, .int .u64 ((h : Nat) : Int)), (2, kv), (3, (mV m)), (8, .slice none 0 0), (9, .bool false), (10, .int .u64 (((N.hash e).getD 0 : Nat) : Int)), (11, .bool ((N.hash e).isSome)), (12, .pointer (some ⟨b36, 0, none⟩)), (13, .bool (decide (N.kind e = 1))), (33, .bool (decide (N.kind e = 1))), (55, .bool (!(decide ((N.hash e).getD 0 = h))))]) (.cons rfl (.cons rfl (.cons rfl (.cons rfl (.cons rfl (.cons rfl (.cons rfl (.cons rfl (.cons rfl (.cons rfl (.cons rfl (.cons rfl .nil)))))))))))) fun g96 => ?_
        refine wl_begin ?_
        refine sq (r_assign rfl) rfl ?_
        refine sq (r_assign rfl) rfl ?_
        refine wl_nil ?_
        refine hK95 _ _ ?_; (try clear hK95 K94)
        refine wp_ret ?_
        have hs97 : St w0 I (ids (mX m (v) (c))) G1 (mX m (v + d) (c) ++ ([⟨b36, #[kv26, xv27], 56⟩] : List Bx)) w41 := hs42.perm (List.Perm.trans ((List.Perm.refl _).cons _) (List.perm_middle (l₁ := (mX m (v + d) (c) : List Bx)) (a := (⟨b36, #[kv26, xv27], 56⟩ : Bx)) (l₂ := [])).symm); clear hs42
        exact leave (X' := mX m (v + d) (c)) (L := [⟨b36, #[kv26, xv27], 56⟩]) hs97 (mX_ids _ _ _ _ _) (res_many (vs := [.slice none 0 0, .bool false]) rfl (.tmp rfl rfl (.tmp rfl rfl .nil)) rfl) (by obtain ⟨q1, q2, q3⟩ := N.end_no (h := h) (k := k) (e := e) (by assumption) (.inr (by assumption)); exact ⟨_, by rw [q1]; rfl, by rw [q1]; exact BytesAt.nil _, mX_congr (by rw [q2]; rfl) (by rw [q3]; rfl)⟩)
      ·
        have h98 : (decide ((N.hash e).getD 0 = h)) = true := by simpa using h91
        have p99 := of_decide_eq_true h98
        refine wp_skip ?_
        refine hK81 _ _ ?_; (try clear hK81 K80)
        refine wp_seq_k fun K100 hK101 => ?_
        refine nrm (vals := [(0, u7), (1, .int .u64 ((h : Nat) : Int)), (2, kv), (3, (mV m)), (8, .slice none 0 0), (9, .bool false), (10, .int .u64 (((N.hash e).getD 0 : Nat) : Int)), (11, .bool ((N.hash e).isSome)), (12, .pointer (some ⟨b36, 0, none⟩)), (13, .bool (decide (N.kind e = 1))), (33, .bool (decide (N.kind e = 1))), (55, .bool (!(decide ((N.hash e).getD 0 = h))))]) (.cons rfl (.cons rfl (.cons rfl (.cons rfl (.cons rfl (.cons rfl (.cons rfl (.cons rfl (.cons rfl (.cons rfl (.cons rfl (.cons rfl .nil)))))))))))) fun g102 => ?_
        have hhe2 : (N.hash e).isSome = true := by first | assumption | (simpa using (by assumption : (!(N.hash e).isSome) = false))
        have hhe3 : (N.hash e).getD 0 = h := by assumption
        obtain ⟨t, hbe⟩ := N.of_hash (by assumption) hhe2 hhe3
        have hsm : T.Sm t.toList := by obtain ⟨⟨q, hq⟩, _⟩ := N.way_wf n hw hwd; rw [hbe] at hq; exact hq.tree_sm
        refine wl_begin ?_
        refine sq (r_move rfl) rfl ?_
        refine sqo rfl fun K103 hK104 => ow_call (X := []) (L := (⟨b36, #[kv26, xv27], 56⟩ :: (mX m (v + d) (c) ++ []))) (lb := []) hs42 (tree_ok (hbe ▸ (hn8.up le33))) (by kernel_rfl) rfl rfl rfl rfl rfl ?_
        rintro _ _ X1 w107 ⟨p105, rfl, rfl, ht106⟩ - hs108 hid109
        obtain rfl : X1 = [] := List.map_eq_nil_iff.1 hid109
        replace hs108 : St w0 I (ids (mX m (v) (c))) G1 (⟨b36, #[kv26, xv27], 56⟩ :: (mX m (v + d) (c) ++ [])) w107 := hs108
        clear hs42 hid109
        refine hK104 _ _ ?_; clear hK104 K103
        refine sq (r_move rfl) rfl ?_
        refine sq (r_extract rfl rfl rfl) rfl ?_
        refine sq (r_extract rfl rfl rfl) rfl ?_
        refine sq (r_assign rfl) rfl ?_
        refine sq (r_assign rfl) rfl ?_
        refine wl_nil ?_
        refine hK101 _ _ ?_; (try clear hK101 K100)
        refine wp_seq_k fun K110 hK111 => ?_
        refine wl_begin ?_
        refine sq (r_move rfl) rfl ?_
        refine sq (r_move rfl) rfl ?_
        refine sq (r_move rfl) rfl ?_
        have hs116 : St w0 I (ids (mX m (v) (c))) G1 (mX m (v + d) (c) ++ ([⟨b36, #[kv26, xv27], 56⟩] : List Bx)) w107 := hs108.perm (List.Perm.trans ((List.Perm.refl _).cons _) (List.perm_middle (l₁ := (mX m (v + d) (c) : List Bx)) (a := (⟨b36, #[kv26, xv27], 56⟩ : Bx)) (l₂ := [])).symm); clear hs108
        refine sqo rfl fun K112 hK113 => ow_call (X := mX m (v + d) (c)) (L := [⟨b36, #[kv26, xv27], 56⟩]) (lb := []) hs116 (get_ok ht106 (hk.up le33) hsm) (by kernel_rfl) rfl rfl rfl rfl rfl ?_
        rintro _ G2 X1 w117 ⟨xv114, rfl, hx115, rfl⟩ le120 hs118 hid119
        replace hs118 : St w0 I (ids (mX m (v) (c))) G2 (mX m (v + d + T.path t k) (c + T.path t k) ++ ([⟨b36, #[kv26, xv27], 56⟩] : List Bx)) w117 := hs118
        clear hs116 hid119
        refine hK113 _ _ ?_; clear hK113 K112
        refine sq (r_extract rfl rfl rfl) rfl ?_
        refine sq (r_extract rfl rfl rfl) rfl ?_
        refine sq (r_assign rfl) rfl ?_
        refine sq (r_assign rfl) rfl ?_
        refine wl_nil ?_
        refine hK111 _ _ ?_; (try clear hK111 K110)
        refine wp_ret ?_
        exact leave (X' := mX m (v + d + T.path t k) (c + T.path t k)) (L := [⟨b36, #[kv26, xv27], 56⟩]) hs118 (mX_ids _ _ _ _ _) (res_many (vs := [xv114, .bool ((T.get t k).isSome)]) rfl (.tmp rfl rfl (.tmp rfl rfl .nil)) rfl) (by subst hbe; obtain ⟨q1, q2, q3⟩ := N.end_bucket (h := h) (k := k) (t := t); exact ⟨_, by rw [q1], by rw [q1]; exact hx115, mX_congr (by rw [q2]) (by rw [q3])⟩)
end Go.Proofs.YtlnlodfnplkckaaDoor
/- The contracts of graft.Put and what it calls. -/
namespace Go.Proofs.YtlnlodfnplkckaaDoor
set_option linter.unusedVariables false
set_option linter.unusedSimpArgs false
namespace N
theorem chunks_differ {g h l : Nat} (hg : g < 2 ^ 64) (hh : h < 2 ^ 64) (hl : l ≤ 13) (hq : g % 32 ^ l = h % 32 ^ l) (hne : g ≠ h) : ∃ j, j < 13 ∧ chunkN g (l + j) ≠ chunkN h (l + j) := by
  refine Classical.byContradiction fun hno => hne ?_
  have hall : ∀ j, j < 13 → chunkN g (l + j) = chunkN h (l + j) := fun j hj => Classical.byContradiction fun e => hno ⟨j, hj, e⟩
  have key : ∀ j, l + j ≤ 13 → g % 32 ^ (l + j) = h % 32 ^ (l + j) := by
    intro j
    induction j with
    | zero => intro _; exact hq
    | succ j ih =>
      intro hj
      have h1 := ih (by omega)
      rw [← Nat.add_assoc, chunk_step (l := l + j) (by omega) rfl, chunk_step (l := l + j) (by omega) rfl, h1, hall j (by omega)]
  have h13 := key (13 - l) (by omega)
  rw [show l + (13 - l) = 13 by omega] at h13
  have e : (2 : Nat) ^ 64 ≤ 32 ^ 13 := by decide
  rw [Nat.mod_eq_of_lt (Nat.lt_of_lt_of_le hg e), Nat.mod_eq_of_lt (Nat.lt_of_lt_of_le hh e)] at h13
  exact h13
theorem WF.hash_mod {l q : Nat} {n : N} (h : WF l q n) (hk : n.hash.isSome = true) : n.hash.getD 0 % 32 ^ l = q := by
  cases h with
  | leaf hh hq hk hx => exact hq
  | bucket hh hq hs h2 => exact hq
  | _ => cases hk
theorem ofTree_size (h : Nat) (t : T) : (ofTree h t).size = t.size := by
  by_cases h0 : t.size = 0
  · rw [T.size_zero h0]; rfl
  · by_cases h1 : t.size = 1
    · obtain ⟨k, x, rfl⟩ := T.size_one h1; rfl
    · rw [ofTree_big h0 h1]; rfl
theorem mk_size_le (m : Nat) (kids : List N) : (mk m kids).size ≤ sizes kids := mk_size m kids
theorem ins_size {h : Nat} {k x : Bs} : ∀ (n : N) {l q : Nat}, WF l q n → (ins h k x n l).1.size ≤ n.size + 1 := by
  intro n l
  refine rec2 (P := fun n l => ∀ {q : Nat}, WF l q n → (ins h k x n l).1.size ≤ n.size + 1) ?_ ?_ ?_ ?_ n l
  · intro l q hw; rw [ins]; exact Nat.le_refl _
  · intro g k0 x0 l q hw
    rw [ins]
    split
    · exact fork_size _ _ _ _ _ _
    · split
      · exact Nat.le_succ _
      · rw [ofTree_size]
        have := (T.size_put (T.fromL [(k0, x0)]) k x).2
        rw [T.size_fromL] at this
        exact this
  · intro g t l q hw
    rw [ins]
    split
    · exact fork_size _ _ _ _ _ _
    · rw [ofTree_size]; exact (T.size_put t k x).2
  · intro m kids l ih q hw
    rw [ins]
    have h1 := ih ((chunkN h l : Nat) : Int) (l + 1) (hw.kid (chunkN_lt h l))
    refine Nat.le_trans (mk_size_le _ _) ?_
    have := withK_sizes (k := (ins h k x (kid (.branch m kids) ((chunkN h l : Nat) : Int)) (l + 1)).1) (chunkN_lt h l) hw.fit
    simp only [map, Option.getD_some]
    omega
theorem insN_eq {h : Nat} {k x : Bs} {l : Nat} : ins h k x .none l = (.leaf h k x, true) ∧ insV h k .none l = 0 ∧ insC h k .none l = 0 := ⟨by rw [ins], by rw [insV], by rw [insC]⟩
theorem insLF {h g : Nat} {k x k0 x0 : Bs} {l : Nat} (hne : g ≠ h) : ins h k x (.leaf g k0 x0) l = (fork 13 (.leaf g k0 x0) g (.leaf h k x) h l, true) ∧ insV h k (.leaf g k0 x0) l = 1 ∧ insC h k (.leaf g k0 x0) l = 0 :=
  ⟨by rw [ins, if_pos hne], by rw [insV], by rw [insC, if_pos hne]⟩
theorem insLS {h g : Nat} {k x k0 x0 : Bs} {l : Nat} (he : g = h) (hc : cmpB k k0 = 0) : ins h k x (.leaf g k0 x0) l = (.leaf h k x, false) ∧ insV h k (.leaf g k0 x0) l = 1 ∧ insC h k (.leaf g k0 x0) l = 1 :=
  ⟨by rw [ins, if_neg (fun e => e he), if_pos hc], by rw [insV], by rw [insC, if_neg (fun e => e he)]⟩
theorem insLN {h g : Nat} {k x k0 x0 : Bs} {l : Nat} (he : g = h) (hc : ¬ cmpB k k0 = 0) : ins h k x (.leaf g k0 x0) l = (ofTree h ((T.fromL [(k0, x0)]).put k x), true) ∧ insV h k (.leaf g k0 x0) l = 1 ∧ insC h k (.leaf g k0 x0) l = 1 :=
  ⟨by rw [ins, if_neg (fun e => e he), if_neg hc], by rw [insV], by rw [insC, if_neg (fun e => e he)]⟩
theorem insBF {h g : Nat} {k x : Bs} {t : T} {l : Nat} (hne : g ≠ h) : ins h k x (.bucket g t) l = (fork 13 (.bucket g t) g (.leaf h k x) h l, true) ∧ insV h k (.bucket g t) l = 0 ∧ insC h k (.bucket g t) l = 0 :=
  ⟨by rw [ins, if_pos hne], by rw [insV, if_pos hne], by rw [insC, if_pos hne]⟩
theorem insBS {h g : Nat} {k x : Bs} {t : T} {l : Nat} (he : g = h) : ins h k x (.bucket g t) l = (ofTree h (t.put k x), decide (t.size < (t.put k x).size)) ∧ insV h k (.bucket g t) l = t.path k ∧ insC h k (.bucket g t) l = t.path k :=
  ⟨by rw [ins, if_neg (fun e => e he)], by rw [insV, if_neg (fun e => e he)], by rw [insC, if_neg (fun e => e he)]⟩
theorem of_rest {n : N} (h0 : n.isN = false) (h3 : ¬ n.kind = 3) (h1 : ¬ n.kind = 1) : ∃ g t, n = .bucket g t := by
  cases n with
  | none => cases h0
  | leaf g k x => exact absurd rfl h1
  | bucket g t => exact ⟨g, t, rfl⟩
  | branch m kids => exact absurd rfl h3
end N
/-- What into hands back. -/
def InsR (m : Option Nat) (h : Nat) (k x : Bs) (n : N) (l v c : Nat) (r : Value) (J : GH) (X : List Bx) : Prop :=
  ∃ u, r = .tuple #[u, .bool (N.ins h k x n l).2] ∧ NodeAt J u (N.ins h k x n l).1 ∧ X = mX m (v + N.insV h k n l) (c + N.insC h k n l)
set_option maxRecDepth 100000 in
theorem putbranch_ok {I : GH} {m : Option Nat} {v c : Nat} {n : N} {nv kv xv : Value} {h l q : Nat} {k x : Bs} (ht : TabG I) (hh : h < 2 ^ 64) (h1 : k.length ≤ 1000000) (h2 : x.length ≤ 1000000) (hw : N.WF l q n) (hsz : n.size ≤ 999000) (hn : NodeAt I nv n) (hk : BytesAt I kv k) (hx : BytesAt I xv x) {bm : Nat} {bk : List N} (hbe : n = .branch bm bk)
    (hrec : ∀ {J : GH} {u kv xv : Value} {v c : Nat}, I.le J → NodeAt J u (N.kid n ((chunkN h l : Nat) : Int)) → BytesAt J kv k → BytesAt J xv x →
      Fn Tryd.prog 104 #[.agg #[.int .u64 ((h : Nat) : Int), kv, xv, mV m], u, .int .i64 ((l + 1 : Nat) : Int)] J (mX m v c) (InsR m h k x (N.kid n ((chunkN h l : Nat) : Int)) (l + 1) v c)) :
    Fn Tryd.prog 134 #[.agg #[.int .u64 ((h : Nat) : Int), kv, xv, mV m], nv, .int .i64 ((l : Nat) : Int)] I (mX m v c) (InsR m h k x n l v c) := by
  have hl : l < 13 := by rw [hbe] at hw; exact hw.level
  have hmlt := hw.map_lt
  have hszw : N.sizes ((bitsL (n.map.getD 0 ||| bitN ((chunkN h l : Nat) : Int))).map fun (i : Nat) => N.wkid n ((chunkN h l : Nat) : Int) (N.ins h k x (N.kid n ((chunkN h l : Nat) : Int)) (l + 1)).1 (i : Int)) ≤ 1000000 := by
    have a1 := N.withK_sizes (m := bm) (kids := bk) (k := (N.ins h k x (N.kid n ((chunkN h l : Nat) : Int)) (l + 1)).1) (chunkN_lt h l) (by rw [hbe] at hw; exact hw.fit)
    have a2 := N.ins_size (h := h) (k := k) (x := x) _ (by rw [hbe] at hw; exact hw.kid (chunkN_lt h l))
    subst hbe
    simp only [N.map, Option.getD_some]
    omega
  refine enter (args := [.agg #[.int .u64 ((h : Nat) : Int), kv, xv, (mV m)], nv, .int .i64 ((l : Nat) : Int)]) Tryd.func134 rfl rfl fun w0 hs0 => ?_
  replace hs0 : St w0 I (ids (mX m (v) (c))) I (mX m (v) (c) ++ []) w0 := by simpa using hs0
  refine wp_seq_k fun K1 hK2 => ?_
  refine wl_begin ?_
  refine sqo rfl fun K3 hK4 => ow_newbox (mk := fun b => .pointer (some ⟨b, 0, none⟩)) hs0 (r_box rfl rfl) rfl ?_
  rintro b5 w6 (hs7 : St w0 I (ids (mX m (v) (c))) I (⟨b5, #[.int .u64 ((h : Nat) : Int), kv, xv, (mV m)], 180⟩ :: (mX m (v) (c) ++ [])) w6)
  clear hs0
  refine hK4 _ _ ?_; clear hK4 K3
  refine sq (r_assign rfl) rfl ?_
  refine sq (r_assign rfl) rfl ?_
  refine wl_nil ?_
  refine hK2 _ _ ?_; (try clear hK2 K1)
  refine wp_seq_k fun K8 hK9 => ?_
  refine wl_begin ?_
  refine sq (r_fieldAddr (off := 3) rfl (by kernel_rfl) rfl) rfl ?_
  refine sq (r_load rfl (by kernel_rfl) rfl (hs7.box (.head _)) rfl) rfl ?_
  have hs12 : St w0 I (ids (mX m (v) (c))) I (mX m (v) (c) ++ ([⟨b5, #[.int .u64 ((h : Nat) : Int), kv, xv, (mV m)], 180⟩] : List Bx)) w6 := hs7.perm (List.Perm.trans ((List.Perm.refl _).cons _) (List.perm_middle (l₁ := (mX m (v) (c) : List Bx)) (a := (⟨b5, #[.int .u64 ((h : Nat) : Int), kv, xv, (mV m)], 180⟩ : Bx)) (l₂ := [])).symm); clear hs7
  refine sqo rfl fun K10 hK11 => ow_call (X := mX m (v) (c)) (L := [⟨b5, #[.int .u64 ((h : Nat) : Int), kv, xv, (mV m)], 180⟩]) (lb := []) hs12 (visit_ok) (by kernel_rfl) rfl rfl rfl rfl rfl ?_
  rintro _ _ X1 w13 ⟨rfl, rfl⟩ - hs14 hid15
  replace hs14 : St w0 I (ids (mX m (v) (c))) I (mX m (v + 1) (c) ++ ([⟨b5, #[.int .u64 ((h : Nat) : Int), kv, xv, (mV m)], 180⟩] : List Bx)) w13 := hs14
  clear hs12 hid15
  refine hK11 _ _ ?_; clear hK11 K10
  refine wl_nil ?_
  refine hK9 _ _ ?_; (try clear hK9 K8)
  refine wp_seq_k fun K16 hK17 => ?_
  refine wl_begin ?_
  refine sq (r_fieldAddr (off := 0) rfl (by kernel_rfl) rfl) rfl ?_
  refine sq (r_load rfl (by kernel_rfl) rfl (hs14.box (List.mem_append_right _ (.head _))) rfl) rfl ?_
  refine sq (r_move rfl) rfl ?_
  refine sqo rfl fun K18 hK19 => ow_call (X := []) (L := (mX m (v + 1) (c) ++ ([⟨b5, #[.int .u64 ((h : Nat) : Int), kv, xv, (mV m)], 180⟩] : List Bx))) (lb := []) hs14 (chunk_ok (h := h) (l := l) hh) (by kernel_rfl) rfl rfl rfl rfl rfl ?_
  rintro _ _ X1 w20 ⟨rfl, rfl⟩ - hs21 hid22
  obtain rfl : X1 = [] := List.map_eq_nil_iff.1 hid22
  replace hs21 : St w0 I (ids (mX m (v) (c))) I (mX m (v + 1) (c) ++ ([⟨b5, #[.int .u64 ((h : Nat) : Int), kv, xv, (mV m)], 180⟩] : List Bx)) w20 := hs21
  clear hs14 hid22
  refine hK19 _ _ ?_; clear hK19 K18
  refine sq (r_assign rfl) rfl ?_
  refine wl_nil ?_
  refine hK17 _ _ ?_; (try clear hK17 K16)
  refine wp_seq_k fun K23 hK24 => ?_
  refine wl_begin ?_
  refine sq (r_move rfl) rfl ?_
  refine sq (r_move rfl) rfl ?_
  refine sqo rfl fun K25 hK26 => ow_call (X := []) (L := (mX m (v + 1) (c) ++ ([⟨b5, #[.int .u64 ((h : Nat) : Int), kv, xv, (mV m)], 180⟩] : List Bx))) (lb := []) hs21 (kid_ok hn hw.fit (((chunkN h l) : Nat) : Int)) (by kernel_rfl) rfl rfl rfl rfl rfl ?_
  rintro _ _ X1 w29 ⟨u27, rfl, hn28, rfl⟩ - hs30 hid31
  obtain rfl : X1 = [] := List.map_eq_nil_iff.1 hid31
  replace hs30 : St w0 I (ids (mX m (v) (c))) I (mX m (v + 1) (c) ++ ([⟨b5, #[.int .u64 ((h : Nat) : Int), kv, xv, (mV m)], 180⟩] : List Bx)) w29 := hs30
  clear hs21 hid31
  refine hK26 _ _ ?_; clear hK26 K25
  refine sq (r_move rfl) rfl ?_
  refine sq (r_extract rfl rfl rfl) rfl ?_
  refine sq (r_extract rfl rfl rfl) rfl ?_
  refine sq (r_assign rfl) rfl ?_
  refine sq (r_assign rfl) rfl ?_
  refine wl_nil ?_
  refine hK24 _ _ ?_; (try clear hK24 K23)
  refine wp_seq_k fun K32 hK33 => ?_
  refine nrm (vals := [(0, .agg #[.int .u64 ((h : Nat) : Int), kv, xv, (mV m)]), (1, nv), (2, .int .i64 ((l : Nat) : Int)), (3, .pointer (some ⟨b5, 0, none⟩)), (6, .nilIface), (7, .bool false), (8, .int .i64 (((chunkN h l) : Nat) : Int)), (9, u27)]) (.cons rfl (.cons rfl (.cons rfl (.cons rfl (.cons rfl (.cons rfl (.cons rfl (.cons rfl .nil)))))))) fun g34 => ?_
  refine wl_begin ?_
  refine sq (r_loadN (m := 4) rfl (by kernel_rfl) rfl (hs30.box (List.mem_append_right _ (.head _))) rfl rfl) rfl ?_
  refine sq (r_move rfl) rfl ?_
  refine sq (r_move rfl) rfl ?_
  refine sq (r_addi rfl rfl rfl rfl (by omega)) rfl ?_
  refine sqo rfl fun K35 hK36 => ow_call (X := mX m (v + 1) (c)) (L := [⟨b5, #[.int .u64 ((h : Nat) : Int), kv, xv, (mV m)], 180⟩]) (lb := []) hs30 (hrec (GH.le.refl _) hn28 hk hx) (by kernel_rfl) rfl rfl rfl rfl rfl ?_
  rintro _ G1 X1 w39 ⟨u37, rfl, hn38, rfl⟩ le42 hs40 hid41
  replace hs40 : St w0 I (ids (mX m (v) (c))) G1 (mX m (v + 1 + N.insV h k (N.kid n ((chunkN h l : Nat) : Int)) (l + 1)) (c + N.insC h k (N.kid n ((chunkN h l : Nat) : Int)) (l + 1)) ++ ([⟨b5, #[.int .u64 ((h : Nat) : Int), kv, xv, (mV m)], 180⟩] : List Bx)) w39 := hs40
  clear hs30 hid41
  refine hK36 _ _ ?_; clear hK36 K35
  refine sq (r_move rfl) rfl ?_
  refine sq (r_extract rfl rfl rfl) rfl ?_
  refine sq (r_extract rfl rfl rfl) rfl ?_
  refine sq (r_assign rfl) rfl ?_
  refine sq (r_assign rfl) rfl ?_
  refine wl_nil ?_
  refine hK33 _ _ ?_; (try clear hK33 K32)
  refine wp_seq_k fun K43 hK44 => ?_
  refine wl_begin ?_
  refine sq (r_move rfl) rfl ?_
  refine sq (r_move rfl) rfl ?_
  refine sq (r_move rfl) rfl ?_
  refine sqo rfl fun K45 hK46 => ow_call (X := []) (L := (mX m (v + 1 + N.insV h k (N.kid n ((chunkN h l : Nat) : Int)) (l + 1)) (c + N.insC h k (N.kid n ((chunkN h l : Nat) : Int)) (l + 1)) ++ ([⟨b5, #[.int .u64 ((h : Nat) : Int), kv, xv, (mV m)], 180⟩] : List Bx))) (lb := []) hs40 (with_node_ok (ht.up le42) (hn.up le42) hn38 hw.fit hmlt (((chunkN h l) : Nat) : Int) hszw) (by kernel_rfl) rfl rfl rfl rfl rfl ?_
  rintro v47 G2 X1 w49 hn48 le52 hs50 hid51
  obtain rfl : X1 = [] := List.map_eq_nil_iff.1 hid51
  replace hs50 : St w0 I (ids (mX m (v) (c))) G2 (mX m (v + 1 + N.insV h k (N.kid n ((chunkN h l : Nat) : Int)) (l + 1)) (c + N.insC h k (N.kid n ((chunkN h l : Nat) : Int)) (l + 1)) ++ ([⟨b5, #[.int .u64 ((h : Nat) : Int), kv, xv, (mV m)], 180⟩] : List Bx)) w49 := hs50
  clear hs40 hid51
  refine hK46 _ _ ?_; clear hK46 K45
  refine sq (r_move rfl) rfl ?_
  refine sq (r_assign rfl) rfl ?_
  refine sq (r_assign rfl) rfl ?_
  refine wl_nil ?_
  refine hK44 _ _ ?_; (try clear hK44 K43)
  refine wp_ret ?_
  exact leave (X' := mX m (v + 1 + N.insV h k (N.kid n ((chunkN h l : Nat) : Int)) (l + 1)) (c + N.insC h k (N.kid n ((chunkN h l : Nat) : Int)) (l + 1))) (L := [⟨b5, #[.int .u64 ((h : Nat) : Int), kv, xv, (mV m)], 180⟩]) hs50 (mX_ids _ _ _ _ _) (res_many (vs := [v47, .bool ((N.ins h k x (N.kid n ((chunkN h l : Nat) : Int)) (l + 1)).2)]) rfl (.tmp rfl rfl (.tmp rfl rfl .nil)) rfl) (by subst hbe; exact ⟨_, by rw [N.ins], by rw [N.ins]; exact hn48, mX_congr (by rw [N.insV]; omega) (by rw [N.insC])⟩)
theorem insdec {a b : Nat} : decide (((a : Nat) : Int) < ((b : Nat) : Int)) = decide (a < b) := by rw [Bool.eq_iff_iff]; simp
set_option maxRecDepth 100000 in
theorem into1_ok {I : GH} {m : Option Nat} {v c : Nat} {n : N} {nv kv xv : Value} {h l q : Nat} {k x : Bs} (ht : TabG I) (hh : h < 2 ^ 64) (h1 : k.length ≤ 1000000) (h2 : x.length ≤ 1000000) (hw : N.WF l q n) (hsz : n.size ≤ 999000) (hn : NodeAt I nv n) (hk : BytesAt I kv k) (hx : BytesAt I xv x) (hq : h % 32 ^ l = q) (hl : l ≤ 13)
    (hrec : ∀ (bm : Nat) (bk : List N), n = .branch bm bk → ∀ {J : GH} {u kv xv : Value} {v c : Nat}, I.le J → NodeAt J u (N.kid n ((chunkN h l : Nat) : Int)) → BytesAt J kv k → BytesAt J xv x →
      Fn Tryd.prog 104 #[.agg #[.int .u64 ((h : Nat) : Int), kv, xv, mV m], u, .int .i64 ((l + 1 : Nat) : Int)] J (mX m v c) (InsR m h k x (N.kid n ((chunkN h l : Nat) : Int)) (l + 1) v c)) :
    Fn Tryd.prog 104 #[.agg #[.int .u64 ((h : Nat) : Int), kv, xv, mV m], nv, .int .i64 ((l : Nat) : Int)] I (mX m v c) (InsR m h k x n l v c) := by
  have hpsm := hw.pair_sm
  refine enter (args := [.agg #[.int .u64 ((h : Nat) : Int), kv, xv, (mV m)], nv, .int .i64 ((l : Nat) : Int)]) Tryd.func104 rfl rfl fun w0 hs0 => ?_
  replace hs0 : St w0 I (ids (mX m (v) (c))) I (mX m (v) (c) ++ []) w0 := by simpa using hs0
  refine wp_seq_k fun K1 hK2 => ?_
  refine wl_begin ?_
  refine sqo rfl fun K3 hK4 => ow_newbox (mk := fun b => .pointer (some ⟨b, 0, none⟩)) hs0 (r_box rfl rfl) rfl ?_
  rintro b5 w6 (hs7 : St w0 I (ids (mX m (v) (c))) I (⟨b5, #[.int .u64 ((h : Nat) : Int), kv, xv, (mV m)], 180⟩ :: (mX m (v) (c) ++ [])) w6)
  clear hs0
  refine hK4 _ _ ?_; clear hK4 K3
  refine sq (r_assign rfl) rfl ?_
  refine sq (r_assign rfl) rfl ?_
  refine wl_nil ?_
  refine hK2 _ _ ?_; (try clear hK2 K1)
  refine wp_seq_k fun K8 hK9 => ?_
  refine wp_block ?_
  refine wp_seq_k fun K10 hK11 => ?_
  refine wl_begin ?_
  refine sq (r_move rfl) rfl ?_
  refine sq (r_eqf rfl (by kernel_rfl) rfl hn.pif) rfl ?_
  refine sq (r_assign rfl) rfl ?_
  refine wl_nil ?_
  refine hK11 _ _ ?_; (try clear hK11 K10)
  refine condS rfl rfl (fun h12 => ?_) (fun h12 => ?_)
  ·
    have hbe : n = .none := N.isN_iff.1 (by rw [← hn.isN]; assumption)
    refine wp_seq_k fun K13 hK14 => ?_
    refine wl_begin ?_
    refine sq (r_fieldAddr (off := 0) rfl (by kernel_rfl) rfl) rfl ?_
    refine sq (r_load rfl (by kernel_rfl) rfl (hs7.box (.head _)) rfl) rfl ?_
    refine sq (r_fieldAddr (off := 1) rfl (by kernel_rfl) rfl) rfl ?_
    refine sq (r_loadN (m := 2) rfl (by kernel_rfl) rfl (hs7.box (.head _)) rfl rfl) rfl ?_
    refine sqo rfl fun K15 hK16 => ow_call (X := []) (L := (⟨b5, #[.int .u64 ((h : Nat) : Int), kv, xv, (mV m)], 180⟩ :: (mX m (v) (c) ++ []))) (lb := []) hs7 (leaf_ok (h := h) hh hk hx h1 h2) (by kernel_rfl) rfl rfl rfl rfl rfl ?_
    rintro lv17 G1 X1 w19 hn18 le22 hs20 hid21
    obtain rfl : X1 = [] := List.map_eq_nil_iff.1 hid21
    replace hs20 : St w0 I (ids (mX m (v) (c))) G1 (⟨b5, #[.int .u64 ((h : Nat) : Int), kv, xv, (mV m)], 180⟩ :: (mX m (v) (c) ++ [])) w19 := hs20
    clear hs7 hid21
    refine hK16 _ _ ?_; clear hK16 K15
    refine sq (r_assign rfl) rfl ?_
    refine sq (r_assign rfl) rfl ?_
    refine wl_nil ?_
    refine hK14 _ _ ?_; (try clear hK14 K13)
    refine wp_ret ?_
    have hs23 : St w0 I (ids (mX m (v) (c))) G1 (mX m (v) (c) ++ ([⟨b5, #[.int .u64 ((h : Nat) : Int), kv, xv, (mV m)], 180⟩] : List Bx)) w19 := hs20.perm (List.Perm.trans ((List.Perm.refl _).cons _) (List.perm_middle (l₁ := (mX m (v) (c) : List Bx)) (a := (⟨b5, #[.int .u64 ((h : Nat) : Int), kv, xv, (mV m)], 180⟩ : Bx)) (l₂ := [])).symm); clear hs20
    exact leave (X' := mX m (v) (c)) (L := [⟨b5, #[.int .u64 ((h : Nat) : Int), kv, xv, (mV m)], 180⟩]) hs23 (mX_ids _ _ _ _ _) (res_many (vs := [lv17, .bool true]) rfl (.tmp rfl rfl (.tmp rfl rfl .nil)) rfl) (by subst hbe; obtain ⟨q1, q2, q3⟩ := N.insN_eq (h := h) (k := k) (x := x) (l := l); exact ⟨_, by rw [q1], by rw [q1]; exact hn18, mX_congr (by rw [q2]; rfl) (by rw [q3]; rfl)⟩)
  ·
    have hnn : n.isN = false := by rw [← hn.isN]; assumption
    refine wp_seq_k fun K24 hK25 => ?_
    refine wl_begin ?_
    refine sq (r_move rfl) rfl ?_
    refine sqo rfl fun K26 hK27 => ow_kind (L := (⟨b5, #[.int .u64 ((h : Nat) : Int), kv, xv, (mV m)], 180⟩ :: (mX m (v) (c) ++ []))) hs7 hn (N.ne_of hnn) rfl rfl rfl ?_
    rintro _ _ X1 w28 ⟨rfl, rfl⟩ - hs29 hid30
    obtain rfl : X1 = [] := List.map_eq_nil_iff.1 hid30
    replace hs29 : St w0 I (ids (mX m (v) (c))) I (⟨b5, #[.int .u64 ((h : Nat) : Int), kv, xv, (mV m)], 180⟩ :: (mX m (v) (c) ++ [])) w28 := hs29
    clear hs7 hid30
    refine hK27 _ _ ?_; clear hK27 K26
    refine sq (r_eqi rfl rfl rfl rfl) rfl ?_
    refine sq (r_assign rfl) rfl ?_
    refine wl_nil ?_
    refine hK25 _ _ ?_; (try clear hK25 K24)
    refine condS rfl rfl (fun h31 => ?_) (fun h31 => ?_)
    ·
      have p32 := of_decide_eq_true h31
      obtain ⟨bm, bk, hbe⟩ := N.of_kind3 (n := n) (by omega)
      refine wp_seq_k fun K33 hK34 => ?_
      refine wl_begin ?_
      refine sq (r_loadN (m := 4) rfl (by kernel_rfl) rfl (hs29.box (.head _)) rfl rfl) rfl ?_
      refine sq (r_move rfl) rfl ?_
      refine sq (r_move rfl) rfl ?_
      have hs39 : St w0 I (ids (mX m (v) (c))) I (mX m (v) (c) ++ ([⟨b5, #[.int .u64 ((h : Nat) : Int), kv, xv, (mV m)], 180⟩] : List Bx)) w28 := hs29.perm (List.Perm.trans ((List.Perm.refl _).cons _) (List.perm_middle (l₁ := (mX m (v) (c) : List Bx)) (a := (⟨b5, #[.int .u64 ((h : Nat) : Int), kv, xv, (mV m)], 180⟩ : Bx)) (l₂ := [])).symm); clear hs29
      refine sqo rfl fun K35 hK36 => ow_call (X := mX m (v) (c)) (L := [⟨b5, #[.int .u64 ((h : Nat) : Int), kv, xv, (mV m)], 180⟩]) (lb := []) hs39 (putbranch_ok ht hh h1 h2 hw hsz hn hk hx hbe (hrec bm bk hbe)) (by kernel_rfl) rfl rfl rfl rfl rfl ?_
      rintro _ G2 X1 w40 ⟨u37, rfl, hn38, rfl⟩ le43 hs41 hid42
      replace hs41 : St w0 I (ids (mX m (v) (c))) G2 (mX m (v + N.insV h k n l) (c + N.insC h k n l) ++ ([⟨b5, #[.int .u64 ((h : Nat) : Int), kv, xv, (mV m)], 180⟩] : List Bx)) w40 := hs41
      clear hs39 hid42
      refine hK36 _ _ ?_; clear hK36 K35
      refine sq (r_extract rfl rfl rfl) rfl ?_
      refine sq (r_extract rfl rfl rfl) rfl ?_
      refine sq (r_assign rfl) rfl ?_
      refine sq (r_assign rfl) rfl ?_
      refine wl_nil ?_
      refine hK34 _ _ ?_; (try clear hK34 K33)
      refine wp_ret ?_
      exact leave (X' := mX m (v + N.insV h k n l) (c + N.insC h k n l)) (L := [⟨b5, #[.int .u64 ((h : Nat) : Int), kv, xv, (mV m)], 180⟩]) hs41 (mX_ids _ _ _ _ _) (res_many (vs := [u37, .bool ((N.ins h k x n l).2)]) rfl (.tmp rfl rfl (.tmp rfl rfl .nil)) rfl) ⟨_, rfl, hn38, rfl⟩
    ·
      have p44 := of_decide_eq_false h31
      refine wp_skip ?_
      refine hK9 _ _ ?_; (try clear hK9 K8)
      refine wp_seq_k fun K45 hK46 => ?_
      refine wp_seq_k fun K47 hK48 => ?_
      refine wl_begin ?_
      refine sq (r_move rfl) rfl ?_
      refine sqo rfl fun K49 hK50 => ow_kind (L := (⟨b5, #[.int .u64 ((h : Nat) : Int), kv, xv, (mV m)], 180⟩ :: (mX m (v) (c) ++ []))) hs29 hn (N.ne_of hnn) rfl rfl rfl ?_
      rintro _ _ X1 w51 ⟨rfl, rfl⟩ - hs52 hid53
      obtain rfl : X1 = [] := List.map_eq_nil_iff.1 hid53
      replace hs52 : St w0 I (ids (mX m (v) (c))) I (⟨b5, #[.int .u64 ((h : Nat) : Int), kv, xv, (mV m)], 180⟩ :: (mX m (v) (c) ++ [])) w51 := hs52
      clear hs29 hid53
      refine hK50 _ _ ?_; clear hK50 K49
      refine sq (r_eqi rfl rfl rfl rfl) rfl ?_
      refine wl_nil ?_
      refine hK48 _ _ ?_; (try clear hK48 K47)
      refine condS rfl rfl (fun h54 => ?_) (fun h54 => ?_)
      ·
        have p55 := of_decide_eq_true h54
        obtain ⟨g0, k0, x0, hbe⟩ := N.of_kind1 (n := n) (by omega)
        have hhs : n.hash.isSome = true := by rw [hbe]; rfl
        have hhe : n.hash.getD 0 < 2 ^ 64 := hw.hash_lt
        refine nrm (vals := [(0, .agg #[.int .u64 ((h : Nat) : Int), kv, xv, (mV m)]), (1, nv), (2, .int .i64 ((l : Nat) : Int)), (3, .pointer (some ⟨b5, 0, none⟩)), (6, .nilIface), (7, .bool false), (15, .bool (isNilIf nv)), (23, .bool (decide ((((N.kind n) : Nat) : Int) = 3))), (35, .bool (decide ((((N.kind n) : Nat) : Int) = 1)))]) (.cons rfl (.cons rfl (.cons rfl (.cons rfl (.cons rfl (.cons rfl (.cons rfl (.cons rfl (.cons rfl .nil))))))))) fun g56 => ?_
        refine wl_begin ?_
        refine sq (r_fieldAddr (off := 3) rfl (by kernel_rfl) rfl) rfl ?_
        refine sq (r_load rfl (by kernel_rfl) rfl (hs52.box (.head _)) rfl) rfl ?_
        have hs59 : St w0 I (ids (mX m (v) (c))) I (mX m (v) (c) ++ ([⟨b5, #[.int .u64 ((h : Nat) : Int), kv, xv, (mV m)], 180⟩] : List Bx)) w51 := hs52.perm (List.Perm.trans ((List.Perm.refl _).cons _) (List.perm_middle (l₁ := (mX m (v) (c) : List Bx)) (a := (⟨b5, #[.int .u64 ((h : Nat) : Int), kv, xv, (mV m)], 180⟩ : Bx)) (l₂ := [])).symm); clear hs52
        refine sqo rfl fun K57 hK58 => ow_call (X := mX m (v) (c)) (L := [⟨b5, #[.int .u64 ((h : Nat) : Int), kv, xv, (mV m)], 180⟩]) (lb := []) hs59 (visit_ok) (by kernel_rfl) rfl rfl rfl rfl rfl ?_
        rintro _ _ X1 w60 ⟨rfl, rfl⟩ - hs61 hid62
        replace hs61 : St w0 I (ids (mX m (v) (c))) I (mX m (v + 1) (c) ++ ([⟨b5, #[.int .u64 ((h : Nat) : Int), kv, xv, (mV m)], 180⟩] : List Bx)) w60 := hs61
        clear hs59 hid62
        refine hK58 _ _ ?_; clear hK58 K57
        refine wl_nil ?_
        refine hK46 _ _ ?_; (try clear hK46 K45)
        refine wp_seq_k fun K63 hK64 => ?_
        refine wp_seq_k fun K65 hK66 => ?_
        refine wl_begin ?_
        refine sq (r_move rfl) rfl ?_
        refine sqo rfl fun K67 hK68 => ow_call (X := []) (L := (mX m (v + 1) (c) ++ ([⟨b5, #[.int .u64 ((h : Nat) : Int), kv, xv, (mV m)], 180⟩] : List Bx))) (lb := []) hs61 (hash_ok hn) (by kernel_rfl) rfl rfl rfl rfl rfl ?_
        rintro _ _ X1 w69 ⟨rfl, rfl⟩ - hs70 hid71
        obtain rfl : X1 = [] := List.map_eq_nil_iff.1 hid71
        replace hs70 : St w0 I (ids (mX m (v) (c))) I (mX m (v + 1) (c) ++ ([⟨b5, #[.int .u64 ((h : Nat) : Int), kv, xv, (mV m)], 180⟩] : List Bx)) w69 := hs70
        clear hs61 hid71
        refine hK68 _ _ ?_; clear hK68 K67
        refine sq (r_move rfl) rfl ?_
        refine sq (r_extract rfl rfl rfl) rfl ?_
        refine sq (r_extract rfl rfl rfl) rfl ?_
        refine sq (r_assign rfl) rfl ?_
        refine sq (r_assign rfl) rfl ?_
        refine wl_nil ?_
        refine hK66 _ _ ?_; (try clear hK66 K65)
        refine wp_seq_k fun K72 hK73 => ?_
        refine wl_begin ?_
        refine sq (r_move rfl) rfl ?_
        refine sq (r_fieldAddr (off := 0) rfl (by kernel_rfl) rfl) rfl ?_
        refine sq (r_load rfl (by kernel_rfl) rfl (hs70.box (List.mem_append_right _ (.head _))) rfl) rfl ?_
        refine sq (r_neN (a := (N.hash n).getD 0) (b := h) rfl rfl rfl rfl) rfl ?_
        refine wl_nil ?_
        refine hK73 _ _ ?_; (try clear hK73 K72)
        refine condS rfl rfl (fun h74 => ?_) (fun h74 => ?_)
        ·
          have h75 : (decide ((N.hash n).getD 0 = h)) = false := by simpa using h74
          have p76 := of_decide_eq_false h75
          refine wp_seq_k fun K77 hK78 => ?_
          refine nrm (vals := [(0, .agg #[.int .u64 ((h : Nat) : Int), kv, xv, (mV m)]), (1, nv), (2, .int .i64 ((l : Nat) : Int)), (3, .pointer (some ⟨b5, 0, none⟩)), (6, .nilIface), (7, .bool false), (8, .int .u64 (((N.hash n).getD 0 : Nat) : Int)), (15, .bool (isNilIf nv)), (23, .bool (decide ((((N.kind n) : Nat) : Int) = 3))), (35, .bool (decide ((((N.kind n) : Nat) : Int) = 1))), (47, .bool (!(decide ((N.hash n).getD 0 = h))))]) (.cons rfl (.cons rfl (.cons rfl (.cons rfl (.cons rfl (.cons rfl (.cons rfl (.cons rfl (.cons rfl (.cons rfl (.cons rfl .nil))))))))))) fun g79 => ?_
          refine draw_begin (S := SS I [⟨b5, #[.int .u64 ((h : Nat) : Int), kv, xv, (mV m)], 180⟩]) (by kernel_rfl) ?_
          have hs80 := hs70.drew; clear hs70
          have hss := hs80.ss (I := I) (GH.le.refl _) (SubL.sub (.cons (List.mem_append_right _ (.head _)) .nil))
          refine dt 0 rfl (by kernel_rfl) (fun _ _ _ h => h) hss (fun _ h => r_move rfl) rfl ?_
          refine dt 1 rfl (by kernel_rfl) (fun _ _ _ h => h) hss (fun _ h => r_move rfl) rfl ?_
          refine dt 2 rfl (by kernel_rfl) (fun _ _ _ h => h) hss (fun _ h => (r_fieldAddr (off := 0) rfl (by kernel_rfl) rfl)) rfl ?_
          refine dt 3 rfl (by kernel_rfl) (fun _ _ _ h => h) hss (fun _ h => r_load rfl (by kernel_rfl) rfl (h.box (.head _)) rfl) rfl ?_
          refine dt 4 rfl (by kernel_rfl) (fun _ _ _ h => h) hss (fun _ h => (r_fieldAddr (off := 1) rfl (by kernel_rfl) rfl)) rfl ?_
          refine dt 5 rfl (by kernel_rfl) (fun _ _ _ h => h) hss (fun _ h => r_loadN (m := 2) rfl (by kernel_rfl) rfl (h.box (.head _)) rfl rfl) rfl ?_
          refine dt 7 rfl (by kernel_rfl) (fun _ _ _ h => h) hss (fun _ h => (r_fieldAddr (off := 0) rfl (by kernel_rfl) rfl)) rfl ?_
          refine dt 8 rfl (by kernel_rfl) (fun _ _ _ h => h) hss (fun _ h => r_load rfl (by kernel_rfl) rfl (h.box (.head _)) rfl) rfl ?_
          refine dt 9 rfl (by kernel_rfl) (fun _ _ _ h => h) hss (fun _ h => r_move rfl) rfl ?_
          refine dro 6 (by kernel_rfl) rfl (ow_call (X := []) (L := (mX m (v + 1) (c) ++ ([⟨b5, #[.int .u64 ((h : Nat) : Int), kv, xv, (mV m)], 180⟩] : List Bx))) (lb := []) hs80 (leaf_ok (h := h) hh hk hx h1 h2) (by kernel_rfl) rfl rfl rfl rfl rfl ?_)
          rintro lv81 G3 X1 w83 hn82 le86 hs84 hid85
          obtain rfl : X1 = [] := List.map_eq_nil_iff.1 hid85
          replace hs84 : St w0 I (ids (mX m (v) (c))) G3 (mX m (v + 1) (c) ++ ([⟨b5, #[.int .u64 ((h : Nat) : Int), kv, xv, (mV m)], 180⟩] : List Bx)) w83 := hs84
          clear hs80 hid85
          replace hss := hs84.ss (I := I) le86 (SubL.sub (.cons (List.mem_append_right _ (.head _)) .nil))
          refine ⟨hss, ?_⟩
          refine dro 10 (by kernel_rfl) rfl (ow_call (X := []) (L := (mX m (v + 1) (c) ++ ([⟨b5, #[.int .u64 ((h : Nat) : Int), kv, xv, (mV m)], 180⟩] : List Bx))) (lb := []) hs84 (fork_ok (g := (N.hash n).getD 0) (h := h) hhe hh (b := N.leaf h k x) (by show n.size + 1 ≤ 1000000; omega) 13 (hn.up le86) hn82 (by omega) (N.chunks_differ hhe hh hl (by rw [hw.hash_mod hhs, hq]) (by assumption))) (by kernel_rfl) rfl rfl rfl rfl rfl ?_)
          rintro u87 G4 X1 w89 hn88 le92 hs90 hid91
          obtain rfl : X1 = [] := List.map_eq_nil_iff.1 hid91
          replace hs90 : St w0 I (ids (mX m (v) (c))) G4 (mX m (v + 1) (c) ++ ([⟨b5, #[.int .u64 ((h : Nat) : Int), kv, xv, (mV m)], 180⟩] : List Bx)) w89 := hs90
          clear hs84 hid91
          replace hss := hs90.ss (I := I) (le86.trans le92) (SubL.sub (.cons (List.mem_append_right _ (.head _)) .nil))
          refine ⟨hss, ?_⟩
          refine dt 11 rfl (by kernel_rfl) (fun _ _ _ h => h) hss (fun _ h => r_assign rfl) rfl ?_
          refine dt 12 rfl (by kernel_rfl) (fun _ _ _ h => h) hss (fun _ h => r_assign rfl) rfl ?_
          refine nrmD (vals := [(0, .agg #[.int .u64 ((h : Nat) : Int), kv, xv, (mV m)]), (1, nv), (2, .int .i64 ((l : Nat) : Int)), (3, .pointer (some ⟨b5, 0, none⟩)), (6, u87), (7, .bool true), (8, .int .u64 (((N.hash n).getD 0 : Nat) : Int)), (15, .bool (isNilIf nv)), (23, .bool (decide ((((N.kind n) : Nat) : Int) = 3))), (35, .bool (decide ((((N.kind n) : Nat) : Int) = 1))), (47, .bool (!(decide ((N.hash n).getD 0 = h))))]) (.cons rfl (.cons rfl (.cons rfl (.cons rfl (.cons rfl (.cons rfl (.cons rfl (.cons rfl (.cons rfl (.cons rfl (.cons rfl .nil))))))))))) fun g93 => ?_
          refine draw_done (by kernel_rfl) ?_
          refine hK78 _ _ ?_; (try clear hK78 K77)
          refine wp_ret ?_
          exact leave (X' := mX m (v + 1) (c)) (L := [⟨b5, #[.int .u64 ((h : Nat) : Int), kv, xv, (mV m)], 180⟩]) hs90 (mX_ids _ _ _ _ _) (res_many (vs := [u87, .bool true]) rfl (.tmp rfl rfl (.tmp rfl rfl .nil)) rfl) (by subst hbe; obtain ⟨q1, q2, q3⟩ := N.insLF (h := h) (k := k) (x := x) (l := l) (g := g0) (k0 := k0) (x0 := x0) (by assumption); exact ⟨_, by rw [q1], by rw [q1]; exact hn88, mX_congr (by rw [q2]) (by rw [q3]; rfl)⟩)
        ·
          have h94 : (decide ((N.hash n).getD 0 = h)) = true := by simpa using h74
          have p95 := of_decide_eq_true h94
          refine wp_skip ?_
          refine hK64 _ _ ?_; (try clear hK64 K63)
          refine wp_seq_k fun K96 hK97 => ?_
          refine wp_seq_k fun K98 hK99 => ?_
          refine nrm (vals := [(0, .agg #[.int .u64 ((h : Nat) : Int), kv, xv, (mV m)]), (1, nv), (2, .int .i64 ((l : Nat) : Int)), (3, .pointer (some ⟨b5, 0, none⟩)), (6, .nilIface), (7, .bool false), (8, .int .u64 (((N.hash n).getD 0 : Nat) : Int)), (15, .bool (isNilIf nv)), (23, .bool (decide ((((N.kind n) : Nat) : Int) = 3))), (35, .bool (decide ((((N.kind n) : Nat) : Int) = 1))), (47, .bool (!(decide ((N.hash n).getD 0 = h))))]) (.cons rfl (.cons rfl (.cons rfl (.cons rfl (.cons rfl (.cons rfl (.cons rfl (.cons rfl (.cons rfl (.cons rfl (.cons rfl .nil))))))))))) fun g100 => ?_
          refine wl_begin ?_
          refine sq (r_move rfl) rfl ?_
          refine sqo rfl fun K101 hK102 => ow_call (X := []) (L := (mX m (v + 1) (c) ++ ([⟨b5, #[.int .u64 ((h : Nat) : Int), kv, xv, (mV m)], 180⟩] : List Bx))) (lb := []) hs70 (pair_of_ok hn hpsm) (by kernel_rfl) rfl rfl rfl rfl rfl ?_
          rintro _ G5 X1 w107 ⟨kv103, xv104, rfl, hk105, hx106⟩ le110 hs108 hid109
          obtain rfl : X1 = [] := List.map_eq_nil_iff.1 hid109
          replace hs108 : St w0 I (ids (mX m (v) (c))) G5 (mX m (v + 1) (c) ++ ([⟨b5, #[.int .u64 ((h : Nat) : Int), kv, xv, (mV m)], 180⟩] : List Bx)) w107 := hs108
          clear hs70 hid109
          refine hK102 _ _ ?_; clear hK102 K101
          refine sq (r_move rfl) rfl ?_
          refine sq (r_extract rfl rfl rfl) rfl ?_
          refine sq (r_extract rfl rfl rfl) rfl ?_
          refine sqo rfl fun K111 hK112 => ow_newbox (mk := fun b => .pointer (some ⟨b, 0, none⟩)) hs108 (r_alloc (cs := [.slice none 0 0, .slice none 0 0]) (by kernel_rfl)) rfl ?_
          rintro b113 w114 (hs115 : St w0 I (ids (mX m (v) (c))) G5 (⟨b113, #[.slice none 0 0, .slice none 0 0], 56⟩ :: (mX m (v + 1) (c) ++ ([⟨b5, #[.int .u64 ((h : Nat) : Int), kv, xv, (mV m)], 180⟩] : List Bx))) w114)
          clear hs108
          refine hK112 _ _ ?_; clear hK112 K111
          refine sqo rfl fun K116 hK117 => ow_store (vs := [kv103, xv104]) hs115 rfl rfl (by kernel_rfl) rfl rfl (.cons (hk105).one (.cons (hx106).one .nil)) rfl ?_
          rintro w118 (hs119 : St w0 I (ids (mX m (v) (c))) G5 (⟨b113, #[kv103, xv104], 56⟩ :: (mX m (v + 1) (c) ++ ([⟨b5, #[.int .u64 ((h : Nat) : Int), kv, xv, (mV m)], 180⟩] : List Bx))) w118)
          clear hs115
          refine hK117 _ _ ?_; clear hK117 K116
          refine sq (r_assign rfl) rfl ?_
          refine wl_nil ?_
          refine hK99 _ _ ?_; (try clear hK99 K98)
          refine wp_seq_k fun K120 hK121 => ?_
          refine wl_begin ?_
          refine sq (r_move rfl) rfl ?_
          refine wl_nil ?_
          refine hK121 _ _ ?_; (try clear hK121 K120)
          refine condS rfl rfl (fun h122 => ?_) (fun h122 => ?_)
          ·
            have p123 := of_decide_eq_true h122
            refine wp_seq_k fun K124 hK125 => ?_
            refine wp_seq_k fun K126 hK127 => ?_
            refine wl_begin ?_
            refine sq (r_fieldAddr (off := 3) rfl (by kernel_rfl) rfl) rfl ?_
            refine sq (r_load rfl (by kernel_rfl) rfl (hs119.box (.tail _ (List.mem_append_right _ (.head _)))) rfl) rfl ?_
            refine sq (r_fieldAddr (off := 1) rfl (by kernel_rfl) rfl) rfl ?_
            refine sq (r_fieldAddr (off := 0) rfl (by kernel_rfl) rfl) rfl ?_
            refine sq (r_load rfl (by kernel_rfl) rfl (hs119.box (.tail _ (List.mem_append_right _ (.head _)))) rfl) rfl ?_
            refine sq (r_fieldAddr (off := 0) rfl (by kernel_rfl) rfl) rfl ?_
            refine sq (r_load rfl (by kernel_rfl) rfl (hs119.box (.head _)) rfl) rfl ?_
            have hs130 : St w0 I (ids (mX m (v) (c))) G5 (mX m (v + 1) (c) ++ ([⟨b113, #[kv103, xv104], 56⟩, ⟨b5, #[.int .u64 ((h : Nat) : Int), kv, xv, (mV m)], 180⟩] : List Bx)) w118 := hs119.perm (List.Perm.trans ((List.Perm.refl _).cons _) (List.perm_middle (l₁ := (mX m (v + 1) (c) : List Bx)) (a := (⟨b113, #[kv103, xv104], 56⟩ : Bx)) (l₂ := [⟨b5, #[.int .u64 ((h : Nat) : Int), kv, xv, (mV m)], 180⟩])).symm); clear hs119
            refine sqo rfl fun K128 hK129 => ow_call (X := mX m (v + 1) (c)) (L := [⟨b113, #[kv103, xv104], 56⟩, ⟨b5, #[.int .u64 ((h : Nat) : Int), kv, xv, (mV m)], 180⟩]) (lb := []) hs130 (mcmp_ok (hk.up le110) hk105) (by kernel_rfl) rfl rfl rfl rfl rfl ?_
            rintro _ _ X1 w131 ⟨rfl, rfl, rfl⟩ - hs132 hid133
            replace hs132 : St w0 I (ids (mX m (v) (c))) G5 (mX m (v + 1) (c + 1) ++ ([⟨b113, #[kv103, xv104], 56⟩, ⟨b5, #[.int .u64 ((h : Nat) : Int), kv, xv, (mV m)], 180⟩] : List Bx)) w131 := hs132
            clear hs130 hid133
            refine hK129 _ _ ?_; clear hK129 K128
            refine sq (r_eqi rfl rfl rfl rfl) rfl ?_
            refine wl_nil ?_
            refine hK127 _ _ ?_; (try clear hK127 K126)
            refine condS rfl rfl (fun h134 => ?_) (fun h134 => ?_)
            ·
              have p135 := of_decide_eq_true h134
              refine wp_seq_k fun K136 hK137 => ?_
              refine nrm (vals := [(0, .agg #[.int .u64 ((h : Nat) : Int), kv, xv, (mV m)]), (1, nv), (2, .int .i64 ((l : Nat) : Int)), (3, .pointer (some ⟨b5, 0, none⟩)), (6, .nilIface), (7, .bool false), (8, .int .u64 (((N.hash n).getD 0 : Nat) : Int)), (10, .pointer (some ⟨b113, 0, none⟩)), (11, .bool (decide (N.kind n = 1))), (15, .bool (isNilIf nv)), (23, .bool (decide ((((N.kind n) : Nat) : Int) = 3))), (35, .bool (decide ((((N.kind n) : Nat) : Int) = 1))), (47, .bool (!(decide ((N.hash n).getD 0 = h)))), (64, .bool (decide (N.kind n = 1))), (73, .bool (decide ((cmpB k ((N.pair n).1)) = 0)))]) (.cons rfl (.cons rfl (.cons rfl (.cons rfl (.cons rfl (.cons rfl (.cons rfl (.cons rfl (.cons rfl (.cons rfl (.cons rfl (.cons rfl (.cons rfl (.cons rfl (.cons rfl .nil))))))))))))))) fun g138 => ?_
              refine wl_begin ?_
              refine sq (r_fieldAddr (off := 0) rfl (by kernel_rfl) rfl) rfl ?_
              refine sq (r_load rfl (by kernel_rfl) rfl (hs132.box (List.mem_append_right _ (.tail _ (.head _)))) rfl) rfl ?_
              refine sq (r_fieldAddr (off := 1) rfl (by kernel_rfl) rfl) rfl ?_
              refine sq (r_loadN (m := 2) rfl (by kernel_rfl) rfl (hs132.box (List.mem_append_right _ (.tail _ (.head _)))) rfl rfl) rfl ?_
              refine sqo rfl fun K139 hK140 => ow_call (X := []) (L := (mX m (v + 1) (c + 1) ++ ([⟨b113, #[kv103, xv104], 56⟩, ⟨b5, #[.int .u64 ((h : Nat) : Int), kv, xv, (mV m)], 180⟩] : List Bx))) (lb := []) hs132 (leaf_ok (h := h) hh (hk.up le110) (hx.up le110) h1 h2) (by kernel_rfl) rfl rfl rfl rfl rfl ?_
              rintro lv141 G6 X1 w143 hn142 le146 hs144 hid145
              obtain rfl : X1 = [] := List.map_eq_nil_iff.1 hid145
              replace hs144 : St w0 I (ids (mX m (v) (c))) G6 (mX m (v + 1) (c + 1) ++ ([⟨b113, #[kv103, xv104], 56⟩, ⟨b5, #[.int .u64 ((h : Nat) : Int), kv, xv, (mV m)], 180⟩] : List Bx)) w143 := hs144
              clear hs132 hid145
              refine hK140 _ _ ?_; clear hK140 K139
              refine sq (r_assign rfl) rfl ?_
              refine sq (r_assign rfl) rfl ?_
              refine wl_nil ?_
              refine hK137 _ _ ?_; (try clear hK137 K136)
              refine wp_ret ?_
              exact leave (X' := mX m (v + 1) (c + 1)) (L := [⟨b113, #[kv103, xv104], 56⟩, ⟨b5, #[.int .u64 ((h : Nat) : Int), kv, xv, (mV m)], 180⟩]) hs144 (mX_ids _ _ _ _ _) (res_many (vs := [lv141, .bool false]) rfl (.tmp rfl rfl (.tmp rfl rfl .nil)) rfl) (by subst hbe; obtain ⟨q1, q2, q3⟩ := N.insLS (h := h) (k := k) (x := x) (l := l) (g := g0) (k0 := k0) (x0 := x0) (by assumption) (by assumption); exact ⟨_, by rw [q1], by rw [q1]; exact hn142, mX_congr (by rw [q2]) (by rw [q3])⟩)
            ·
              have p147 := of_decide_eq_false h134
              refine wp_skip ?_
              refine hK125 _ _ ?_; (try clear hK125 K124)
              refine wp_seq_k fun K148 hK149 => ?_
              refine nrm (vals := [(0, .agg #[.int .u64 ((h : Nat) : Int), kv, xv, (mV m)]), (1, nv), (2, .int .i64 ((l : Nat) : Int)), (3, .pointer (some ⟨b5, 0, none⟩)), (6, .nilIface), (7, .bool false), (8, .int .u64 (((N.hash n).getD 0 : Nat) : Int)), (10, .pointer (some ⟨b113, 0, none⟩)), (11, .bool (decide (N.kind n = 1))), (15, .bool (isNilIf nv)), (23, .bool (decide ((((N.kind n) : Nat) : Int) = 3))), (35, .bool (decide ((((N.kind n) : Nat) : Int) = 1))), (47, .bool (!(decide ((N.hash n).getD 0 = h)))), (64, .bool (decide (N.kind n = 1))), (73, .bool (decide ((cmpB k ((N.pair n).1)) = 0)))]) (.cons rfl (.cons rfl (.cons rfl (.cons rfl (.cons rfl (.cons rfl (.cons rfl (.cons rfl (.cons rfl (.cons rfl (.cons rfl (.cons rfl (.cons rfl (.cons rfl (.cons rfl .nil))))))))))))))) fun g150 => ?_
              refine draw_begin (S := SS G5 [⟨b113, #[kv103, xv104], 56⟩, ⟨b5, #[.int .u64 ((h : Nat) : Int), kv, xv, (mV m)], 180⟩]) (by kernel_rfl) ?_
              have hs151 := hs132.drew; clear hs132
              have hss := hs151.ss (I := G5) (GH.le.refl _) (SubL.sub (.cons (List.mem_append_right _ (.head _)) (.cons (List.mem_append_right _ (.tail _ (.head _))) .nil)))
              refine dt 0 rfl (by kernel_rfl) (fun _ _ _ h => h) hss (fun _ h => (r_fieldAddr (off := 0) rfl (by kernel_rfl) rfl)) rfl ?_
              refine dt 1 rfl (by kernel_rfl) (fun _ _ _ h => h) hss (fun _ h => r_load rfl (by kernel_rfl) rfl (h.box (.tail _ (.head _))) rfl) rfl ?_
              refine dt 2 rfl (by kernel_rfl) (fun _ _ _ h => h) hss (fun _ h => r_loadN (m := 2) rfl (by kernel_rfl) rfl (h.box (.head _)) rfl rfl) rfl ?_
              refine dt 5 rfl (by kernel_rfl) (fun _ _ _ h => h) hss (fun _ h => (r_fieldAddr (off := 1) rfl (by kernel_rfl) rfl)) rfl ?_
              refine dt 6 rfl (by kernel_rfl) (fun _ _ _ h => h) hss (fun _ h => r_loadN (m := 2) rfl (by kernel_rfl) rfl (h.box (.tail _ (.head _))) rfl rfl) rfl ?_
              refine dro 3 (by kernel_rfl) rfl (ow_newimm (mk := fun b => .slice (some ⟨b, 0, none⟩) 1 1) hs151 (r_buildSlice (e := 56) (cells := #[kv103, xv104]) (.cons rfl rfl .nil) (by kernel_rfl)) rfl ?_)
              rintro b152 G7 w153 hb154 le155 hs156 ge157
              clear hs151
              replace hb154 : G7 b152 = some (.cells #[kv103, xv104] 56 (0, 0)) := hb154
              replace hss := hs156.ss (I := G5) le155 (SubL.sub (.cons (List.mem_append_right _ (.head _)) (.cons (List.mem_append_right _ (.tail _ (.head _))) .nil)))
              refine ⟨hss, ?_⟩
              refine dro 4 (by kernel_rfl) rfl (ow_call (X := []) (L := (mX m (v + 1) (c + 1) ++ ([⟨b113, #[kv103, xv104], 56⟩, ⟨b5, #[.int .u64 ((h : Nat) : Int), kv, xv, (mV m)], 180⟩] : List Bx))) (lb := []) hs156 (from_ok (lit_pair hb154 (hk105.up le155) (hx106.up le155)) (Sm.one hpsm.1 hpsm.2) (by simp)) (by kernel_rfl) rfl rfl rfl rfl rfl ?_)
              rintro _ G8 X1 w160 ⟨p158, rfl, ht159⟩ le163 hs161 hid162
              obtain rfl : X1 = [] := List.map_eq_nil_iff.1 hid162
              replace hs161 : St w0 I (ids (mX m (v) (c))) G8 (mX m (v + 1) (c + 1) ++ ([⟨b113, #[kv103, xv104], 56⟩, ⟨b5, #[.int .u64 ((h : Nat) : Int), kv, xv, (mV m)], 180⟩] : List Bx)) w160 := hs161
              clear hs156 hid162
              replace hss := hs161.ss (I := G5) (le155.trans le163) (SubL.sub (.cons (List.mem_append_right _ (.head _)) (.cons (List.mem_append_right _ (.tail _ (.head _))) .nil)))
              refine ⟨hss, ?_⟩
              refine dro 7 (by kernel_rfl) rfl (ow_call (X := []) (L := (mX m (v + 1) (c + 1) ++ ([⟨b113, #[kv103, xv104], 56⟩, ⟨b5, #[.int .u64 ((h : Nat) : Int), kv, xv, (mV m)], 180⟩] : List Bx))) (lb := []) hs161 (putU_ok (m := none) (v := 0) (c := 0) ht159 (hk.up ((le110.trans le155).trans le163)) (hx.up ((le110.trans le155).trans le163)) (by first | (rw [T.size_fromL]; simp) | omega) (by rw [T.toList_fromL]; exact Sm.one hpsm.1 hpsm.2) h1 h2) (by kernel_rfl) rfl rfl rfl rfl rfl ?_)
              rintro _ G9 X1 w166 ⟨p164, rfl, ht165, _⟩ le169 hs167 hid168
              obtain rfl : X1 = [] := List.map_eq_nil_iff.1 hid168
              replace hs167 : St w0 I (ids (mX m (v) (c))) G9 (mX m (v + 1) (c + 1) ++ ([⟨b113, #[kv103, xv104], 56⟩, ⟨b5, #[.int .u64 ((h : Nat) : Int), kv, xv, (mV m)], 180⟩] : List Bx)) w166 := hs167
              clear hs161 hid168
              replace hss := hs167.ss (I := G5) ((le155.trans le163).trans le169) (SubL.sub (.cons (List.mem_append_right _ (.head _)) (.cons (List.mem_append_right _ (.tail _ (.head _))) .nil)))
              refine ⟨hss, ?_⟩
              refine dro 8 (by kernel_rfl) rfl (ow_call (X := []) (L := (mX m (v + 1) (c + 1) ++ ([⟨b113, #[kv103, xv104], 56⟩, ⟨b5, #[.int .u64 ((h : Nat) : Int), kv, xv, (mV m)], 180⟩] : List Bx))) (lb := []) hs167 (bucket_ok (h := h) hh ht165 (T.Sm.put (by rw [T.toList_fromL]; exact Sm.one hpsm.1 hpsm.2) h1 h2)) (by kernel_rfl) rfl rfl rfl rfl rfl ?_)
              rintro lv170 G10 X1 w172 hn171 le175 hs173 hid174
              obtain rfl : X1 = [] := List.map_eq_nil_iff.1 hid174
              replace hs173 : St w0 I (ids (mX m (v) (c))) G10 (mX m (v + 1) (c + 1) ++ ([⟨b113, #[kv103, xv104], 56⟩, ⟨b5, #[.int .u64 ((h : Nat) : Int), kv, xv, (mV m)], 180⟩] : List Bx)) w172 := hs173
              clear hs167 hid174
              replace hss := hs173.ss (I := G5) (((le155.trans le163).trans le169).trans le175) (SubL.sub (.cons (List.mem_append_right _ (.head _)) (.cons (List.mem_append_right _ (.tail _ (.head _))) .nil)))
              refine ⟨hss, ?_⟩
              refine dt 9 rfl (by kernel_rfl) (fun _ _ _ h => h) hss (fun _ h => r_assign rfl) rfl ?_
              refine dt 10 rfl (by kernel_rfl) (fun _ _ _ h => h) hss (fun _ h => r_assign rfl) rfl ?_
              refine draw_done (by kernel_rfl) ?_
              refine hK149 _ _ ?_; (try clear hK149 K148)
              refine wp_ret ?_
              exact leave (X' := mX m (v + 1) (c + 1)) (L := [⟨b113, #[kv103, xv104], 56⟩, ⟨b5, #[.int .u64 ((h : Nat) : Int), kv, xv, (mV m)], 180⟩]) hs173 (mX_ids _ _ _ _ _) (res_many (vs := [lv170, .bool true]) rfl (.tmp rfl rfl (.tmp rfl rfl .nil)) rfl) (by subst hbe; obtain ⟨q1, q2, q3⟩ := N.insLN (h := h) (k := k) (x := x) (l := l) (g := g0) (k0 := k0) (x0 := x0) (by assumption) (by assumption); exact ⟨_, by rw [q1], by rw [q1]; exact hn171, mX_congr (by rw [q2]) (by rw [q3])⟩)
          ·
            have p176 := of_decide_eq_false h122
            omega
      ·
        have p177 := of_decide_eq_false h54
        obtain ⟨g0, t, hbe⟩ := N.of_rest hnn (by omega) (by omega)
        have hsm : T.Sm t.toList := by rw [hbe] at hw; exact hw.tree_sm
        have hhs : n.hash.isSome = true := by rw [hbe]; rfl
        have hhe : n.hash.getD 0 < 2 ^ 64 := hw.hash_lt
        refine wp_skip ?_
        refine hK46 _ _ ?_; (try clear hK46 K45)
        refine wp_seq_k fun K178 hK179 => ?_
        refine wp_seq_k fun K180 hK181 => ?_
        refine nrm (vals := [(0, .agg #[.int .u64 ((h : Nat) : Int), kv, xv, (mV m)]), (1, nv), (2, .int .i64 ((l : Nat) : Int)), (3, .pointer (some ⟨b5, 0, none⟩)), (6, .nilIface), (7, .bool false), (15, .bool (isNilIf nv)), (23, .bool (decide ((((N.kind n) : Nat) : Int) = 3))), (35, .bool (decide ((((N.kind n) : Nat) : Int) = 1)))]) (.cons rfl (.cons rfl (.cons rfl (.cons rfl (.cons rfl (.cons rfl (.cons rfl (.cons rfl (.cons rfl .nil))))))))) fun g182 => ?_
        refine wl_begin ?_
        refine sq (r_move rfl) rfl ?_
        refine sqo rfl fun K183 hK184 => ow_call (X := []) (L := (⟨b5, #[.int .u64 ((h : Nat) : Int), kv, xv, (mV m)], 180⟩ :: (mX m (v) (c) ++ []))) (lb := []) hs52 (hash_ok hn) (by kernel_rfl) rfl rfl rfl rfl rfl ?_
        rintro _ _ X1 w185 ⟨rfl, rfl⟩ - hs186 hid187
        obtain rfl : X1 = [] := List.map_eq_nil_iff.1 hid187
        replace hs186 : St w0 I (ids (mX m (v) (c))) I (⟨b5, #[.int .u64 ((h : Nat) : Int), kv, xv, (mV m)], 180⟩ :: (mX m (v) (c) ++ [])) w185 := hs186
        clear hs52 hid187
        refine hK184 _ _ ?_; clear hK184 K183
        refine sq (r_move rfl) rfl ?_
        refine sq (r_extract rfl rfl rfl) rfl ?_
        refine sq (r_extract rfl rfl rfl) rfl ?_
        refine sq (r_assign rfl) rfl ?_
        refine sq (r_assign rfl) rfl ?_
        refine wl_nil ?_
        refine hK181 _ _ ?_; (try clear hK181 K180)
        refine wp_seq_k fun K188 hK189 => ?_
        refine wl_begin ?_
        refine sq (r_move rfl) rfl ?_
        refine sq (r_fieldAddr (off := 0) rfl (by kernel_rfl) rfl) rfl ?_
        refine sq (r_load rfl (by kernel_rfl) rfl (hs186.box (.head _)) rfl) rfl ?_
        refine sq (r_neN (a := (N.hash n).getD 0) (b := h) rfl rfl rfl rfl) rfl ?_
        refine wl_nil ?_
        refine hK189 _ _ ?_; (try clear hK189 K188)
        refine condS rfl rfl (fun h190 => ?_) (fun h190 => ?_)
        ·
          have h191 : (decide ((N.hash n).getD 0 = h)) = false := by simpa using h190
          have p192 := of_decide_eq_false h191
          refine wp_seq_k fun K193 hK194 => ?_
          refine draw_begin (S := SS I [⟨b5, #[.int .u64 ((h : Nat) : Int), kv, xv, (mV m)], 180⟩]) (by kernel_rfl) ?_
          have hs195 := hs186.drew; clear hs186
          have hss := hs195.ss (I := I) (GH.le.refl _) (SubL.sub (.cons (.head _) .nil))
          refine dt 0 rfl (by kernel_rfl) (fun _ _ _ h => h) hss (fun _ h => r_move rfl) rfl ?_
          refine dt 1 rfl (by kernel_rfl) (fun _ _ _ h => h) hss (fun _ h => r_move rfl) rfl ?_
          refine nrmD (vals := [(0, .agg #[.int .u64 ((h : Nat) : Int), kv, xv, (mV m)]), (1, nv), (2, .int .i64 ((l : Nat) : Int)), (3, .pointer (some ⟨b5, 0, none⟩)), (6, .nilIface), (7, .bool false), (8, .int .u64 (((N.hash n).getD 0 : Nat) : Int)), (15, .bool (isNilIf nv)), (23, .bool (decide ((((N.kind n) : Nat) : Int) = 3))), (35, .bool (decide ((((N.kind n) : Nat) : Int) = 1))), (47, .bool (!(decide ((N.hash n).getD 0 = h)))), (48, nv), (49, .int .u64 (((N.hash n).getD 0 : Nat) : Int))]) (.cons rfl (.cons rfl (.cons rfl (.cons rfl (.cons rfl (.cons rfl (.cons rfl (.cons rfl (.cons rfl (.cons rfl (.cons rfl (.cons rfl (.cons rfl .nil))))))))))))) fun g196 => ?_
          refine dt 2 rfl (by kernel_rfl) (fun _ _ _ h => h) hss (fun _ h => (r_fieldAddr (off := 0) rfl (by kernel_rfl) rfl)) rfl ?_
          refine dt 3 rfl (by kernel_rfl) (fun _ _ _ h => h) hss (fun _ h => r_load rfl (by kernel_rfl) rfl (h.box (.head _)) rfl) rfl ?_
          refine dt 4 rfl (by kernel_rfl) (fun _ _ _ h => h) hss (fun _ h => (r_fieldAddr (off := 1) rfl (by kernel_rfl) rfl)) rfl ?_
          refine dt 5 rfl (by kernel_rfl) (fun _ _ _ h => h) hss (fun _ h => r_loadN (m := 2) rfl (by kernel_rfl) rfl (h.box (.head _)) rfl rfl) rfl ?_
          refine dt 7 rfl (by kernel_rfl) (fun _ _ _ h => h) hss (fun _ h => (r_fieldAddr (off := 0) rfl (by kernel_rfl) rfl)) rfl ?_
          refine dt 8 rfl (by kernel_rfl) (fun _ _ _ h => h) hss (fun _ h => r_load rfl (by kernel_rfl) rfl (h.box (.head _)) rfl) rfl ?_
          refine dt 9 rfl (by kernel_rfl) (fun _ _ _ h => h) hss (fun _ h => r_move rfl) rfl ?_
          refine dro 6 (by kernel_rfl) rfl (ow_call (X := []) (L := (⟨b5, #[.int .u64 ((h : Nat) : Int), kv, xv, (mV m)], 180⟩ :: (mX m (v) (c) ++ []))) (lb := []) hs195 (leaf_ok (h := h) hh hk hx h1 h2) (by kernel_rfl) rfl rfl rfl rfl rfl ?_)
          rintro lv197 G11 X1 w199 hn198 le202 hs200 hid201
          obtain rfl : X1 = [] := List.map_eq_nil_iff.1 hid201
          replace hs200 : St w0 I (ids (mX m (v) (c))) G11 (⟨b5, #[.int .u64 ((h : Nat) : Int), kv, xv, (mV m)], 180⟩ :: (mX m (v) (c) ++ [])) w199 := hs200
          clear hs195 hid201
          replace hss := hs200.ss (I := I) le202 (SubL.sub (.cons (.head _) .nil))
          refine ⟨hss, ?_⟩
          refine dro 10 (by kernel_rfl) rfl (ow_call (X := []) (L := (⟨b5, #[.int .u64 ((h : Nat) : Int), kv, xv, (mV m)], 180⟩ :: (mX m (v) (c) ++ []))) (lb := []) hs200 (fork_ok (g := (N.hash n).getD 0) (h := h) hhe hh (b := N.leaf h k x) (by show n.size + 1 ≤ 1000000; omega) 13 (hn.up le202) hn198 (by omega) (N.chunks_differ hhe hh hl (by rw [hw.hash_mod hhs, hq]) (by assumption))) (by kernel_rfl) rfl rfl rfl rfl rfl ?_)
          rintro u203 G12 X1 w205 hn204 le208 hs206 hid207
          obtain rfl : X1 = [] := List.map_eq_nil_iff.1 hid207
          replace hs206 : St w0 I (ids (mX m (v) (c))) G12 (⟨b5, #[.int .u64 ((h : Nat) : Int), kv, xv, (mV m)], 180⟩ :: (mX m (v) (c) ++ [])) w205 := hs206
          clear hs200 hid207
          replace hss := hs206.ss (I := I) (le202.trans le208) (SubL.sub (.cons (.head _) .nil))
          refine ⟨hss, ?_⟩
          refine dt 11 rfl (by kernel_rfl) (fun _ _ _ h => h) hss (fun _ h => r_assign rfl) rfl ?_
          refine dt 12 rfl (by kernel_rfl) (fun _ _ _ h => h) hss (fun _ h => r_assign rfl) rfl ?_
          refine draw_done (by kernel_rfl) ?_
          refine hK194 _ _ ?_; (try clear hK194 K193)
          refine wp_ret ?_
          have hs209 : St w0 I (ids (mX m (v) (c))) G12 (mX m (v) (c) ++ ([⟨b5, #[.int .u64 ((h : Nat) : Int), kv, xv, (mV m)], 180⟩] : List Bx)) w205 := hs206.perm (List.Perm.trans ((List.Perm.refl _).cons _) (List.perm_middle (l₁ := (mX m (v) (c) : List Bx)) (a := (⟨b5, #[.int .u64 ((h : Nat) : Int), kv, xv, (mV m)], 180⟩ : Bx)) (l₂ := [])).symm); clear hs206
          exact leave (X' := mX m (v) (c)) (L := [⟨b5, #[.int .u64 ((h : Nat) : Int), kv, xv, (mV m)], 180⟩]) hs209 (mX_ids _ _ _ _ _) (res_many (vs := [u203, .bool true]) rfl (.tmp rfl rfl (.tmp rfl rfl .nil)) rfl) (by subst hbe; obtain ⟨q1, q2, q3⟩ := N.insBF (h := h) (k := k) (x := x) (l := l) (g := g0) (t := t) (by assumption); exact ⟨_, by rw [q1], by rw [q1]; exact hn204, mX_congr (by rw [q2]; rfl) (by rw [q3]; rfl)⟩)
        ·
          have h210 : (decide ((N.hash n).getD 0 = h)) = true := by simpa using h190
          have p211 := of_decide_eq_true h210
          refine wp_skip ?_
          refine hK179 _ _ ?_; (try clear hK179 K178)
          refine wp_seq_k fun K212 hK213 => ?_
          refine wp_seq_k fun K214 hK215 => ?_
          refine wl_begin ?_
          refine sq (r_move rfl) rfl ?_
          refine sqo rfl fun K216 hK217 => ow_call (X := []) (L := (⟨b5, #[.int .u64 ((h : Nat) : Int), kv, xv, (mV m)], 180⟩ :: (mX m (v) (c) ++ []))) (lb := []) hs186 (pair_of_ok hn hpsm) (by kernel_rfl) rfl rfl rfl rfl rfl ?_
          rintro _ G13 X1 w222 ⟨kv218, xv219, rfl, hk220, hx221⟩ le225 hs223 hid224
          obtain rfl : X1 = [] := List.map_eq_nil_iff.1 hid224
          replace hs223 : St w0 I (ids (mX m (v) (c))) G13 (⟨b5, #[.int .u64 ((h : Nat) : Int), kv, xv, (mV m)], 180⟩ :: (mX m (v) (c) ++ [])) w222 := hs223
          clear hs186 hid224
          refine hK217 _ _ ?_; clear hK217 K216
          refine sq (r_move rfl) rfl ?_
          refine sq (r_extract rfl rfl rfl) rfl ?_
          refine sq (r_extract rfl rfl rfl) rfl ?_
          refine sqo rfl fun K226 hK227 => ow_newbox (mk := fun b => .pointer (some ⟨b, 0, none⟩)) hs223 (r_alloc (cs := [.slice none 0 0, .slice none 0 0]) (by kernel_rfl)) rfl ?_
          rintro b228 w229 (hs230 : St w0 I (ids (mX m (v) (c))) G13 (⟨b228, #[.slice none 0 0, .slice none 0 0], 56⟩ :: (⟨b5, #[.int .u64 ((h : Nat) : Int), kv, xv, (mV m)], 180⟩ :: (mX m (v) (c) ++ []))) w229)
          clear hs223
          refine hK227 _ _ ?_; clear hK227 K226
          refine sqo rfl fun K231 hK232 => ow_store (vs := [kv218, xv219]) hs230 rfl rfl (by kernel_rfl) rfl rfl (.cons (hk220).one (.cons (hx221).one .nil)) rfl ?_
          rintro w233 (hs234 : St w0 I (ids (mX m (v) (c))) G13 (⟨b228, #[kv218, xv219], 56⟩ :: (⟨b5, #[.int .u64 ((h : Nat) : Int), kv, xv, (mV m)], 180⟩ :: (mX m (v) (c) ++ []))) w233)
          clear hs230
          refine hK232 _ _ ?_; clear hK232 K231
          refine sq (r_assign rfl) rfl ?_
          refine wl_nil ?_
          refine hK215 _ _ ?_; (try clear hK215 K214)
          refine wp_seq_k fun K235 hK236 => ?_
          refine nrm (vals := [(0, .agg #[.int .u64 ((h : Nat) : Int), kv, xv, (mV m)]), (1, nv), (2, .int .i64 ((l : Nat) : Int)), (3, .pointer (some ⟨b5, 0, none⟩)), (6, .nilIface), (7, .bool false), (8, .int .u64 (((N.hash n).getD 0 : Nat) : Int)), (10, .pointer (some ⟨b228, 0, none⟩)), (11, .bool (decide (N.kind n = 1))), (15, .bool (isNilIf nv)), (23, .bool (decide ((((N.kind n) : Nat) : Int) = 3))), (35, .bool (decide ((((N.kind n) : Nat) : Int) = 1))), (47, .bool (!(decide ((N.hash n).getD 0 = h))))]) (.cons rfl (.cons rfl (.cons rfl (.cons rfl (.cons rfl (.cons rfl (.cons rfl (.cons rfl (.cons rfl (.cons rfl (.cons rfl (.cons rfl (.cons rfl .nil))))))))))))) fun g237 => ?_
          refine wl_begin ?_
          refine sq (r_move rfl) rfl ?_
          refine wl_nil ?_
          refine hK236 _ _ ?_; (try clear hK236 K235)
          refine condS rfl rfl (fun h238 => ?_) (fun h238 => ?_)
          ·
            have p239 := of_decide_eq_true h238
            omega
          ·
            have p240 := of_decide_eq_false h238
            refine wp_skip ?_
            refine hK213 _ _ ?_; (try clear hK213 K212)
            refine wp_seq_k fun K241 hK242 => ?_
            refine wl_begin ?_
            refine sq (r_move rfl) rfl ?_
            refine sqo rfl fun K243 hK244 => ow_call (X := []) (L := (⟨b228, #[kv218, xv219], 56⟩ :: (⟨b5, #[.int .u64 ((h : Nat) : Int), kv, xv, (mV m)], 180⟩ :: (mX m (v) (c) ++ [])))) (lb := []) hs234 (tree_ok (hbe ▸ (hn.up le225))) (by kernel_rfl) rfl rfl rfl rfl rfl ?_
            rintro _ _ X1 w247 ⟨p245, rfl, rfl, ht246⟩ - hs248 hid249
            obtain rfl : X1 = [] := List.map_eq_nil_iff.1 hid249
            replace hs248 : St w0 I (ids (mX m (v) (c))) G13 (⟨b228, #[kv218, xv219], 56⟩ :: (⟨b5, #[.int .u64 ((h : Nat) : Int), kv, xv, (mV m)], 180⟩ :: (mX m (v) (c) ++ []))) w247 := hs248
            clear hs234 hid249
            refine hK244 _ _ ?_; clear hK244 K243
            refine sq (r_move rfl) rfl ?_
            refine sq (r_extract rfl rfl rfl) rfl ?_
            refine sq (r_extract rfl rfl rfl) rfl ?_
            refine sq (r_assign rfl) rfl ?_
            refine sq (r_assign rfl) rfl ?_
            refine wl_nil ?_
            refine hK242 _ _ ?_; (try clear hK242 K241)
            refine wp_seq_k fun K250 hK251 => ?_
            have htsz : t.size ≤ 999000 := by rw [hbe] at hsz; exact hsz
            refine wl_begin ?_
            refine sq (r_move rfl) rfl ?_
            refine sq (r_fieldAddr (off := 1) rfl (by kernel_rfl) rfl) rfl ?_
            refine sq (r_loadN (m := 2) rfl (by kernel_rfl) rfl (hs248.box (.tail _ (.head _))) rfl rfl) rfl ?_
            refine sq (r_fieldAddr (off := 3) rfl (by kernel_rfl) rfl) rfl ?_
            refine sq (r_load rfl (by kernel_rfl) rfl (hs248.box (.tail _ (.head _))) rfl) rfl ?_
            have hs256 : St w0 I (ids (mX m (v) (c))) G13 (mX m (v) (c) ++ ([⟨b228, #[kv218, xv219], 56⟩, ⟨b5, #[.int .u64 ((h : Nat) : Int), kv, xv, (mV m)], 180⟩] : List Bx)) w247 := hs248.perm (List.Perm.trans ((List.Perm.trans ((List.Perm.refl _).cons _) (List.perm_middle (l₁ := (mX m (v) (c) : List Bx)) (a := (⟨b5, #[.int .u64 ((h : Nat) : Int), kv, xv, (mV m)], 180⟩ : Bx)) (l₂ := [])).symm).cons _) (List.perm_middle (l₁ := (mX m (v) (c) : List Bx)) (a := (⟨b228, #[kv218, xv219], 56⟩ : Bx)) (l₂ := [⟨b5, #[.int .u64 ((h : Nat) : Int), kv, xv, (mV m)], 180⟩])).symm); clear hs248
            refine sqo rfl fun K252 hK253 => ow_call (X := mX m (v) (c)) (L := [⟨b228, #[kv218, xv219], 56⟩, ⟨b5, #[.int .u64 ((h : Nat) : Int), kv, xv, (mV m)], 180⟩]) (lb := []) hs256 (putU_ok ht246 (hk.up le225) (hx.up le225) (by first | (rw [T.size_fromL]; simp) | omega) hsm h1 h2) (by kernel_rfl) rfl rfl rfl rfl rfl ?_
            rintro _ G14 X1 w257 ⟨p254, rfl, ht255, rfl⟩ le260 hs258 hid259
            replace hs258 : St w0 I (ids (mX m (v) (c))) G14 (mX m (v + T.path t k) (c + T.path t k) ++ ([⟨b228, #[kv218, xv219], 56⟩, ⟨b5, #[.int .u64 ((h : Nat) : Int), kv, xv, (mV m)], 180⟩] : List Bx)) w257 := hs258
            clear hs256 hid259
            refine hK253 _ _ ?_; clear hK253 K252
            refine sq (r_assign rfl) rfl ?_
            refine wl_nil ?_
            refine hK251 _ _ ?_; (try clear hK251 K250)
            refine wp_seq_k fun K261 hK262 => ?_
            refine nrm (vals := [(0, .agg #[.int .u64 ((h : Nat) : Int), kv, xv, (mV m)]), (1, nv), (2, .int .i64 ((l : Nat) : Int)), (3, .pointer (some ⟨b5, 0, none⟩)), (6, .nilIface), (7, .bool false), (8, .int .u64 (((N.hash n).getD 0 : Nat) : Int)), (10, .pointer (some ⟨b228, 0, none⟩)), (11, .bool (decide (N.kind n = 1))), (12, .pointer p245), (14, .pointer p254), (15, .bool (isNilIf nv)), (23, .bool (decide ((((N.kind n) : Nat) : Int) = 3))), (35, .bool (decide ((((N.kind n) : Nat) : Int) = 1))), (47, .bool (!(decide ((N.hash n).getD 0 = h)))), (64, .bool (decide (N.kind n = 1)))]) (.cons rfl (.cons rfl (.cons rfl (.cons rfl (.cons rfl (.cons rfl (.cons rfl (.cons rfl (.cons rfl (.cons rfl (.cons rfl (.cons rfl (.cons rfl (.cons rfl (.cons rfl (.cons rfl .nil)))))))))))))))) fun g263 => ?_
            refine wl_begin ?_
            refine sq (r_fieldAddr (off := 0) rfl (by kernel_rfl) rfl) rfl ?_
            refine sq (r_load rfl (by kernel_rfl) rfl (hs258.box (List.mem_append_right _ (.tail _ (.head _)))) rfl) rfl ?_
            refine sq (r_move rfl) rfl ?_
            refine sqo rfl fun K264 hK265 => ow_call (X := []) (L := (mX m (v + T.path t k) (c + T.path t k) ++ ([⟨b228, #[kv218, xv219], 56⟩, ⟨b5, #[.int .u64 ((h : Nat) : Int), kv, xv, (mV m)], 180⟩] : List Bx))) (lb := []) hs258 (bucket_ok (h := h) hh ht255 (T.Sm.put hsm h1 h2)) (by kernel_rfl) rfl rfl rfl rfl rfl ?_
            rintro lv266 G15 X1 w268 hn267 le271 hs269 hid270
            obtain rfl : X1 = [] := List.map_eq_nil_iff.1 hid270
            replace hs269 : St w0 I (ids (mX m (v) (c))) G15 (mX m (v + T.path t k) (c + T.path t k) ++ ([⟨b228, #[kv218, xv219], 56⟩, ⟨b5, #[.int .u64 ((h : Nat) : Int), kv, xv, (mV m)], 180⟩] : List Bx)) w268 := hs269
            clear hs258 hid270
            refine hK265 _ _ ?_; clear hK265 K264
            refine sq (r_move rfl) rfl ?_
            refine sqo rfl fun K272 hK273 => ow_call (X := []) (L := (mX m (v + T.path t k) (c + T.path t k) ++ ([⟨b228, #[kv218, xv219], 56⟩, ⟨b5, #[.int .u64 ((h : Nat) : Int), kv, xv, (mV m)], 180⟩] : List Bx))) (lb := []) hs269 (tsize_ok (ht255.up le271)) (by kernel_rfl) rfl rfl rfl rfl rfl ?_
            rintro _ _ X1 w274 ⟨rfl, rfl⟩ - hs275 hid276
            obtain rfl : X1 = [] := List.map_eq_nil_iff.1 hid276
            replace hs275 : St w0 I (ids (mX m (v) (c))) G15 (mX m (v + T.path t k) (c + T.path t k) ++ ([⟨b228, #[kv218, xv219], 56⟩, ⟨b5, #[.int .u64 ((h : Nat) : Int), kv, xv, (mV m)], 180⟩] : List Bx)) w274 := hs275
            clear hs269 hid276
            refine hK273 _ _ ?_; clear hK273 K272
            refine sq (r_move rfl) rfl ?_
            refine sqo rfl fun K277 hK278 => ow_call (X := []) (L := (mX m (v + T.path t k) (c + T.path t k) ++ ([⟨b228, #[kv218, xv219], 56⟩, ⟨b5, #[.int .u64 ((h : Nat) : Int), kv, xv, (mV m)], 180⟩] : List Bx))) (lb := []) hs275 (tsize_ok (ht246.up (le260.trans le271))) (by kernel_rfl) rfl rfl rfl rfl rfl ?_
            rintro _ _ X1 w279 ⟨rfl, rfl⟩ - hs280 hid281
            obtain rfl : X1 = [] := List.map_eq_nil_iff.1 hid281
            replace hs280 : St w0 I (ids (mX m (v) (c))) G15 (mX m (v + T.path t k) (c + T.path t k) ++ ([⟨b228, #[kv218, xv219], 56⟩, ⟨b5, #[.int .u64 ((h : Nat) : Int), kv, xv, (mV m)], 180⟩] : List Bx)) w279 := hs280
            clear hs275 hid281
            refine hK278 _ _ ?_; clear hK278 K277
            refine sq (r_gti rfl rfl rfl rfl) rfl ?_
            refine sq (r_assign rfl) rfl ?_
            refine sq (r_assign rfl) rfl ?_
            refine wl_nil ?_
            refine hK262 _ _ ?_; (try clear hK262 K261)
            refine wp_ret ?_
            exact leave (X' := mX m (v + T.path t k) (c + T.path t k)) (L := [⟨b228, #[kv218, xv219], 56⟩, ⟨b5, #[.int .u64 ((h : Nat) : Int), kv, xv, (mV m)], 180⟩]) hs280 (mX_ids _ _ _ _ _) (res_many (vs := [lv266, .bool (decide ((((t).size : Nat) : Int) < ((((T.put t k x)).size : Nat) : Int)))]) rfl (.tmp rfl rfl (.tmp rfl rfl .nil)) rfl) (by subst hbe; obtain ⟨q1, q2, q3⟩ := N.insBS (h := h) (k := k) (x := x) (t := t) (l := l) (g := g0) (by assumption); exact ⟨_, by rw [q1, insdec], by rw [q1]; exact hn267, mX_congr (by rw [q2]) (by rw [q3])⟩)
theorem N.kid_size {m : Nat} {kids : List N} (h : kids.length = (bitsL m).length) {c : Nat} (hc : c < 32) : (N.kid (.branch m kids) (c : Int)).size ≤ (N.branch m kids).size := by
  have := N.withK_sizes (k := .none) hc h
  have e : (N.none).size = 0 := rfl
  omega
theorem into_ok {m : Option Nat} {h : Nat} {k x : Bs} (hh : h < 2 ^ 64) (h1 : k.length ≤ 1000000) (h2 : x.length ≤ 1000000) : ∀ (s : Nat) {I : GH} {v c : Nat} {n : N} {nv kv xv : Value} {l q : Nat}, SizeOf.sizeOf n < s → TabG I → N.WF l q n → n.size ≤ 999000 → NodeAt I nv n → BytesAt I kv k → BytesAt I xv x → h % 32 ^ l = q → l ≤ 13 →
    Fn Tryd.prog 104 #[.agg #[.int .u64 ((h : Nat) : Int), kv, xv, mV m], nv, .int .i64 ((l : Nat) : Int)] I (mX m v c) (InsR m h k x n l v c) := by
  intro s
  induction s with
  | zero => intro I v c n nv kv xv l q hs; omega
  | succ s ih =>
    intro I v c n nv kv xv l q hs ht hw hsz hn hk hx hq hl
    refine into1_ok ht hh h1 h2 hw hsz hn hk hx hq hl ?_
    intro bm bk hbe J u kv xv v c hle hu hk hx
    subst hbe
    have hlt := hw.level
    exact ih (Nat.lt_of_lt_of_le (N.kid_lt bm bk _) (Nat.le_of_lt_succ hs)) (ht.up hle) (hw.kid (chunkN_lt h l)) (Nat.le_trans (N.kid_size hw.fit (chunkN_lt h l)) hsz) hu hk hx (by rw [N.chunk_step hlt hq]) (by omega)
set_option maxRecDepth 100000 in
theorem graft_put_ok {I : GH} {m : Option Nat} {v c : Nat} {n : N} {nv kv xv : Value} {h : Nat} {k x : Bs} (ht : TabG I) (hh : h < 2 ^ 64) (h1 : k.length ≤ 1000000) (h2 : x.length ≤ 1000000) (hw : N.WF 0 0 n) (hsz : n.size ≤ 999000) (hn : NodeAt I nv n) (hk : BytesAt I kv k) (hx : BytesAt I xv x) :
    Fn Tryd.prog 75 #[nv, .int .u64 ((h : Nat) : Int), .agg #[kv, xv], mV m] I (mX m v c) (InsR m h k x n 0 v c) := by
  refine enter (args := [nv, .int .u64 ((h : Nat) : Int), .agg #[kv, xv], (mV m)]) Tryd.func75 rfl rfl fun w0 hs0 => ?_
  replace hs0 : St w0 I (ids (mX m (v) (c))) I (mX m (v) (c) ++ []) w0 := by simpa using hs0
  refine wp_seq_k fun K1 hK2 => ?_
  refine wl_begin ?_
  refine sqo rfl fun K3 hK4 => ow_newbox (mk := fun b => .pointer (some ⟨b, 0, none⟩)) hs0 (r_box rfl rfl) rfl ?_
  rintro b5 w6 (hs7 : St w0 I (ids (mX m (v) (c))) I (⟨b5, #[kv, xv], 56⟩ :: (mX m (v) (c) ++ [])) w6)
  clear hs0
  refine hK4 _ _ ?_; clear hK4 K3
  refine sq (r_assign rfl) rfl ?_
  refine sq (r_assign rfl) rfl ?_
  refine wl_nil ?_
  refine hK2 _ _ ?_; (try clear hK2 K1)
  refine wp_seq_k fun K8 hK9 => ?_
  refine wl_begin ?_
  refine sq (r_move rfl) rfl ?_
  refine sq (r_loadN (m := 2) rfl (by kernel_rfl) rfl (hs7.box (.head _)) rfl rfl) rfl ?_
  refine sq (r_move rfl) rfl ?_
  refine sq (r_build (.cons rfl rfl (.cons rfl rfl (.cons rfl (One.cells trivial) .nil))) (cells := #[.int .u64 ((h : Nat) : Int), kv, xv, (mV m)]) (by kernel_rfl)) rfl ?_
  refine sq (r_move rfl) rfl ?_
  have hs14 : St w0 I (ids (mX m (v) (c))) I (mX m (v) (c) ++ ([⟨b5, #[kv, xv], 56⟩] : List Bx)) w6 := hs7.perm (List.Perm.trans ((List.Perm.refl _).cons _) (List.perm_middle (l₁ := (mX m (v) (c) : List Bx)) (a := (⟨b5, #[kv, xv], 56⟩ : Bx)) (l₂ := [])).symm); clear hs7
  refine sqo rfl fun K10 hK11 => ow_call (X := mX m (v) (c)) (L := [⟨b5, #[kv, xv], 56⟩]) (lb := []) hs14 (into_ok (l := 0) (q := 0) hh h1 h2 _ (Nat.lt_succ_self _) ht hw hsz hn hk hx (Nat.mod_one h) (by omega)) (by kernel_rfl) rfl rfl rfl rfl rfl ?_
  rintro _ G1 X1 w15 ⟨u12, rfl, hn13, rfl⟩ le18 hs16 hid17
  replace hs16 : St w0 I (ids (mX m (v) (c))) G1 (mX m (v + N.insV h k n 0) (c + N.insC h k n 0) ++ ([⟨b5, #[kv, xv], 56⟩] : List Bx)) w15 := hs16
  clear hs14 hid17
  refine hK11 _ _ ?_; clear hK11 K10
  refine sq (r_extract rfl rfl rfl) rfl ?_
  refine sq (r_extract rfl rfl rfl) rfl ?_
  refine sq (r_assign rfl) rfl ?_
  refine sq (r_assign rfl) rfl ?_
  refine wl_nil ?_
  refine hK9 _ _ ?_; (try clear hK9 K8)
  refine wp_ret ?_
  exact leave (X' := mX m (v + N.insV h k n 0) (c + N.insC h k n 0)) (L := [⟨b5, #[kv, xv], 56⟩]) hs16 (mX_ids _ _ _ _ _) (res_many (vs := [u12, .bool ((N.ins h k x n 0).2)]) rfl (.tmp rfl rfl (.tmp rfl rfl .nil)) rfl) ⟨_, rfl, hn13, rfl⟩
end Go.Proofs.YtlnlodfnplkckaaDoor
