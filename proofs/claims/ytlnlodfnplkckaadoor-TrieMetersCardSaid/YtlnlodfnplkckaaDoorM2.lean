/- Texts of the walk, laid together. Each theorem's conditions stand in it. -/
import Derived.Test.YtlnlodfnplkckaaDoorM1
/- The contracts of the trees that are made from lists, and of the turns. -/
namespace Go.Proofs.YtlnlodfnplkckaaDoor
open T (Sm)
set_option linter.unusedVariables false
set_option linter.unusedSimpArgs false
set_option maxRecDepth 100000 in
theorem from_ok {I : GH} {v : Value} {l : List (Bs × Bs)} (hl : PairsAt I v l) (hsm : T.Sm l) (hsz : l.length ≤ 1000000) : Fn Tryd.prog 114 #[v] I [] (fun v J _ => ∃ p, v = .pointer p ∧ TreeAt J p (T.fromL l)) := by
  have key : ∀ (n : Nat) {I : GH} {v : Value} {l : List (Bs × Bs)}, PairsAt I v l → T.Sm l → l.length = n → n ≤ 1000000 → Fn Tryd.prog 114 #[v] I [] (fun v J _ => ∃ p, v = .pointer p ∧ TreeAt J p (T.fromL l)) := by
    clear hl hsm hsz
    intro n
    induction n using Nat.strongRecOn with
    | _ n ih =>
    intro I v l hl hsm hn hsz
    obtain ⟨ad, cap, rfl⟩ := hl.slc
    have hcap : l.length ≤ cap := by
      obtain ⟨_, ⟨_, _, e, h2, _⟩, _⟩ := hl
      cases e; exact h2
    refine enter (args := [.slice ad l.length cap]) Tryd.func114 rfl rfl fun w0 hs0 => ?_
    refine wp_seq_k fun K1 hK2 => ?_
    refine wl_begin ?_
    refine sq (r_assign rfl) rfl ?_
    refine wl_nil ?_
    refine hK2 _ _ ?_; clear hK2 K1
    refine wp_seq_k fun K3 hK4 => ?_
    refine wp_seq_k fun K5 hK6 => ?_
    refine wl_begin ?_
    refine sq (r_move rfl) rfl ?_
    refine sq (r_lens rfl (by kernel_rfl) rfl) rfl ?_
    refine sq (r_eqi rfl rfl rfl rfl) rfl ?_
    refine wl_nil ?_
    refine hK6 _ _ ?_; clear hK6 K5
    refine condS rfl rfl (fun h7 => ?_) (fun h7 => ?_)
    ·
      have p8 := of_decide_eq_true h7
      refine wp_seq_k fun K9 hK10 => ?_
      refine wl_begin ?_
      refine sq (r_assign rfl) rfl ?_
      refine wl_nil ?_
      refine hK10 _ _ ?_; clear hK10 K9
      refine wp_ret ?_
      exact leave (X' := []) (L := []) hs0 rfl (res_one (v := .pointer none) rfl (.tmp rfl rfl .nil)) ⟨none, rfl, by rw [show l = [] from List.length_eq_zero_iff.1 (by omega), T.fromL]; rfl⟩
    ·
      have p11 := of_decide_eq_false h7
      have hlt : l.length / 2 < l.length := by omega
      obtain ⟨b, off, cs, T0, fz, kv, xv, rfl, hb, hcs, hk, hx⟩ := PairsAt.at hl hlt
      have hsm1 := hsm l[l.length / 2] (List.getElem_mem hlt)
      refine wp_skip ?_
      refine hK4 _ _ ?_; clear hK4 K3
      refine wp_seq_k fun K12 hK13 => ?_
      refine wl_begin ?_
      refine sq (r_move rfl) rfl ?_
      refine sq (r_lens rfl (by kernel_rfl) rfl) rfl ?_
      refine sq (r_quoN (a := l.length) (b := 2) rfl rfl rfl rfl ⟨by omega, by omega⟩) rfl ?_
      refine sq (r_assign rfl) rfl ?_
      refine wl_nil ?_
      refine hK13 _ _ ?_; clear hK13 K12
      refine wp_seq_k fun K14 hK15 => ?_
      refine draw_begin (S := SS I []) (by kernel_rfl) ?_
      have hs16 := hs0.drew; clear hs0
      have hss := hs16.ss (I := I) (GH.le.refl _) (fun _ h => h)
      refine dt 0 rfl (by kernel_rfl) (fun _ _ _ h => h) hss (fun _ h => r_move rfl) rfl ?_
      refine dt 1 rfl (by kernel_rfl) (fun _ _ _ h => h) hss (fun _ h => r_move rfl) rfl ?_
      refine dt 2 rfl (by kernel_rfl) (fun _ _ _ h => h) hss (fun _ h => (r_sliceH (e := 56) (sz := 2) rfl rfl (by kernel_rfl) rfl rfl (by omega))) rfl ?_
      refine dt 4 rfl (by kernel_rfl) (fun _ _ _ h => h) hss (fun _ h => r_move rfl) rfl ?_
      refine dt 5 rfl (by kernel_rfl) (fun _ _ _ h => h) hss (fun _ h => r_move rfl) rfl ?_
      refine nrmD (vals := [(0, .slice (some ⟨b, off, none⟩) l.length cap), (2, .pointer none), (3, .int .i64 (((l.length / 2) : Nat) : Int)), (6, .bool (decide (((l.length : Nat) : Int) = 0))), (12, (sliced (some ⟨b, off, none⟩) 0 ((l.length / 2)) cap 2)), (14, .slice (some ⟨b, off, none⟩) l.length cap), (15, .int .i64 (((l.length / 2) : Nat) : Int))]) (.cons rfl (.cons rfl (.cons rfl (.cons rfl (.cons rfl (.cons rfl (.cons rfl .nil))))))) fun g17 => ?_
      refine dt 6 rfl (by kernel_rfl) (fun _ _ _ h => h) hss (fun _ h => (r_index (e := 56) (sz := 2) (i := (l.length / 2)) rfl rfl (by kernel_rfl) rfl rfl (by omega))) rfl ?_
      refine dt 7 rfl (by kernel_rfl) (fun _ _ _ h => h) hss (fun _ h => (r_loadN (m := 2) rfl (by kernel_rfl) rfl (h.imm hb) hcs rfl)) rfl ?_
      refine dt 9 rfl (by kernel_rfl) (fun _ _ _ h => h) hss (fun _ h => r_move rfl) rfl ?_
      refine dt 10 rfl (by kernel_rfl) (fun _ _ _ h => h) hss (fun _ h => r_move rfl) rfl ?_
      refine dt 11 rfl (by kernel_rfl) (fun _ _ _ h => h) hss (fun _ h => (r_addi rfl rfl rfl rfl (by omega))) rfl ?_
      refine dt 12 rfl (by kernel_rfl) (fun _ _ _ h => h) hss (fun _ h => (r_sliceL (e := 56) (sz := 2) (l := ((l.length / 2) + 1)) rfl rfl (by kernel_rfl) rfl rfl (by omega))) rfl ?_
      refine dro 3 (by kernel_rfl) rfl (ow_call (X := []) (L := []) (lb := []) hs16 (ih _ (by simp only [List.length_take, List.length_drop]; omega) (PairsAt.front (h := (l.length / 2)) hl (by omega)) (T.Sm.take hsm _) rfl (by simp only [List.length_take, List.length_drop]; omega)) (by kernel_rfl) rfl rfl rfl rfl rfl ?_)
      rintro _ G1 X1 w20 ⟨p18, rfl, ht19⟩ le23 hs21 hid22
      obtain rfl : X1 = [] := List.map_eq_nil_iff.1 hid22
      replace hs21 : St w0 I (ids []) G1 [] w20 := hs21
      clear hs16 hid22
      replace hss := hs21.ss (I := I) le23 (fun _ h => h)
      refine ⟨hss, ?_⟩
      refine dro 8 (by kernel_rfl) rfl (ow_call (X := []) (L := []) (lb := []) hs21 (own_ok (hk.up le23) (hx.up le23) hsm1.1 hsm1.2) (by kernel_rfl) rfl rfl rfl rfl rfl ?_)
      rintro _ G2 X1 w28 ⟨kv24, xv25, rfl, hk26, hx27⟩ le31 hs29 hid30
      obtain rfl : X1 = [] := List.map_eq_nil_iff.1 hid30
      replace hs29 : St w0 I (ids []) G2 [] w28 := hs29
      clear hs21 hid30
      replace hss := hs29.ss (I := I) (le23.trans le31) (fun _ h => h)
      refine ⟨hss, ?_⟩
      refine dro 13 (by kernel_rfl) rfl (ow_call (X := []) (L := []) (lb := []) hs29 (ih _ (by simp only [List.length_take, List.length_drop]; omega) ((PairsAt.back (h := ((l.length / 2) + 1)) hl (by omega)).up (le23.trans le31)) (T.Sm.drop hsm _) rfl (by simp only [List.length_take, List.length_drop]; omega)) (by kernel_rfl) rfl rfl rfl rfl rfl ?_)
      rintro _ G3 X1 w34 ⟨p32, rfl, ht33⟩ le37 hs35 hid36
      obtain rfl : X1 = [] := List.map_eq_nil_iff.1 hid36
      replace hs35 : St w0 I (ids []) G3 [] w34 := hs35
      clear hs29 hid36
      replace hss := hs35.ss (I := I) ((le23.trans le31).trans le37) (fun _ h => h)
      refine ⟨hss, ?_⟩
      refine dro 14 (by kernel_rfl) rfl (ow_call (X := []) (L := []) (lb := []) hs35 (node_ok (ht19.up (le31.trans le37)) ht33 (hk26.up le37) (hx27.up le37) (by simp only [T.size_fromL, List.length_take, List.length_drop]; omega)) (by kernel_rfl) rfl rfl rfl rfl rfl ?_)
      rintro _ G4 X1 w40 ⟨p38, rfl, ht39⟩ le43 hs41 hid42
      obtain rfl : X1 = [] := List.map_eq_nil_iff.1 hid42
      replace hs41 : St w0 I (ids []) G4 [] w40 := hs41
      clear hs35 hid42
      replace hss := hs41.ss (I := I) (((le23.trans le31).trans le37).trans le43) (fun _ h => h)
      refine ⟨hss, ?_⟩
      refine dt 15 rfl (by kernel_rfl) (fun _ _ _ h => h) hss (fun _ h => r_assign rfl) rfl ?_
      refine draw_done (by kernel_rfl) ?_
      refine hK15 _ _ ?_; clear hK15 K14
      refine wp_ret ?_
      exact leave (X' := []) (L := []) hs41 rfl (res_one (v := .pointer p38) rfl (.tmp rfl rfl .nil)) ⟨_, rfl, by rw [T.fromL_ne (by intro e; subst e; simp at hlt)]; exact ht39⟩
  exact key _ hl hsm rfl hsz
set_option maxRecDepth 100000 in
theorem turnL_ok {I : GH} {lp rp : Option Addr} {l r : T} {kv xv : Value} {k x : Bs} (hl : TreeAt I lp l) (hr : TreeAt I rp r) (hk : BytesAt I kv k) (hx : BytesAt I xv x) (hsz : l.size + 1 + r.size ≤ 1000000) (hne : r ≠ T.nil) :
    Fn Tryd.prog 161 #[.pointer lp, .agg #[kv, xv], .pointer rp] I [] (fun v J _ => ∃ p, v = .pointer p ∧ (p.isNone = true → T.turnL l k x r = none) ∧ (p.isNone = false → ∃ t, T.turnL l k x r = some t ∧ TreeAt J p t)) := by
  cases r with
  | nil => cases hne rfl
  | node i k2 x2 o =>
  obtain ⟨b, kv2, xv2, p1, p2, rfl, hb, hk2, hx2, h1, h2⟩ := hr
  simp only [T.size] at hsz
  generalize hs2 : i.size + 1 + o.size = sz2 at hb
  cases i with
  | nil =>
    obtain rfl : p1 = none := h1
    refine enter (args := [.pointer lp, .agg #[kv, xv], .pointer (some ⟨b, 0, none⟩)]) Tryd.func161 rfl rfl fun w0 hs0 => ?_
    refine wp_seq_k fun K1 hK2 => ?_
    refine wl_begin ?_
    refine sqo rfl fun K3 hK4 => ow_newbox (mk := fun b => .pointer (some ⟨b, 0, none⟩)) hs0 (r_box rfl rfl) rfl ?_
    rintro b5 w6 (hs7 : St w0 I (ids []) I [⟨b5, #[kv, xv], 56⟩] w6)
    clear hs0
    refine hK4 _ _ ?_; clear hK4 K3
    refine sq (r_assign rfl) rfl ?_
    refine wl_nil ?_
    refine hK2 _ _ ?_; clear hK2 K1
    refine wp_seq_k fun K8 hK9 => ?_
    refine draw_begin (S := SS I [⟨b5, #[kv, xv], 56⟩]) (by kernel_rfl) ?_
    have hs10 := hs7.drew; clear hs7
    have hss := hs10.ss (I := I) (GH.le.refl _) (fun _ h => h)
    refine dt 0 rfl (by kernel_rfl) (fun _ _ _ h => h) hss (fun _ h => r_move rfl) rfl ?_
    refine dt 1 rfl (by kernel_rfl) (fun _ _ _ h => h) hss (fun _ h => r_nilCheck rfl rfl) rfl ?_
    refine dt 2 rfl (by kernel_rfl) (fun _ _ _ h => h) hss (fun _ h => (r_fieldAddr (off := 2) rfl (by kernel_rfl) rfl)) rfl ?_
    refine dt 3 rfl (by kernel_rfl) (fun _ _ _ h => h) hss (fun _ h => r_load rfl (by kernel_rfl) rfl (h.imm hb) rfl) rfl ?_
    refine dt 4 rfl (by kernel_rfl) (fun _ _ _ h => h) hss (fun _ h => r_move rfl) rfl ?_
    refine dt 5 rfl (by kernel_rfl) (fun _ _ _ h => h) hss (fun _ h => r_nilCheck rfl rfl) rfl ?_
    refine dt 6 rfl (by kernel_rfl) (fun _ _ _ h => h) hss (fun _ h => (r_fieldAddr (off := 3) rfl (by kernel_rfl) rfl)) rfl ?_
    refine dt 7 rfl (by kernel_rfl) (fun _ _ _ h => h) hss (fun _ h => r_load rfl (by kernel_rfl) rfl (h.imm hb) rfl) rfl ?_
    refine dt 8 rfl (by kernel_rfl) (fun _ _ _ h => h) hss (fun _ h => r_assign rfl) rfl ?_
    refine dt 9 rfl (by kernel_rfl) (fun _ _ _ h => h) hss (fun _ h => r_assign rfl) rfl ?_
    refine draw_done (by kernel_rfl) ?_
    refine hK9 _ _ ?_; clear hK9 K8
    refine wp_seq_k fun K11 hK12 => ?_
    refine wp_seq_k fun K13 hK14 => ?_
    refine wl_begin ?_
    refine sq (r_move rfl) rfl ?_
    refine sqo rfl fun K15 hK16 => ow_call (X := []) (L := [⟨b5, #[kv, xv], 56⟩]) (lb := []) hs10 (tsize_ok hl) (by kernel_rfl) rfl rfl rfl rfl rfl ?_
    rintro _ _ X1 w17 ⟨rfl, rfl⟩ - hs18 hid19
    obtain rfl : X1 = [] := List.map_eq_nil_iff.1 hid19
    replace hs18 : St w0 I (ids []) I [⟨b5, #[kv, xv], 56⟩] w17 := hs18
    clear hs10 hid19
    refine hK16 _ _ ?_; clear hK16 K15
    refine sq (r_move rfl) rfl ?_
    refine sqo rfl fun K20 hK21 => ow_call (X := []) (L := [⟨b5, #[kv, xv], 56⟩]) (lb := []) hs18 (tsize_nil _) (by kernel_rfl) rfl rfl rfl rfl rfl ?_
    rintro _ _ X1 w22 ⟨rfl, rfl⟩ - hs23 hid24
    obtain rfl : X1 = [] := List.map_eq_nil_iff.1 hid24
    replace hs23 : St w0 I (ids []) I [⟨b5, #[kv, xv], 56⟩] w22 := hs23
    clear hs18 hid24
    refine hK21 _ _ ?_; clear hK21 K20
    refine sq (r_move rfl) rfl ?_
    refine sqo rfl fun K25 hK26 => ow_call (X := []) (L := [⟨b5, #[kv, xv], 56⟩]) (lb := []) hs23 (tsize_ok h2) (by kernel_rfl) rfl rfl rfl rfl rfl ?_
    rintro _ _ X1 w27 ⟨rfl, rfl⟩ - hs28 hid29
    obtain rfl : X1 = [] := List.map_eq_nil_iff.1 hid29
    replace hs28 : St w0 I (ids []) I [⟨b5, #[kv, xv], 56⟩] w27 := hs28
    clear hs23 hid29
    refine hK26 _ _ ?_; clear hK26 K25
    refine sqo rfl fun K30 hK31 => ow_call (X := []) (L := [⟨b5, #[kv, xv], 56⟩]) (lb := []) hs28 (wSingle_ok (l := (l).size) (i := 0) (o := (o).size) rfl rfl rfl (by (try simp only [T.size] at *); omega)) (by kernel_rfl) rfl rfl rfl rfl rfl ?_
    rintro _ _ X1 w32 ⟨rfl, rfl⟩ - hs33 hid34
    obtain rfl : X1 = [] := List.map_eq_nil_iff.1 hid34
    replace hs33 : St w0 I (ids []) I [⟨b5, #[kv, xv], 56⟩] w32 := hs33
    clear hs28 hid34
    refine hK31 _ _ ?_; clear hK31 K30
    refine wl_nil ?_
    refine hK14 _ _ ?_; clear hK14 K13
    refine condS rfl rfl (fun h35 => ?_) (fun h35 => ?_)
    ·
      refine wp_seq_k fun K36 hK37 => ?_
      refine nrm (vals := [(0, .pointer lp), (1, .agg #[kv, xv]), (2, .pointer (some ⟨b, 0, none⟩)), (4, .pointer (some ⟨b5, 0, none⟩)), (6, .pointer none), (7, .pointer none), (8, .pointer p2), (23, .bool (singleB ((l).size) (0) ((o).size)))]) (.cons rfl (.cons rfl (.cons rfl (.cons rfl (.cons rfl (.cons rfl (.cons rfl (.cons rfl .nil)))))))) fun g38 => ?_
      refine draw_begin (S := SS I [⟨b5, #[kv, xv], 56⟩]) (by kernel_rfl) ?_
      have hs39 := hs33.drew; clear hs33
      have hss := hs39.ss (I := I) (GH.le.refl _) (fun _ h => h)
      refine dt 0 rfl (by kernel_rfl) (fun _ _ _ h => h) hss (fun _ h => r_move rfl) rfl ?_
      refine dt 1 rfl (by kernel_rfl) (fun _ _ _ h => h) hss (fun _ h => r_loadN (m := 2) rfl (by kernel_rfl) rfl (h.box (.head _)) rfl rfl) rfl ?_
      refine dt 2 rfl (by kernel_rfl) (fun _ _ _ h => h) hss (fun _ h => r_move rfl) rfl ?_
      refine dt 4 rfl (by kernel_rfl) (fun _ _ _ h => h) hss (fun _ h => r_move rfl) rfl ?_
      refine dt 5 rfl (by kernel_rfl) (fun _ _ _ h => h) hss (fun _ h => r_nilCheck rfl rfl) rfl ?_
      refine dt 6 rfl (by kernel_rfl) (fun _ _ _ h => h) hss (fun _ h => (r_fieldAddr (off := 0) rfl (by kernel_rfl) rfl)) rfl ?_
      refine dt 7 rfl (by kernel_rfl) (fun _ _ _ h => h) hss (fun _ h => r_loadN (m := 2) rfl (by kernel_rfl) rfl (h.imm hb) rfl rfl) rfl ?_
      refine dt 8 rfl (by kernel_rfl) (fun _ _ _ h => h) hss (fun _ h => r_move rfl) rfl ?_
      refine dro 3 (by kernel_rfl) rfl (ow_call (X := []) (L := [⟨b5, #[kv, xv], 56⟩]) (lb := []) hs39 (node_ok hl (TreeAt.nil _) hk hx (by simp only [T.size] at *; omega)) (by kernel_rfl) rfl rfl rfl rfl rfl ?_)
      rintro _ G1 X1 w42 ⟨p40, rfl, ht41⟩ le45 hs43 hid44
      obtain rfl : X1 = [] := List.map_eq_nil_iff.1 hid44
      replace hs43 : St w0 I (ids []) G1 [⟨b5, #[kv, xv], 56⟩] w42 := hs43
      clear hs39 hid44
      replace hss := hs43.ss (I := I) le45 (fun _ h => h)
      refine ⟨hss, ?_⟩
      refine dro 9 (by kernel_rfl) rfl (ow_call (X := []) (L := [⟨b5, #[kv, xv], 56⟩]) (lb := []) hs43 (node_ok ht41 (h2.up le45) (hk2.up le45) (hx2.up le45) (by simp only [T.size] at *; omega)) (by kernel_rfl) rfl rfl rfl rfl rfl ?_)
      rintro _ G2 X1 w48 ⟨p46, rfl, ht47⟩ le51 hs49 hid50
      obtain rfl : X1 = [] := List.map_eq_nil_iff.1 hid50
      replace hs49 : St w0 I (ids []) G2 [⟨b5, #[kv, xv], 56⟩] w48 := hs49
      clear hs43 hid50
      replace hss := hs49.ss (I := I) (le45.trans le51) (fun _ h => h)
      refine ⟨hss, ?_⟩
      refine dt 10 rfl (by kernel_rfl) (fun _ _ _ h => h) hss (fun _ h => r_assign rfl) rfl ?_
      refine draw_done (by kernel_rfl) ?_
      refine hK37 _ _ ?_; clear hK37 K36
      refine wp_ret ?_
      exact leave (X' := []) (L := [⟨b5, #[kv, xv], 56⟩]) hs49 rfl (res_one (v := .pointer p46) rfl (.tmp rfl rfl .nil)) ⟨_, rfl, fun h => (by obtain ⟨_, _, _, _, _, rfl, _⟩ := ht47; cases h), fun _ => ⟨_, (by simp [T.turnL, T.size, h35]), ht47⟩⟩
    ·
      refine wp_skip ?_
      refine hK12 _ _ ?_; clear hK12 K11
      refine wp_seq_k fun K52 hK53 => ?_
      refine wp_seq_k fun K54 hK55 => ?_
      refine nrm (vals := [(0, .pointer lp), (1, .agg #[kv, xv]), (2, .pointer (some ⟨b, 0, none⟩)), (4, .pointer (some ⟨b5, 0, none⟩)), (6, .pointer none), (7, .pointer none), (8, .pointer p2), (23, .bool (singleB ((l).size) (0) ((o).size)))]) (.cons rfl (.cons rfl (.cons rfl (.cons rfl (.cons rfl (.cons rfl (.cons rfl (.cons rfl .nil)))))))) fun g56 => ?_
      refine draw_begin (S := SS I [⟨b5, #[kv, xv], 56⟩]) (by kernel_rfl) ?_
      have hs57 := hs33.drew; clear hs33
      have hss := hs57.ss (I := I) (GH.le.refl _) (fun _ h => h)
      refine dt 0 rfl (by kernel_rfl) (fun _ _ _ h => h) hss (fun _ h => r_move rfl) rfl ?_
      refine dt 1 rfl (by kernel_rfl) (fun _ _ _ h => h) hss (fun _ h => (r_eqp rfl rfl (by kernel_rfl) rfl rfl)) rfl ?_
      refine dt 2 rfl (by kernel_rfl) (fun _ _ _ h => h) hss (fun _ h => r_move rfl) rfl ?_
      refine dtN 3 rfl (wantedF rfl rfl rfl rfl) (by kernel_rfl) (fun _ _ _ h => h) hss rfl ?_
      refine dtN 4 rfl (wantedF rfl rfl rfl rfl) (by kernel_rfl) (fun _ _ _ h => h) hss rfl ?_
      refine dtN 5 rfl (wantedF rfl rfl rfl rfl) (by kernel_rfl) (fun _ _ _ h => h) hss rfl ?_
      refine dtN 6 rfl (wantedF rfl rfl rfl rfl) (by kernel_rfl) (fun _ _ _ h => h) hss rfl ?_
      refine dtN 7 rfl (wantedF rfl rfl rfl rfl) (by kernel_rfl) (fun _ _ _ h => h) hss rfl ?_
      refine dtN 8 rfl (wantedF rfl rfl rfl rfl) (by kernel_rfl) (fun _ _ _ h => h) hss rfl ?_
      refine dtN 9 rfl (wantedF rfl rfl rfl rfl) (by kernel_rfl) (fun _ _ _ h => h) hss rfl ?_
      refine dtN 10 rfl (wantedF rfl rfl rfl rfl) (by kernel_rfl) (fun _ _ _ h => h) hss rfl ?_
      refine dtN 11 rfl (wantedF rfl rfl rfl rfl) (by kernel_rfl) (fun _ _ _ h => h) hss rfl ?_
      refine dt 12 rfl (by kernel_rfl) (fun _ _ _ h => h) hss (fun _ h => (r_pick rfl rfl rfl rfl)) rfl ?_
      refine nrmD (vals := [(0, .pointer lp), (1, .agg #[kv, xv]), (2, .pointer (some ⟨b, 0, none⟩)), (4, .pointer (some ⟨b5, 0, none⟩)), (6, .pointer none), (7, .pointer none), (8, .pointer p2), (23, .bool (singleB ((l).size) (0) ((o).size))), (46, .bool true)]) (.cons rfl (.cons rfl (.cons rfl (.cons rfl (.cons rfl (.cons rfl (.cons rfl (.cons rfl (.cons rfl .nil))))))))) fun g58 => ?_
      refine dt 13 rfl (by kernel_rfl) (fun _ _ _ h => h) hss (fun _ h => r_move rfl) rfl ?_
      refine dtN 14 rfl (wantedF rfl rfl rfl rfl) (by kernel_rfl) (fun _ _ _ h => h) hss rfl ?_
      refine dtN 15 rfl (wantedF rfl rfl rfl rfl) (by kernel_rfl) (fun _ _ _ h => h) hss rfl ?_
      refine dtN 16 rfl (wantedF rfl rfl rfl rfl) (by kernel_rfl) (fun _ _ _ h => h) hss rfl ?_
      refine dtN 17 rfl (wantedF rfl rfl rfl rfl) (by kernel_rfl) (fun _ _ _ h => h) hss rfl ?_
      refine dtN 18 rfl (wantedF rfl rfl rfl rfl) (by kernel_rfl) (fun _ _ _ h => h) hss rfl ?_
      refine dtN 19 rfl (wantedF rfl rfl rfl rfl) (by kernel_rfl) (fun _ _ _ h => h) hss rfl ?_
      refine dtN 20 rfl (wantedF rfl rfl rfl rfl) (by kernel_rfl) (fun _ _ _ h => h) hss rfl ?_
      refine dtN 21 rfl (wantedF rfl rfl rfl rfl) (by kernel_rfl) (fun _ _ _ h => h) hss rfl ?_
      refine dtN 22 rfl (wantedF rfl rfl rfl rfl) (by kernel_rfl) (fun _ _ _ h => h) hss rfl ?_
      refine dt 23 rfl (by kernel_rfl) (fun _ _ _ h => h) hss (fun _ h => (r_pick rfl rfl rfl rfl)) rfl ?_
      refine dt 24 rfl (by kernel_rfl) (fun _ _ _ h => h) hss (fun _ h => r_move rfl) rfl ?_
      refine dtN 25 rfl (wantedF rfl rfl rfl rfl) (by kernel_rfl) (fun _ _ _ h => h) hss rfl ?_
      refine nrmD (vals := [(0, .pointer lp), (1, .agg #[kv, xv]), (2, .pointer (some ⟨b, 0, none⟩)), (4, .pointer (some ⟨b5, 0, none⟩)), (6, .pointer none), (7, .pointer none), (8, .pointer p2), (23, .bool (singleB ((l).size) (0) ((o).size))), (58, .bool true), (59, undef)]) (.cons rfl (.cons rfl (.cons rfl (.cons rfl (.cons rfl (.cons rfl (.cons rfl (.cons rfl (.cons rfl (.cons rfl .nil)))))))))) fun g59 => ?_
      refine dtN 26 rfl (wantedF rfl rfl rfl rfl) (by kernel_rfl) (fun _ _ _ h => h) hss rfl ?_
      refine dtN 27 rfl (wantedF rfl rfl rfl rfl) (by kernel_rfl) (fun _ _ _ h => h) hss rfl ?_
      refine dtN 28 rfl (wantedF rfl rfl rfl rfl) (by kernel_rfl) (fun _ _ _ h => h) hss rfl ?_
      refine dtN 29 rfl (wantedF rfl rfl rfl rfl) (by kernel_rfl) (fun _ _ _ h => h) hss rfl ?_
      refine dtN 30 rfl (wantedF rfl rfl rfl rfl) (by kernel_rfl) (fun _ _ _ h => h) hss rfl ?_
      refine dtN 31 rfl (wantedF rfl rfl rfl rfl) (by kernel_rfl) (fun _ _ _ h => h) hss rfl ?_
      refine dtN 32 rfl (wantedF rfl rfl rfl rfl) (by kernel_rfl) (fun _ _ _ h => h) hss rfl ?_
      refine dtN 33 rfl (wantedF rfl rfl rfl rfl) (by kernel_rfl) (fun _ _ _ h => h) hss rfl ?_
      refine dtN 34 rfl (wantedF rfl rfl rfl rfl) (by kernel_rfl) (fun _ _ _ h => h) hss rfl ?_
      refine dtN 35 rfl (wantedF rfl rfl rfl rfl) (by kernel_rfl) (fun _ _ _ h => h) hss rfl ?_
      refine dtN 36 rfl (wantedF rfl rfl rfl rfl) (by kernel_rfl) (fun _ _ _ h => h) hss rfl ?_
      refine dtN 37 rfl (wantedF rfl rfl rfl rfl) (by kernel_rfl) (fun _ _ _ h => h) hss rfl ?_
      refine dtN 38 rfl (wantedF rfl rfl rfl rfl) (by kernel_rfl) (fun _ _ _ h => h) hss rfl ?_
      refine nrmD (vals := [(0, .pointer lp), (1, .agg #[kv, xv]), (2, .pointer (some ⟨b, 0, none⟩)), (4, .pointer (some ⟨b5, 0, none⟩)), (6, .pointer none), (7, .pointer none), (8, .pointer p2), (23, .bool (singleB ((l).size) (0) ((o).size))), (58, .bool true), (67, undef), (72, undef)]) (.cons rfl (.cons rfl (.cons rfl (.cons rfl (.cons rfl (.cons rfl (.cons rfl (.cons rfl (.cons rfl (.cons rfl (.cons rfl .nil))))))))))) fun g60 => ?_
      refine dtN 39 rfl (wantedF rfl rfl rfl rfl) (by kernel_rfl) (fun _ _ _ h => h) hss rfl ?_
      refine dtN 40 rfl (wantedF rfl rfl rfl rfl) (by kernel_rfl) (fun _ _ _ h => h) hss rfl ?_
      refine dtN 41 rfl (wantedF rfl rfl rfl rfl) (by kernel_rfl) (fun _ _ _ h => h) hss rfl ?_
      refine dtN 42 rfl (wantedF rfl rfl rfl rfl) (by kernel_rfl) (fun _ _ _ h => h) hss rfl ?_
      refine dtN 43 rfl (wantedF rfl rfl rfl rfl) (by kernel_rfl) (fun _ _ _ h => h) hss rfl ?_
      refine dtN 44 rfl (wantedF rfl rfl rfl rfl) (by kernel_rfl) (fun _ _ _ h => h) hss rfl ?_
      refine dt 45 rfl (by kernel_rfl) (fun _ _ _ h => h) hss (fun _ h => (r_pick rfl rfl rfl rfl)) rfl ?_
      refine draw_done (by kernel_rfl) ?_
      refine hK55 _ _ ?_; clear hK55 K54
      refine condT rfl rfl ?_
      refine wp_seq_k fun K61 hK62 => ?_
      refine wl_begin ?_
      refine sq (r_assign rfl) rfl ?_
      refine wl_nil ?_
      refine hK62 _ _ ?_; clear hK62 K61
      refine wp_ret ?_
      exact leave (X' := []) (L := [⟨b5, #[kv, xv], 56⟩]) hs57 rfl (res_one (v := .pointer none) rfl (.tmp rfl rfl .nil)) ⟨none, rfl, fun _ => (by simp [T.turnL, T.size, h35]), fun h => by cases h⟩
  | node il k3 x3 ir =>
    have h1' := h1
    obtain ⟨bi, kv3, xv3, p3, p4, rfl, hbi, hk3, hx3, h3, h4⟩ := h1'
    simp only [T.size] at hsz hs2
    generalize hs3 : il.size + 1 + ir.size = sz3 at hbi
    refine enter (args := [.pointer lp, .agg #[kv, xv], .pointer (some ⟨b, 0, none⟩)]) Tryd.func161 rfl rfl fun w0 hs0 => ?_
    refine wp_seq_k fun K1 hK2 => ?_
    refine wl_begin ?_
    refine sqo rfl fun K3 hK4 => ow_newbox (mk := fun b => .pointer (some ⟨b, 0, none⟩)) hs0 (r_box rfl rfl) rfl ?_
    rintro b5 w6 (hs7 : St w0 I (ids []) I [⟨b5, #[kv, xv], 56⟩] w6)
    clear hs0
    refine hK4 _ _ ?_; clear hK4 K3
    refine sq (r_assign rfl) rfl ?_
    refine wl_nil ?_
    refine hK2 _ _ ?_; clear hK2 K1
    refine wp_seq_k fun K8 hK9 => ?_
    refine draw_begin (S := SS I [⟨b5, #[kv, xv], 56⟩]) (by kernel_rfl) ?_
    have hs10 := hs7.drew; clear hs7
    have hss := hs10.ss (I := I) (GH.le.refl _) (fun _ h => h)
    refine dt 0 rfl (by kernel_rfl) (fun _ _ _ h => h) hss (fun _ h => r_move rfl) rfl ?_
    refine dt 1 rfl (by kernel_rfl) (fun _ _ _ h => h) hss (fun _ h => r_nilCheck rfl rfl) rfl ?_
    refine dt 2 rfl (by kernel_rfl) (fun _ _ _ h => h) hss (fun _ h => (r_fieldAddr (off := 2) rfl (by kernel_rfl) rfl)) rfl ?_
    refine dt 3 rfl (by kernel_rfl) (fun _ _ _ h => h) hss (fun _ h => r_load rfl (by kernel_rfl) rfl (h.imm hb) rfl) rfl ?_
    refine dt 4 rfl (by kernel_rfl) (fun _ _ _ h => h) hss (fun _ h => r_move rfl) rfl ?_
    refine dt 5 rfl (by kernel_rfl) (fun _ _ _ h => h) hss (fun _ h => r_nilCheck rfl rfl) rfl ?_
    refine dt 6 rfl (by kernel_rfl) (fun _ _ _ h => h) hss (fun _ h => (r_fieldAddr (off := 3) rfl (by kernel_rfl) rfl)) rfl ?_
    refine dt 7 rfl (by kernel_rfl) (fun _ _ _ h => h) hss (fun _ h => r_load rfl (by kernel_rfl) rfl (h.imm hb) rfl) rfl ?_
    refine dt 8 rfl (by kernel_rfl) (fun _ _ _ h => h) hss (fun _ h => r_assign rfl) rfl ?_
    refine dt 9 rfl (by kernel_rfl) (fun _ _ _ h => h) hss (fun _ h => r_assign rfl) rfl ?_
    refine draw_done (by kernel_rfl) ?_
    refine hK9 _ _ ?_; clear hK9 K8
    refine wp_seq_k fun K11 hK12 => ?_
    refine wp_seq_k fun K13 hK14 => ?_
    refine wl_begin ?_
    refine sq (r_move rfl) rfl ?_
    refine sqo rfl fun K15 hK16 => ow_call (X := []) (L := [⟨b5, #[kv, xv], 56⟩]) (lb := []) hs10 (tsize_ok hl) (by kernel_rfl) rfl rfl rfl rfl rfl ?_
    rintro _ _ X1 w17 ⟨rfl, rfl⟩ - hs18 hid19
    obtain rfl : X1 = [] := List.map_eq_nil_iff.1 hid19
    replace hs18 : St w0 I (ids []) I [⟨b5, #[kv, xv], 56⟩] w17 := hs18
    clear hs10 hid19
    refine hK16 _ _ ?_; clear hK16 K15
    refine sq (r_move rfl) rfl ?_
    refine sqo rfl fun K20 hK21 => ow_call (X := []) (L := [⟨b5, #[kv, xv], 56⟩]) (lb := []) hs18 (tsize_ok h1) (by kernel_rfl) rfl rfl rfl rfl rfl ?_
    rintro _ _ X1 w22 ⟨rfl, rfl⟩ - hs23 hid24
    obtain rfl : X1 = [] := List.map_eq_nil_iff.1 hid24
    replace hs23 : St w0 I (ids []) I [⟨b5, #[kv, xv], 56⟩] w22 := hs23
    clear hs18 hid24
    refine hK21 _ _ ?_; clear hK21 K20
    refine sq (r_move rfl) rfl ?_
    refine sqo rfl fun K25 hK26 => ow_call (X := []) (L := [⟨b5, #[kv, xv], 56⟩]) (lb := []) hs23 (tsize_ok h2) (by kernel_rfl) rfl rfl rfl rfl rfl ?_
    rintro _ _ X1 w27 ⟨rfl, rfl⟩ - hs28 hid29
    obtain rfl : X1 = [] := List.map_eq_nil_iff.1 hid29
    replace hs28 : St w0 I (ids []) I [⟨b5, #[kv, xv], 56⟩] w27 := hs28
    clear hs23 hid29
    refine hK26 _ _ ?_; clear hK26 K25
    refine sqo rfl fun K30 hK31 => ow_call (X := []) (L := [⟨b5, #[kv, xv], 56⟩]) (lb := []) hs28 (wSingle_ok (l := (l).size) (i := ((T.node il k3 x3 ir)).size) (o := (o).size) rfl rfl rfl (by (try simp only [T.size] at *); omega)) (by kernel_rfl) rfl rfl rfl rfl rfl ?_
    rintro _ _ X1 w32 ⟨rfl, rfl⟩ - hs33 hid34
    obtain rfl : X1 = [] := List.map_eq_nil_iff.1 hid34
    replace hs33 : St w0 I (ids []) I [⟨b5, #[kv, xv], 56⟩] w32 := hs33
    clear hs28 hid34
    refine hK31 _ _ ?_; clear hK31 K30
    refine wl_nil ?_
    refine hK14 _ _ ?_; clear hK14 K13
    refine condS rfl rfl (fun h35 => ?_) (fun h35 => ?_)
    ·
      refine wp_seq_k fun K36 hK37 => ?_
      refine nrm (vals := [(0, .pointer lp), (1, .agg #[kv, xv]), (2, .pointer (some ⟨b, 0, none⟩)), (4, .pointer (some ⟨b5, 0, none⟩)), (6, .pointer none), (7, .pointer (some ⟨bi, 0, none⟩)), (8, .pointer p2), (23, .bool (singleB ((l).size) (((T.node il k3 x3 ir)).size) ((o).size)))]) (.cons rfl (.cons rfl (.cons rfl (.cons rfl (.cons rfl (.cons rfl (.cons rfl (.cons rfl .nil)))))))) fun g38 => ?_
      refine draw_begin (S := SS I [⟨b5, #[kv, xv], 56⟩]) (by kernel_rfl) ?_
      have hs39 := hs33.drew; clear hs33
      have hss := hs39.ss (I := I) (GH.le.refl _) (fun _ h => h)
      refine dt 0 rfl (by kernel_rfl) (fun _ _ _ h => h) hss (fun _ h => r_move rfl) rfl ?_
      refine dt 1 rfl (by kernel_rfl) (fun _ _ _ h => h) hss (fun _ h => r_loadN (m := 2) rfl (by kernel_rfl) rfl (h.box (.head _)) rfl rfl) rfl ?_
      refine dt 2 rfl (by kernel_rfl) (fun _ _ _ h => h) hss (fun _ h => r_move rfl) rfl ?_
      refine dt 4 rfl (by kernel_rfl) (fun _ _ _ h => h) hss (fun _ h => r_move rfl) rfl ?_
      refine dt 5 rfl (by kernel_rfl) (fun _ _ _ h => h) hss (fun _ h => r_nilCheck rfl rfl) rfl ?_
      refine dt 6 rfl (by kernel_rfl) (fun _ _ _ h => h) hss (fun _ h => (r_fieldAddr (off := 0) rfl (by kernel_rfl) rfl)) rfl ?_
      refine dt 7 rfl (by kernel_rfl) (fun _ _ _ h => h) hss (fun _ h => r_loadN (m := 2) rfl (by kernel_rfl) rfl (h.imm hb) rfl rfl) rfl ?_
      refine dt 8 rfl (by kernel_rfl) (fun _ _ _ h => h) hss (fun _ h => r_move rfl) rfl ?_
      refine dro 3 (by kernel_rfl) rfl (ow_call (X := []) (L := [⟨b5, #[kv, xv], 56⟩]) (lb := []) hs39 (node_ok hl h1 hk hx (by simp only [T.size] at *; omega)) (by kernel_rfl) rfl rfl rfl rfl rfl ?_)
      rintro _ G1 X1 w42 ⟨p40, rfl, ht41⟩ le45 hs43 hid44
      obtain rfl : X1 = [] := List.map_eq_nil_iff.1 hid44
      replace hs43 : St w0 I (ids []) G1 [⟨b5, #[kv, xv], 56⟩] w42 := hs43
      clear hs39 hid44
      replace hss := hs43.ss (I := I) le45 (fun _ h => h)
      refine ⟨hss, ?_⟩
      refine dro 9 (by kernel_rfl) rfl (ow_call (X := []) (L := [⟨b5, #[kv, xv], 56⟩]) (lb := []) hs43 (node_ok ht41 (h2.up le45) (hk2.up le45) (hx2.up le45) (by simp only [T.size] at *; omega)) (by kernel_rfl) rfl rfl rfl rfl rfl ?_)
      rintro _ G2 X1 w48 ⟨p46, rfl, ht47⟩ le51 hs49 hid50
      obtain rfl : X1 = [] := List.map_eq_nil_iff.1 hid50
      replace hs49 : St w0 I (ids []) G2 [⟨b5, #[kv, xv], 56⟩] w48 := hs49
      clear hs43 hid50
      replace hss := hs49.ss (I := I) (le45.trans le51) (fun _ h => h)
      refine ⟨hss, ?_⟩
      refine dt 10 rfl (by kernel_rfl) (fun _ _ _ h => h) hss (fun _ h => r_assign rfl) rfl ?_
      refine draw_done (by kernel_rfl) ?_
      refine hK37 _ _ ?_; clear hK37 K36
      refine wp_ret ?_
      exact leave (X' := []) (L := [⟨b5, #[kv, xv], 56⟩]) hs49 rfl (res_one (v := .pointer p46) rfl (.tmp rfl rfl .nil)) ⟨_, rfl, fun h => (by obtain ⟨_, _, _, _, _, rfl, _⟩ := ht47; cases h), fun _ => ⟨_, (by simp [T.turnL, h35]), ht47⟩⟩
    ·
      refine wp_skip ?_
      refine hK12 _ _ ?_; clear hK12 K11
      refine wp_seq_k fun K52 hK53 => ?_
      refine wp_seq_k fun K54 hK55 => ?_
      refine nrm (vals := [(0, .pointer lp), (1, .agg #[kv, xv]), (2, .pointer (some ⟨b, 0, none⟩)), (4, .pointer (some ⟨b5, 0, none⟩)), (6, .pointer none), (7, .pointer (some ⟨bi, 0, none⟩)), (8, .pointer p2), (23, .bool (singleB ((l).size) (((T.node il k3 x3 ir)).size) ((o).size)))]) (.cons rfl (.cons rfl (.cons rfl (.cons rfl (.cons rfl (.cons rfl (.cons rfl (.cons rfl .nil)))))))) fun g56 => ?_
      refine draw_begin (S := SS I [⟨b5, #[kv, xv], 56⟩]) (by kernel_rfl) ?_
      have hs57 := hs33.drew; clear hs33
      have hss := hs57.ss (I := I) (GH.le.refl _) (fun _ h => h)
      refine dt 0 rfl (by kernel_rfl) (fun _ _ _ h => h) hss (fun _ h => r_move rfl) rfl ?_
      refine dt 1 rfl (by kernel_rfl) (fun _ _ _ h => h) hss (fun _ h => (r_eqp rfl rfl (by kernel_rfl) rfl rfl)) rfl ?_
      refine dt 2 rfl (by kernel_rfl) (fun _ _ _ h => h) hss (fun _ h => r_move rfl) rfl ?_
      refine dtG 3 rfl (wantedT rfl rfl rfl rfl) (by kernel_rfl) (fun _ _ _ h => h) hss (fun _ h => r_move rfl) rfl ?_
      refine dtG 5 rfl (wantedT rfl rfl rfl rfl) (by kernel_rfl) (fun _ _ _ h => h) hss (fun _ h => r_move rfl) rfl ?_
      refine dtG 6 rfl (wantedT rfl rfl rfl rfl) (by kernel_rfl) (fun _ _ _ h => h) hss (fun _ h => r_nilCheck rfl rfl) rfl ?_
      refine dtG 7 rfl (wantedT rfl rfl rfl rfl) (by kernel_rfl) (fun _ _ _ h => h) hss (fun _ h => (r_fieldAddr (off := 2) rfl (by kernel_rfl) rfl)) rfl ?_
      refine dtG 8 rfl (wantedT rfl rfl rfl rfl) (by kernel_rfl) (fun _ _ _ h => h) hss (fun _ h => r_load rfl (by kernel_rfl) rfl (h.imm hbi) rfl) rfl ?_
      refine droG 4 (by kernel_rfl) rfl (wantedT rfl rfl rfl rfl) (ow_call (X := []) (L := [⟨b5, #[kv, xv], 56⟩]) (lb := []) hs57 (tsize_ok hl) (by kernel_rfl) rfl rfl rfl rfl rfl ?_)
      rintro _ _ X1 w58 ⟨rfl, rfl⟩ - hs59 hid60
      obtain rfl : X1 = [] := List.map_eq_nil_iff.1 hid60
      replace hs59 : St w0 I (ids []) I [⟨b5, #[kv, xv], 56⟩] w58 := hs59
      clear hs57 hid60
      replace hss := hs59.ss (I := I) (GH.le.refl _) (fun _ h => h)
      refine ⟨hss, ?_⟩
      refine droG 9 (by kernel_rfl) rfl (wantedT rfl rfl rfl rfl) (ow_call (X := []) (L := [⟨b5, #[kv, xv], 56⟩]) (lb := []) hs59 (tsize_ok h3) (by kernel_rfl) rfl rfl rfl rfl rfl ?_)
      rintro _ _ X1 w61 ⟨rfl, rfl⟩ - hs62 hid63
      obtain rfl : X1 = [] := List.map_eq_nil_iff.1 hid63
      replace hs62 : St w0 I (ids []) I [⟨b5, #[kv, xv], 56⟩] w61 := hs62
      clear hs59 hid63
      replace hss := hs62.ss (I := I) (GH.le.refl _) (fun _ h => h)
      refine ⟨hss, ?_⟩
      refine droG 10 (by kernel_rfl) rfl (wantedT rfl rfl rfl rfl) (ow_call (X := []) (L := [⟨b5, #[kv, xv], 56⟩]) (lb := []) hs62 (wEven_ok (l := (l).size) (r := (il).size) rfl rfl (by (try simp only [T.size] at *); omega) (by (try simp only [T.size] at *); omega)) (by kernel_rfl) rfl rfl rfl rfl rfl ?_)
      rintro _ _ X1 w64 ⟨rfl, rfl⟩ - hs65 hid66
      obtain rfl : X1 = [] := List.map_eq_nil_iff.1 hid66
      replace hs65 : St w0 I (ids []) I [⟨b5, #[kv, xv], 56⟩] w64 := hs65
      clear hs62 hid66
      replace hss := hs65.ss (I := I) (GH.le.refl _) (fun _ h => h)
      refine ⟨hss, ?_⟩
      refine dtG 11 rfl (wantedT rfl rfl rfl rfl) (by kernel_rfl) (fun _ _ _ h => h) hss (fun _ h => r_not rfl rfl) rfl ?_
      refine dt 12 rfl (by kernel_rfl) (fun _ _ _ h => h) hss (fun _ h => (r_pick rfl rfl rfl rfl)) rfl ?_
      refine nrmD (vals := [(0, .pointer lp), (1, .agg #[kv, xv]), (2, .pointer (some ⟨b, 0, none⟩)), (4, .pointer (some ⟨b5, 0, none⟩)), (6, .pointer none), (7, .pointer (some ⟨bi, 0, none⟩)), (8, .pointer p2), (23, .bool (singleB ((l).size) (((T.node il k3 x3 ir)).size) ((o).size))), (46, .bool (!(evenB ((l).size) ((il).size))))]) (.cons rfl (.cons rfl (.cons rfl (.cons rfl (.cons rfl (.cons rfl (.cons rfl (.cons rfl (.cons rfl .nil))))))))) fun g67 => ?_
      refine dt 13 rfl (by kernel_rfl) (fun _ _ _ h => h) hss (fun _ h => r_move rfl) rfl ?_
      refine bsplit (!(evenB ((l).size) ((il).size))) (fun h68 => ?_) (fun h68 => ?_)
      ·
        have h69 : (evenB ((l).size) ((il).size)) = false := by simpa using h68
        refine dtN 14 rfl (wantedF rfl rfl rfl (congrArg Value.bool h68)) (by kernel_rfl) (fun _ _ _ h => h) hss rfl ?_
        refine dtN 15 rfl (wantedF rfl rfl rfl (congrArg Value.bool h68)) (by kernel_rfl) (fun _ _ _ h => h) hss rfl ?_
        refine dtN 16 rfl (wantedF rfl rfl rfl (congrArg Value.bool h68)) (by kernel_rfl) (fun _ _ _ h => h) hss rfl ?_
        refine dtN 17 rfl (wantedF rfl rfl rfl (congrArg Value.bool h68)) (by kernel_rfl) (fun _ _ _ h => h) hss rfl ?_
        refine dtN 18 rfl (wantedF rfl rfl rfl (congrArg Value.bool h68)) (by kernel_rfl) (fun _ _ _ h => h) hss rfl ?_
        refine dtN 19 rfl (wantedF rfl rfl rfl (congrArg Value.bool h68)) (by kernel_rfl) (fun _ _ _ h => h) hss rfl ?_
        refine dtN 20 rfl (wantedF rfl rfl rfl (congrArg Value.bool h68)) (by kernel_rfl) (fun _ _ _ h => h) hss rfl ?_
        refine dtN 21 rfl (wantedF rfl rfl rfl (congrArg Value.bool h68)) (by kernel_rfl) (fun _ _ _ h => h) hss rfl ?_
        refine dtN 22 rfl (wantedF rfl rfl rfl (congrArg Value.bool h68)) (by kernel_rfl) (fun _ _ _ h => h) hss rfl ?_
        refine dt 23 rfl (by kernel_rfl) (fun _ _ _ h => h) hss (fun _ h => (r_pick rfl rfl rfl (congrArg Value.bool h68))) rfl ?_
        refine dt 24 rfl (by kernel_rfl) (fun _ _ _ h => h) hss (fun _ h => r_move rfl) rfl ?_
        refine dtN 25 rfl (wantedF rfl rfl rfl rfl) (by kernel_rfl) (fun _ _ _ h => h) hss rfl ?_
        refine nrmD (vals := [(0, .pointer lp), (1, .agg #[kv, xv]), (2, .pointer (some ⟨b, 0, none⟩)), (4, .pointer (some ⟨b5, 0, none⟩)), (6, .pointer none), (7, .pointer (some ⟨bi, 0, none⟩)), (8, .pointer p2), (23, .bool (singleB ((l).size) (((T.node il k3 x3 ir)).size) ((o).size))), (58, .bool true), (59, undef)]) (.cons rfl (.cons rfl (.cons rfl (.cons rfl (.cons rfl (.cons rfl (.cons rfl (.cons rfl (.cons rfl (.cons rfl .nil)))))))))) fun g70 => ?_
        refine dtN 26 rfl (wantedF rfl rfl rfl rfl) (by kernel_rfl) (fun _ _ _ h => h) hss rfl ?_
        refine dtN 27 rfl (wantedF rfl rfl rfl rfl) (by kernel_rfl) (fun _ _ _ h => h) hss rfl ?_
        refine dtN 28 rfl (wantedF rfl rfl rfl rfl) (by kernel_rfl) (fun _ _ _ h => h) hss rfl ?_
        refine dtN 29 rfl (wantedF rfl rfl rfl rfl) (by kernel_rfl) (fun _ _ _ h => h) hss rfl ?_
        refine dtN 30 rfl (wantedF rfl rfl rfl rfl) (by kernel_rfl) (fun _ _ _ h => h) hss rfl ?_
        refine dtN 31 rfl (wantedF rfl rfl rfl rfl) (by kernel_rfl) (fun _ _ _ h => h) hss rfl ?_
        refine dtN 32 rfl (wantedF rfl rfl rfl rfl) (by kernel_rfl) (fun _ _ _ h => h) hss rfl ?_
        refine dtN 33 rfl (wantedF rfl rfl rfl rfl) (by kernel_rfl) (fun _ _ _ h => h) hss rfl ?_
        refine dtN 34 rfl (wantedF rfl rfl rfl rfl) (by kernel_rfl) (fun _ _ _ h => h) hss rfl ?_
        refine dtN 35 rfl (wantedF rfl rfl rfl rfl) (by kernel_rfl) (fun _ _ _ h => h) hss rfl ?_
        refine dtN 36 rfl (wantedF rfl rfl rfl rfl) (by kernel_rfl) (fun _ _ _ h => h) hss rfl ?_
        refine dtN 37 rfl (wantedF rfl rfl rfl rfl) (by kernel_rfl) (fun _ _ _ h => h) hss rfl ?_
        refine dtN 38 rfl (wantedF rfl rfl rfl rfl) (by kernel_rfl) (fun _ _ _ h => h) hss rfl ?_
        refine nrmD (vals := [(0, .pointer lp), (1, .agg #[kv, xv]), (2, .pointer (some ⟨b, 0, none⟩)), (4, .pointer (some ⟨b5, 0, none⟩)), (6, .pointer none), (7, .pointer (some ⟨bi, 0, none⟩)), (8, .pointer p2), (23, .bool (singleB ((l).size) (((T.node il k3 x3 ir)).size) ((o).size))), (58, .bool true), (67, undef), (72, undef)]) (.cons rfl (.cons rfl (.cons rfl (.cons rfl (.cons rfl (.cons rfl (.cons rfl (.cons rfl (.cons rfl (.cons rfl (.cons rfl .nil))))))))))) fun g71 => ?_
        refine dtN 39 rfl (wantedF rfl rfl rfl rfl) (by kernel_rfl) (fun _ _ _ h => h) hss rfl ?_
        refine dtN 40 rfl (wantedF rfl rfl rfl rfl) (by kernel_rfl) (fun _ _ _ h => h) hss rfl ?_
        refine dtN 41 rfl (wantedF rfl rfl rfl rfl) (by kernel_rfl) (fun _ _ _ h => h) hss rfl ?_
        refine dtN 42 rfl (wantedF rfl rfl rfl rfl) (by kernel_rfl) (fun _ _ _ h => h) hss rfl ?_
        refine dtN 43 rfl (wantedF rfl rfl rfl rfl) (by kernel_rfl) (fun _ _ _ h => h) hss rfl ?_
        refine dtN 44 rfl (wantedF rfl rfl rfl rfl) (by kernel_rfl) (fun _ _ _ h => h) hss rfl ?_
        refine dt 45 rfl (by kernel_rfl) (fun _ _ _ h => h) hss (fun _ h => (r_pick rfl rfl rfl rfl)) rfl ?_
        refine draw_done (by kernel_rfl) ?_
        refine hK55 _ _ ?_; clear hK55 K54
        refine condT rfl rfl ?_
        refine wp_seq_k fun K72 hK73 => ?_
        refine wl_begin ?_
        refine sq (r_assign rfl) rfl ?_
        refine wl_nil ?_
        refine hK73 _ _ ?_; clear hK73 K72
        refine wp_ret ?_
        exact leave (X' := []) (L := [⟨b5, #[kv, xv], 56⟩]) hs65 rfl (res_one (v := .pointer none) rfl (.tmp rfl rfl .nil)) ⟨none, rfl, fun _ => (by simp [T.turnL, h35, h68, h69]), fun h => by cases h⟩
      ·
        have h74 : (evenB ((l).size) ((il).size)) = true := by simpa using h68
        refine dtG 14 rfl (wantedT rfl rfl rfl (congrArg Value.bool h68)) (by kernel_rfl) (fun _ _ _ h => h) hss (fun _ h => r_move rfl) rfl ?_
        refine dtG 15 rfl (wantedT rfl rfl rfl (congrArg Value.bool h68)) (by kernel_rfl) (fun _ _ _ h => h) hss (fun _ h => r_nilCheck rfl rfl) rfl ?_
        refine dtG 16 rfl (wantedT rfl rfl rfl (congrArg Value.bool h68)) (by kernel_rfl) (fun _ _ _ h => h) hss (fun _ h => (r_fieldAddr (off := 3) rfl (by kernel_rfl) rfl)) rfl ?_
        refine dtG 17 rfl (wantedT rfl rfl rfl (congrArg Value.bool h68)) (by kernel_rfl) (fun _ _ _ h => h) hss (fun _ h => r_load rfl (by kernel_rfl) rfl (h.imm hbi) rfl) rfl ?_
        refine dtG 19 rfl (wantedT rfl rfl rfl (congrArg Value.bool h68)) (by kernel_rfl) (fun _ _ _ h => h) hss (fun _ h => r_move rfl) rfl ?_
        refine droG 18 (by kernel_rfl) rfl (wantedT rfl rfl rfl (congrArg Value.bool h68)) (ow_call (X := []) (L := [⟨b5, #[kv, xv], 56⟩]) (lb := []) hs65 (tsize_ok h4) (by kernel_rfl) rfl rfl rfl rfl rfl ?_)
        rintro _ _ X1 w75 ⟨rfl, rfl⟩ - hs76 hid77
        obtain rfl : X1 = [] := List.map_eq_nil_iff.1 hid77
        replace hs76 : St w0 I (ids []) I [⟨b5, #[kv, xv], 56⟩] w75 := hs76
        clear hs65 hid77
        replace hss := hs76.ss (I := I) (GH.le.refl _) (fun _ h => h)
        refine ⟨hss, ?_⟩
        refine droG 20 (by kernel_rfl) rfl (wantedT rfl rfl rfl (congrArg Value.bool h68)) (ow_call (X := []) (L := [⟨b5, #[kv, xv], 56⟩]) (lb := []) hs76 (tsize_ok h2) (by kernel_rfl) rfl rfl rfl rfl rfl ?_)
        rintro _ _ X1 w78 ⟨rfl, rfl⟩ - hs79 hid80
        obtain rfl : X1 = [] := List.map_eq_nil_iff.1 hid80
        replace hs79 : St w0 I (ids []) I [⟨b5, #[kv, xv], 56⟩] w78 := hs79
        clear hs76 hid80
        replace hss := hs79.ss (I := I) (GH.le.refl _) (fun _ h => h)
        refine ⟨hss, ?_⟩
        refine droG 21 (by kernel_rfl) rfl (wantedT rfl rfl rfl (congrArg Value.bool h68)) (ow_call (X := []) (L := [⟨b5, #[kv, xv], 56⟩]) (lb := []) hs79 (wEven_ok (l := (ir).size) (r := (o).size) rfl rfl (by (try simp only [T.size] at *); omega) (by (try simp only [T.size] at *); omega)) (by kernel_rfl) rfl rfl rfl rfl rfl ?_)
        rintro _ _ X1 w81 ⟨rfl, rfl⟩ - hs82 hid83
        obtain rfl : X1 = [] := List.map_eq_nil_iff.1 hid83
        replace hs82 : St w0 I (ids []) I [⟨b5, #[kv, xv], 56⟩] w81 := hs82
        clear hs79 hid83
        replace hss := hs82.ss (I := I) (GH.le.refl _) (fun _ h => h)
        refine ⟨hss, ?_⟩
        refine dtG 22 rfl (wantedT rfl rfl rfl (congrArg Value.bool h68)) (by kernel_rfl) (fun _ _ _ h => h) hss (fun _ h => r_not rfl rfl) rfl ?_
        refine dt 23 rfl (by kernel_rfl) (fun _ _ _ h => h) hss (fun _ h => (r_pick rfl rfl rfl (congrArg Value.bool h68))) rfl ?_
        refine dt 24 rfl (by kernel_rfl) (fun _ _ _ h => h) hss (fun _ h => r_move rfl) rfl ?_
        refine bsplit (!(evenB ((ir).size) ((o).size))) (fun h84 => ?_) (fun h84 => ?_)
        ·
          have h85 : (evenB ((ir).size) ((o).size)) = false := by simpa using h84
          refine dtN 25 rfl (wantedF rfl rfl rfl (congrArg Value.bool h84)) (by kernel_rfl) (fun _ _ _ h => h) hss rfl ?_
          refine nrmD (vals := [(0, .pointer lp), (1, .agg #[kv, xv]), (2, .pointer (some ⟨b, 0, none⟩)), (4, .pointer (some ⟨b5, 0, none⟩)), (6, .pointer none), (7, .pointer (some ⟨bi, 0, none⟩)), (8, .pointer p2), (23, .bool (singleB ((l).size) (((T.node il k3 x3 ir)).size) ((o).size))), (58, .bool (!(evenB ((ir).size) ((o).size)))), (59, undef)]) (.cons rfl (.cons rfl (.cons rfl (.cons rfl (.cons rfl (.cons rfl (.cons rfl (.cons rfl (.cons rfl (.cons rfl .nil)))))))))) fun g86 => ?_
          refine dtN 26 rfl (wantedF rfl rfl rfl (congrArg Value.bool h84)) (by kernel_rfl) (fun _ _ _ h => h) hss rfl ?_
          refine dtN 27 rfl (wantedF rfl rfl rfl (congrArg Value.bool h84)) (by kernel_rfl) (fun _ _ _ h => h) hss rfl ?_
          refine dtN 28 rfl (wantedF rfl rfl rfl (congrArg Value.bool h84)) (by kernel_rfl) (fun _ _ _ h => h) hss rfl ?_
          refine dtN 29 rfl (wantedF rfl rfl rfl (congrArg Value.bool h84)) (by kernel_rfl) (fun _ _ _ h => h) hss rfl ?_
          refine dtN 30 rfl (wantedF rfl rfl rfl (congrArg Value.bool h84)) (by kernel_rfl) (fun _ _ _ h => h) hss rfl ?_
          refine dtN 31 rfl (wantedF rfl rfl rfl (congrArg Value.bool h84)) (by kernel_rfl) (fun _ _ _ h => h) hss rfl ?_
          refine dtN 32 rfl (wantedF rfl rfl rfl (congrArg Value.bool h84)) (by kernel_rfl) (fun _ _ _ h => h) hss rfl ?_
          refine dtN 33 rfl (wantedF rfl rfl rfl (congrArg Value.bool h84)) (by kernel_rfl) (fun _ _ _ h => h) hss rfl ?_
          refine dtN 34 rfl (wantedF rfl rfl rfl (congrArg Value.bool h84)) (by kernel_rfl) (fun _ _ _ h => h) hss rfl ?_
          refine dtN 35 rfl (wantedF rfl rfl rfl (congrArg Value.bool h84)) (by kernel_rfl) (fun _ _ _ h => h) hss rfl ?_
          refine dtN 36 rfl (wantedF rfl rfl rfl (congrArg Value.bool h84)) (by kernel_rfl) (fun _ _ _ h => h) hss rfl ?_
          refine dtN 37 rfl (wantedF rfl rfl rfl (congrArg Value.bool h84)) (by kernel_rfl) (fun _ _ _ h => h) hss rfl ?_
          refine dtN 38 rfl (wantedF rfl rfl rfl (congrArg Value.bool h84)) (by kernel_rfl) (fun _ _ _ h => h) hss rfl ?_
          refine nrmD (vals := [(0, .pointer lp), (1, .agg #[kv, xv]), (2, .pointer (some ⟨b, 0, none⟩)), (4, .pointer (some ⟨b5, 0, none⟩)), (6, .pointer none), (7, .pointer (some ⟨bi, 0, none⟩)), (8, .pointer p2), (23, .bool (singleB ((l).size) (((T.node il k3 x3 ir)).size) ((o).size))), (58, .bool (!(evenB ((ir).size) ((o).size)))), (67, undef), (72, undef)]) (.cons rfl (.cons rfl (.cons rfl (.cons rfl (.cons rfl (.cons rfl (.cons rfl (.cons rfl (.cons rfl (.cons rfl (.cons rfl .nil))))))))))) fun g87 => ?_
          refine dtN 39 rfl (wantedF rfl rfl rfl (congrArg Value.bool h84)) (by kernel_rfl) (fun _ _ _ h => h) hss rfl ?_
          refine dtN 40 rfl (wantedF rfl rfl rfl (congrArg Value.bool h84)) (by kernel_rfl) (fun _ _ _ h => h) hss rfl ?_
          refine dtN 41 rfl (wantedF rfl rfl rfl (congrArg Value.bool h84)) (by kernel_rfl) (fun _ _ _ h => h) hss rfl ?_
          refine dtN 42 rfl (wantedF rfl rfl rfl (congrArg Value.bool h84)) (by kernel_rfl) (fun _ _ _ h => h) hss rfl ?_
          refine dtN 43 rfl (wantedF rfl rfl rfl (congrArg Value.bool h84)) (by kernel_rfl) (fun _ _ _ h => h) hss rfl ?_
          refine dtN 44 rfl (wantedF rfl rfl rfl (congrArg Value.bool h84)) (by kernel_rfl) (fun _ _ _ h => h) hss rfl ?_
          refine dt 45 rfl (by kernel_rfl) (fun _ _ _ h => h) hss (fun _ h => (r_pick rfl rfl rfl (congrArg Value.bool h84))) rfl ?_
          refine draw_done (by kernel_rfl) ?_
          refine hK55 _ _ ?_; clear hK55 K54
          refine condT rfl rfl ?_
          refine wp_seq_k fun K88 hK89 => ?_
          refine wl_begin ?_
          refine sq (r_assign rfl) rfl ?_
          refine wl_nil ?_
          refine hK89 _ _ ?_; clear hK89 K88
          refine wp_ret ?_
          exact leave (X' := []) (L := [⟨b5, #[kv, xv], 56⟩]) hs82 rfl (res_one (v := .pointer none) rfl (.tmp rfl rfl .nil)) ⟨none, rfl, fun _ => (by simp [T.turnL, h35, h68, h74, h84, h85]), fun h => by cases h⟩
        ·
          have h90 : (evenB ((ir).size) ((o).size)) = true := by simpa using h84
          refine dtG 25 rfl (wantedT rfl rfl rfl (congrArg Value.bool h84)) (by kernel_rfl) (fun _ _ _ h => h) hss (fun _ h => r_move rfl) rfl ?_
          refine nrmD (vals := [(0, .pointer lp), (1, .agg #[kv, xv]), (2, .pointer (some ⟨b, 0, none⟩)), (4, .pointer (some ⟨b5, 0, none⟩)), (6, .pointer none), (7, .pointer (some ⟨bi, 0, none⟩)), (8, .pointer p2), (23, .bool (singleB ((l).size) (((T.node il k3 x3 ir)).size) ((o).size))), (58, .bool (!(evenB ((ir).size) ((o).size)))), (59, .pointer lp)]) (.cons rfl (.cons rfl (.cons rfl (.cons rfl (.cons rfl (.cons rfl (.cons rfl (.cons rfl (.cons rfl (.cons rfl .nil)))))))))) fun g91 => ?_
          refine dtG 28 rfl (wantedT rfl rfl rfl (congrArg Value.bool h84)) (by kernel_rfl) (fun _ _ _ h => h) hss (fun _ h => r_move rfl) rfl ?_
          refine dtG 29 rfl (wantedT rfl rfl rfl (congrArg Value.bool h84)) (by kernel_rfl) (fun _ _ _ h => h) hss (fun _ h => r_nilCheck rfl rfl) rfl ?_
          refine dtG 30 rfl (wantedT rfl rfl rfl (congrArg Value.bool h84)) (by kernel_rfl) (fun _ _ _ h => h) hss (fun _ h => (r_fieldAddr (off := 2) rfl (by kernel_rfl) rfl)) rfl ?_
          refine dtG 31 rfl (wantedT rfl rfl rfl (congrArg Value.bool h84)) (by kernel_rfl) (fun _ _ _ h => h) hss (fun _ h => r_load rfl (by kernel_rfl) rfl (h.imm hbi) rfl) rfl ?_
          refine dtG 34 rfl (wantedT rfl rfl rfl (congrArg Value.bool h84)) (by kernel_rfl) (fun _ _ _ h => h) hss (fun _ h => r_move rfl) rfl ?_
          refine dtG 35 rfl (wantedT rfl rfl rfl (congrArg Value.bool h84)) (by kernel_rfl) (fun _ _ _ h => h) hss (fun _ h => r_nilCheck rfl rfl) rfl ?_
          refine dtG 36 rfl (wantedT rfl rfl rfl (congrArg Value.bool h84)) (by kernel_rfl) (fun _ _ _ h => h) hss (fun _ h => (r_fieldAddr (off := 3) rfl (by kernel_rfl) rfl)) rfl ?_
          refine dtG 37 rfl (wantedT rfl rfl rfl (congrArg Value.bool h84)) (by kernel_rfl) (fun _ _ _ h => h) hss (fun _ h => r_load rfl (by kernel_rfl) rfl (h.imm hbi) rfl) rfl ?_
          refine dtG 40 rfl (wantedT rfl rfl rfl (congrArg Value.bool h84)) (by kernel_rfl) (fun _ _ _ h => h) hss (fun _ h => r_move rfl) rfl ?_
          refine droG 26 (by kernel_rfl) rfl (wantedT rfl rfl rfl (congrArg Value.bool h84)) (ow_call (X := []) (L := [⟨b5, #[kv, xv], 56⟩]) (lb := []) hs82 (tsize_ok hl) (by kernel_rfl) rfl rfl rfl rfl rfl ?_)
          rintro _ _ X1 w92 ⟨rfl, rfl⟩ - hs93 hid94
          obtain rfl : X1 = [] := List.map_eq_nil_iff.1 hid94
          replace hs93 : St w0 I (ids []) I [⟨b5, #[kv, xv], 56⟩] w92 := hs93
          clear hs82 hid94
          replace hss := hs93.ss (I := I) (GH.le.refl _) (fun _ h => h)
          refine ⟨hss, ?_⟩
          refine dtG 27 rfl (wantedT rfl rfl rfl (congrArg Value.bool h84)) (by kernel_rfl) (fun _ _ _ h => h) hss (fun _ h => (r_addi rfl rfl rfl rfl (by omega))) rfl ?_
          refine droG 32 (by kernel_rfl) rfl (wantedT rfl rfl rfl (congrArg Value.bool h84)) (ow_call (X := []) (L := [⟨b5, #[kv, xv], 56⟩]) (lb := []) hs93 (tsize_ok h3) (by kernel_rfl) rfl rfl rfl rfl rfl ?_)
          rintro _ _ X1 w95 ⟨rfl, rfl⟩ - hs96 hid97
          obtain rfl : X1 = [] := List.map_eq_nil_iff.1 hid97
          replace hs96 : St w0 I (ids []) I [⟨b5, #[kv, xv], 56⟩] w95 := hs96
          clear hs93 hid97
          replace hss := hs96.ss (I := I) (GH.le.refl _) (fun _ h => h)
          refine ⟨hss, ?_⟩
          refine dtG 33 rfl (wantedT rfl rfl rfl (congrArg Value.bool h84)) (by kernel_rfl) (fun _ _ _ h => h) hss (fun _ h => (r_addi rfl rfl rfl rfl (by omega))) rfl ?_
          refine nrmD (vals := [(0, .pointer lp), (1, .agg #[kv, xv]), (2, .pointer (some ⟨b, 0, none⟩)), (4, .pointer (some ⟨b5, 0, none⟩)), (6, .pointer none), (7, .pointer (some ⟨bi, 0, none⟩)), (8, .pointer p2), (23, .bool (singleB ((l).size) (((T.node il k3 x3 ir)).size) ((o).size))), (58, .bool (!(evenB ((ir).size) ((o).size)))), (67, .int .i64 (((((l).size : Nat) : Int) + 1) + (((il).size : Nat) : Int))), (71, .pointer p4), (74, .pointer p2)]) (.cons rfl (.cons rfl (.cons rfl (.cons rfl (.cons rfl (.cons rfl (.cons rfl (.cons rfl (.cons rfl (.cons rfl (.cons rfl (.cons rfl .nil)))))))))))) fun g98 => ?_
          refine droG 38 (by kernel_rfl) rfl (wantedT rfl rfl rfl (congrArg Value.bool h84)) (ow_call (X := []) (L := [⟨b5, #[kv, xv], 56⟩]) (lb := []) hs96 (tsize_ok h4) (by kernel_rfl) rfl rfl rfl rfl rfl ?_)
          rintro _ _ X1 w99 ⟨rfl, rfl⟩ - hs100 hid101
          obtain rfl : X1 = [] := List.map_eq_nil_iff.1 hid101
          replace hs100 : St w0 I (ids []) I [⟨b5, #[kv, xv], 56⟩] w99 := hs100
          clear hs96 hid101
          replace hss := hs100.ss (I := I) (GH.le.refl _) (fun _ h => h)
          refine ⟨hss, ?_⟩
          refine dtG 39 rfl (wantedT rfl rfl rfl (congrArg Value.bool h84)) (by kernel_rfl) (fun _ _ _ h => h) hss (fun _ h => (r_addi rfl rfl rfl rfl (by omega))) rfl ?_
          refine droG 41 (by kernel_rfl) rfl (wantedT rfl rfl rfl (congrArg Value.bool h84)) (ow_call (X := []) (L := [⟨b5, #[kv, xv], 56⟩]) (lb := []) hs100 (tsize_ok h2) (by kernel_rfl) rfl rfl rfl rfl rfl ?_)
          rintro _ _ X1 w102 ⟨rfl, rfl⟩ - hs103 hid104
          obtain rfl : X1 = [] := List.map_eq_nil_iff.1 hid104
          replace hs103 : St w0 I (ids []) I [⟨b5, #[kv, xv], 56⟩] w102 := hs103
          clear hs100 hid104
          replace hss := hs103.ss (I := I) (GH.le.refl _) (fun _ h => h)
          refine ⟨hss, ?_⟩
          refine dtG 42 rfl (wantedT rfl rfl rfl (congrArg Value.bool h84)) (by kernel_rfl) (fun _ _ _ h => h) hss (fun _ h => (r_addi rfl rfl rfl rfl (by omega))) rfl ?_
          refine droG 43 (by kernel_rfl) rfl (wantedT rfl rfl rfl (congrArg Value.bool h84)) (ow_call (X := []) (L := [⟨b5, #[kv, xv], 56⟩]) (lb := []) hs103 (wEven_ok (l := (((l).size + 1) + (il).size)) (r := (((ir).size + 1) + (o).size)) rfl rfl (by (try simp only [T.size] at *); omega) (by (try simp only [T.size] at *); omega)) (by kernel_rfl) rfl rfl rfl rfl rfl ?_)
          rintro _ _ X1 w105 ⟨rfl, rfl⟩ - hs106 hid107
          obtain rfl : X1 = [] := List.map_eq_nil_iff.1 hid107
          replace hs106 : St w0 I (ids []) I [⟨b5, #[kv, xv], 56⟩] w105 := hs106
          clear hs103 hid107
          replace hss := hs106.ss (I := I) (GH.le.refl _) (fun _ h => h)
          refine ⟨hss, ?_⟩
          refine dtG 44 rfl (wantedT rfl rfl rfl (congrArg Value.bool h84)) (by kernel_rfl) (fun _ _ _ h => h) hss (fun _ h => r_not rfl rfl) rfl ?_
          refine dt 45 rfl (by kernel_rfl) (fun _ _ _ h => h) hss (fun _ h => (r_pick rfl rfl rfl (congrArg Value.bool h84))) rfl ?_
          refine draw_done (by kernel_rfl) ?_
          refine hK55 _ _ ?_; clear hK55 K54
          refine condS rfl rfl (fun h108 => ?_) (fun h108 => ?_)
          ·
            have h109 : (evenB ((((l).size + 1) + (il).size)) ((((ir).size + 1) + (o).size))) = false := by simpa using h108
            refine wp_seq_k fun K110 hK111 => ?_
            refine wl_begin ?_
            refine sq (r_assign rfl) rfl ?_
            refine wl_nil ?_
            refine hK111 _ _ ?_; clear hK111 K110
            refine wp_ret ?_
            exact leave (X' := []) (L := [⟨b5, #[kv, xv], 56⟩]) hs106 rfl (res_one (v := .pointer none) rfl (.tmp rfl rfl .nil)) ⟨none, rfl, fun _ => (by simp [T.turnL, h108, h109, h35, h68, h74, h84, h90]), fun h => by cases h⟩
          ·
            have h112 : (evenB ((((l).size + 1) + (il).size)) ((((ir).size + 1) + (o).size))) = true := by simpa using h108
            refine wp_skip ?_
            refine hK53 _ _ ?_; clear hK53 K52
            refine wp_seq_k fun K113 hK114 => ?_
            refine draw_begin (S := SS I [⟨b5, #[kv, xv], 56⟩]) (by kernel_rfl) ?_
            have hs115 := hs106.drew; clear hs106
            have hss := hs115.ss (I := I) (GH.le.refl _) (fun _ h => h)
            refine dt 0 rfl (by kernel_rfl) (fun _ _ _ h => h) hss (fun _ h => r_move rfl) rfl ?_
            refine dt 1 rfl (by kernel_rfl) (fun _ _ _ h => h) hss (fun _ h => r_loadN (m := 2) rfl (by kernel_rfl) rfl (h.box (.head _)) rfl rfl) rfl ?_
            refine dt 2 rfl (by kernel_rfl) (fun _ _ _ h => h) hss (fun _ h => r_move rfl) rfl ?_
            refine dt 3 rfl (by kernel_rfl) (fun _ _ _ h => h) hss (fun _ h => r_nilCheck rfl rfl) rfl ?_
            refine dt 4 rfl (by kernel_rfl) (fun _ _ _ h => h) hss (fun _ h => (r_fieldAddr (off := 2) rfl (by kernel_rfl) rfl)) rfl ?_
            refine dt 5 rfl (by kernel_rfl) (fun _ _ _ h => h) hss (fun _ h => r_load rfl (by kernel_rfl) rfl (h.imm hbi) rfl) rfl ?_
            refine nrmD (vals := [(0, .pointer lp), (1, .agg #[kv, xv]), (2, .pointer (some ⟨b, 0, none⟩)), (4, .pointer (some ⟨b5, 0, none⟩)), (6, .pointer none), (7, .pointer (some ⟨bi, 0, none⟩)), (8, .pointer p2), (23, .bool (singleB ((l).size) (((T.node il k3 x3 ir)).size) ((o).size))), (79, .bool (!(evenB ((((l).size + 1) + (il).size)) ((((ir).size + 1) + (o).size))))), (80, .pointer lp), (81, .agg #[kv, xv]), (85, .pointer p3)]) (.cons rfl (.cons rfl (.cons rfl (.cons rfl (.cons rfl (.cons rfl (.cons rfl (.cons rfl (.cons rfl (.cons rfl (.cons rfl (.cons rfl .nil)))))))))))) fun g116 => ?_
            refine dt 7 rfl (by kernel_rfl) (fun _ _ _ h => h) hss (fun _ h => r_move rfl) rfl ?_
            refine dt 8 rfl (by kernel_rfl) (fun _ _ _ h => h) hss (fun _ h => r_nilCheck rfl rfl) rfl ?_
            refine dt 9 rfl (by kernel_rfl) (fun _ _ _ h => h) hss (fun _ h => (r_fieldAddr (off := 0) rfl (by kernel_rfl) rfl)) rfl ?_
            refine dt 10 rfl (by kernel_rfl) (fun _ _ _ h => h) hss (fun _ h => r_loadN (m := 2) rfl (by kernel_rfl) rfl (h.imm hbi) rfl rfl) rfl ?_
            refine dt 11 rfl (by kernel_rfl) (fun _ _ _ h => h) hss (fun _ h => r_move rfl) rfl ?_
            refine dt 12 rfl (by kernel_rfl) (fun _ _ _ h => h) hss (fun _ h => r_nilCheck rfl rfl) rfl ?_
            refine dt 13 rfl (by kernel_rfl) (fun _ _ _ h => h) hss (fun _ h => (r_fieldAddr (off := 3) rfl (by kernel_rfl) rfl)) rfl ?_
            refine dt 14 rfl (by kernel_rfl) (fun _ _ _ h => h) hss (fun _ h => r_load rfl (by kernel_rfl) rfl (h.imm hbi) rfl) rfl ?_
            refine dt 15 rfl (by kernel_rfl) (fun _ _ _ h => h) hss (fun _ h => r_move rfl) rfl ?_
            refine dt 16 rfl (by kernel_rfl) (fun _ _ _ h => h) hss (fun _ h => r_nilCheck rfl rfl) rfl ?_
            refine dt 17 rfl (by kernel_rfl) (fun _ _ _ h => h) hss (fun _ h => (r_fieldAddr (off := 0) rfl (by kernel_rfl) rfl)) rfl ?_
            refine dt 18 rfl (by kernel_rfl) (fun _ _ _ h => h) hss (fun _ h => r_loadN (m := 2) rfl (by kernel_rfl) rfl (h.imm hb) rfl rfl) rfl ?_
            refine dt 19 rfl (by kernel_rfl) (fun _ _ _ h => h) hss (fun _ h => r_move rfl) rfl ?_
            refine nrmD (vals := [(0, .pointer lp), (1, .agg #[kv, xv]), (2, .pointer (some ⟨b, 0, none⟩)), (4, .pointer (some ⟨b5, 0, none⟩)), (6, .pointer none), (7, .pointer (some ⟨bi, 0, none⟩)), (8, .pointer p2), (23, .bool (singleB ((l).size) (((T.node il k3 x3 ir)).size) ((o).size))), (79, .bool (!(evenB ((((l).size + 1) + (il).size)) ((((ir).size + 1) + (o).size))))), (80, .pointer lp), (81, .agg #[kv, xv]), (85, .pointer p3), (90, .agg #[kv3, xv3]), (94, .pointer p4), (98, .agg #[kv2, xv2]), (99, .pointer p2)]) (.cons rfl (.cons rfl (.cons rfl (.cons rfl (.cons rfl (.cons rfl (.cons rfl (.cons rfl (.cons rfl (.cons rfl (.cons rfl (.cons rfl (.cons rfl (.cons rfl (.cons rfl (.cons rfl .nil)))))))))))))))) fun g117 => ?_
            refine dro 6 (by kernel_rfl) rfl (ow_call (X := []) (L := [⟨b5, #[kv, xv], 56⟩]) (lb := []) hs115 (node_ok hl h3 hk hx (by simp only [T.size] at *; omega)) (by kernel_rfl) rfl rfl rfl rfl rfl ?_)
            rintro _ G3 X1 w120 ⟨p118, rfl, ht119⟩ le123 hs121 hid122
            obtain rfl : X1 = [] := List.map_eq_nil_iff.1 hid122
            replace hs121 : St w0 I (ids []) G3 [⟨b5, #[kv, xv], 56⟩] w120 := hs121
            clear hs115 hid122
            replace hss := hs121.ss (I := I) le123 (fun _ h => h)
            refine ⟨hss, ?_⟩
            refine dro 20 (by kernel_rfl) rfl (ow_call (X := []) (L := [⟨b5, #[kv, xv], 56⟩]) (lb := []) hs121 (node_ok (h4.up le123) (h2.up le123) (hk2.up le123) (hx2.up le123) (by simp only [T.size] at *; omega)) (by kernel_rfl) rfl rfl rfl rfl rfl ?_)
            rintro _ G4 X1 w126 ⟨p124, rfl, ht125⟩ le129 hs127 hid128
            obtain rfl : X1 = [] := List.map_eq_nil_iff.1 hid128
            replace hs127 : St w0 I (ids []) G4 [⟨b5, #[kv, xv], 56⟩] w126 := hs127
            clear hs121 hid128
            replace hss := hs127.ss (I := I) (le123.trans le129) (fun _ h => h)
            refine ⟨hss, ?_⟩
            refine dro 21 (by kernel_rfl) rfl (ow_call (X := []) (L := [⟨b5, #[kv, xv], 56⟩]) (lb := []) hs127 (node_ok (ht119.up le129) ht125 (hk3.up (le123.trans le129)) (hx3.up (le123.trans le129)) (by simp only [T.size] at *; omega)) (by kernel_rfl) rfl rfl rfl rfl rfl ?_)
            rintro _ G5 X1 w132 ⟨p130, rfl, ht131⟩ le135 hs133 hid134
            obtain rfl : X1 = [] := List.map_eq_nil_iff.1 hid134
            replace hs133 : St w0 I (ids []) G5 [⟨b5, #[kv, xv], 56⟩] w132 := hs133
            clear hs127 hid134
            replace hss := hs133.ss (I := I) ((le123.trans le129).trans le135) (fun _ h => h)
            refine ⟨hss, ?_⟩
            refine dt 22 rfl (by kernel_rfl) (fun _ _ _ h => h) hss (fun _ h => r_assign rfl) rfl ?_
            refine draw_done (by kernel_rfl) ?_
            refine hK114 _ _ ?_; clear hK114 K113
            refine wp_ret ?_
            exact leave (X' := []) (L := [⟨b5, #[kv, xv], 56⟩]) hs133 rfl (res_one (v := .pointer p130) rfl (.tmp rfl rfl .nil)) ⟨_, rfl, fun h => (by obtain ⟨_, _, _, _, _, rfl, _⟩ := ht131; cases h), fun _ => ⟨_, (by simp [T.turnL, h108, h112, h35, h68, h74, h84, h90]), ht131⟩⟩
set_option maxRecDepth 100000 in
theorem turnR_ok {I : GH} {lp rp : Option Addr} {l r : T} {kv xv : Value} {k x : Bs} (hl : TreeAt I lp l) (hr : TreeAt I rp r) (hk : BytesAt I kv k) (hx : BytesAt I xv x) (hsz : l.size + 1 + r.size ≤ 1000000) (hne : l ≠ T.nil) :
    Fn Tryd.prog 162 #[.pointer lp, .agg #[kv, xv], .pointer rp] I [] (fun v J _ => ∃ p, v = .pointer p ∧ (p.isNone = true → T.turnR r k x l = none) ∧ (p.isNone = false → ∃ t, T.turnR r k x l = some t ∧ TreeAt J p t)) := by
  cases l with
  | nil => cases hne rfl
  | node o k2 x2 i =>
  obtain ⟨b, kv2, xv2, p1, p2, rfl, hb, hk2, hx2, h1, h2⟩ := hl
  simp only [T.size] at hsz
  generalize hs2 : o.size + 1 + i.size = sz2 at hb
  cases i with
  | nil =>
    obtain rfl : p2 = none := h2
    refine enter (args := [.pointer (some ⟨b, 0, none⟩), .agg #[kv, xv], .pointer rp]) Tryd.func162 rfl rfl fun w0 hs0 => ?_
    refine wp_seq_k fun K1 hK2 => ?_
    refine wl_begin ?_
    refine sqo rfl fun K3 hK4 => ow_newbox (mk := fun b => .pointer (some ⟨b, 0, none⟩)) hs0 (r_box rfl rfl) rfl ?_
    rintro b5 w6 (hs7 : St w0 I (ids []) I [⟨b5, #[kv, xv], 56⟩] w6)
    clear hs0
    refine hK4 _ _ ?_; clear hK4 K3
    refine sq (r_assign rfl) rfl ?_
    refine wl_nil ?_
    refine hK2 _ _ ?_; clear hK2 K1
    refine wp_seq_k fun K8 hK9 => ?_
    refine draw_begin (S := SS I [⟨b5, #[kv, xv], 56⟩]) (by kernel_rfl) ?_
    have hs10 := hs7.drew; clear hs7
    have hss := hs10.ss (I := I) (GH.le.refl _) (fun _ h => h)
    refine dt 0 rfl (by kernel_rfl) (fun _ _ _ h => h) hss (fun _ h => r_move rfl) rfl ?_
    refine dt 1 rfl (by kernel_rfl) (fun _ _ _ h => h) hss (fun _ h => r_nilCheck rfl rfl) rfl ?_
    refine dt 2 rfl (by kernel_rfl) (fun _ _ _ h => h) hss (fun _ h => (r_fieldAddr (off := 3) rfl (by kernel_rfl) rfl)) rfl ?_
    refine dt 3 rfl (by kernel_rfl) (fun _ _ _ h => h) hss (fun _ h => r_load rfl (by kernel_rfl) rfl (h.imm hb) rfl) rfl ?_
    refine dt 4 rfl (by kernel_rfl) (fun _ _ _ h => h) hss (fun _ h => r_move rfl) rfl ?_
    refine dt 5 rfl (by kernel_rfl) (fun _ _ _ h => h) hss (fun _ h => r_nilCheck rfl rfl) rfl ?_
    refine dt 6 rfl (by kernel_rfl) (fun _ _ _ h => h) hss (fun _ h => (r_fieldAddr (off := 2) rfl (by kernel_rfl) rfl)) rfl ?_
    refine dt 7 rfl (by kernel_rfl) (fun _ _ _ h => h) hss (fun _ h => r_load rfl (by kernel_rfl) rfl (h.imm hb) rfl) rfl ?_
    refine dt 8 rfl (by kernel_rfl) (fun _ _ _ h => h) hss (fun _ h => r_assign rfl) rfl ?_
    refine dt 9 rfl (by kernel_rfl) (fun _ _ _ h => h) hss (fun _ h => r_assign rfl) rfl ?_
    refine draw_done (by kernel_rfl) ?_
    refine hK9 _ _ ?_; clear hK9 K8
    refine wp_seq_k fun K11 hK12 => ?_
    refine wp_seq_k fun K13 hK14 => ?_
    refine wl_begin ?_
    refine sq (r_move rfl) rfl ?_
    refine sqo rfl fun K15 hK16 => ow_call (X := []) (L := [⟨b5, #[kv, xv], 56⟩]) (lb := []) hs10 (tsize_ok hr) (by kernel_rfl) rfl rfl rfl rfl rfl ?_
    rintro _ _ X1 w17 ⟨rfl, rfl⟩ - hs18 hid19
    obtain rfl : X1 = [] := List.map_eq_nil_iff.1 hid19
    replace hs18 : St w0 I (ids []) I [⟨b5, #[kv, xv], 56⟩] w17 := hs18
    clear hs10 hid19
    refine hK16 _ _ ?_; clear hK16 K15
    refine sq (r_move rfl) rfl ?_
    refine sqo rfl fun K20 hK21 => ow_call (X := []) (L := [⟨b5, #[kv, xv], 56⟩]) (lb := []) hs18 (tsize_nil _) (by kernel_rfl) rfl rfl rfl rfl rfl ?_
    rintro _ _ X1 w22 ⟨rfl, rfl⟩ - hs23 hid24
    obtain rfl : X1 = [] := List.map_eq_nil_iff.1 hid24
    replace hs23 : St w0 I (ids []) I [⟨b5, #[kv, xv], 56⟩] w22 := hs23
    clear hs18 hid24
    refine hK21 _ _ ?_; clear hK21 K20
    refine sq (r_move rfl) rfl ?_
    refine sqo rfl fun K25 hK26 => ow_call (X := []) (L := [⟨b5, #[kv, xv], 56⟩]) (lb := []) hs23 (tsize_ok h1) (by kernel_rfl) rfl rfl rfl rfl rfl ?_
    rintro _ _ X1 w27 ⟨rfl, rfl⟩ - hs28 hid29
    obtain rfl : X1 = [] := List.map_eq_nil_iff.1 hid29
    replace hs28 : St w0 I (ids []) I [⟨b5, #[kv, xv], 56⟩] w27 := hs28
    clear hs23 hid29
    refine hK26 _ _ ?_; clear hK26 K25
    refine sqo rfl fun K30 hK31 => ow_call (X := []) (L := [⟨b5, #[kv, xv], 56⟩]) (lb := []) hs28 (wSingle_ok (l := (r).size) (i := 0) (o := (o).size) rfl rfl rfl (by (try simp only [T.size] at *); omega)) (by kernel_rfl) rfl rfl rfl rfl rfl ?_
    rintro _ _ X1 w32 ⟨rfl, rfl⟩ - hs33 hid34
    obtain rfl : X1 = [] := List.map_eq_nil_iff.1 hid34
    replace hs33 : St w0 I (ids []) I [⟨b5, #[kv, xv], 56⟩] w32 := hs33
    clear hs28 hid34
    refine hK31 _ _ ?_; clear hK31 K30
    refine wl_nil ?_
    refine hK14 _ _ ?_; clear hK14 K13
    refine condS rfl rfl (fun h35 => ?_) (fun h35 => ?_)
    ·
      refine wp_seq_k fun K36 hK37 => ?_
      refine nrm (vals := [(0, .pointer (some ⟨b, 0, none⟩)), (1, .agg #[kv, xv]), (2, .pointer rp), (4, .pointer (some ⟨b5, 0, none⟩)), (6, .pointer none), (7, .pointer none), (8, .pointer p1), (23, .bool (singleB ((r).size) (0) ((o).size)))]) (.cons rfl (.cons rfl (.cons rfl (.cons rfl (.cons rfl (.cons rfl (.cons rfl (.cons rfl .nil)))))))) fun g38 => ?_
      refine draw_begin (S := SS I [⟨b5, #[kv, xv], 56⟩]) (by kernel_rfl) ?_
      have hs39 := hs33.drew; clear hs33
      have hss := hs39.ss (I := I) (GH.le.refl _) (fun _ h => h)
      refine dt 0 rfl (by kernel_rfl) (fun _ _ _ h => h) hss (fun _ h => r_move rfl) rfl ?_
      refine dt 1 rfl (by kernel_rfl) (fun _ _ _ h => h) hss (fun _ h => r_move rfl) rfl ?_
      refine dt 2 rfl (by kernel_rfl) (fun _ _ _ h => h) hss (fun _ h => r_nilCheck rfl rfl) rfl ?_
      refine dt 3 rfl (by kernel_rfl) (fun _ _ _ h => h) hss (fun _ h => (r_fieldAddr (off := 0) rfl (by kernel_rfl) rfl)) rfl ?_
      refine dt 4 rfl (by kernel_rfl) (fun _ _ _ h => h) hss (fun _ h => r_loadN (m := 2) rfl (by kernel_rfl) rfl (h.imm hb) rfl rfl) rfl ?_
      refine dt 5 rfl (by kernel_rfl) (fun _ _ _ h => h) hss (fun _ h => r_move rfl) rfl ?_
      refine dt 6 rfl (by kernel_rfl) (fun _ _ _ h => h) hss (fun _ h => r_loadN (m := 2) rfl (by kernel_rfl) rfl (h.box (.head _)) rfl rfl) rfl ?_
      refine dt 7 rfl (by kernel_rfl) (fun _ _ _ h => h) hss (fun _ h => r_move rfl) rfl ?_
      refine dro 8 (by kernel_rfl) rfl (ow_call (X := []) (L := [⟨b5, #[kv, xv], 56⟩]) (lb := []) hs39 (node_ok (TreeAt.nil _) hr hk hx (by simp only [T.size] at *; omega)) (by kernel_rfl) rfl rfl rfl rfl rfl ?_)
      rintro _ G1 X1 w42 ⟨p40, rfl, ht41⟩ le45 hs43 hid44
      obtain rfl : X1 = [] := List.map_eq_nil_iff.1 hid44
      replace hs43 : St w0 I (ids []) G1 [⟨b5, #[kv, xv], 56⟩] w42 := hs43
      clear hs39 hid44
      replace hss := hs43.ss (I := I) le45 (fun _ h => h)
      refine ⟨hss, ?_⟩
      refine dro 9 (by kernel_rfl) rfl (ow_call (X := []) (L := [⟨b5, #[kv, xv], 56⟩]) (lb := []) hs43 (node_ok (h1.up le45) ht41 (hk2.up le45) (hx2.up le45) (by simp only [T.size] at *; omega)) (by kernel_rfl) rfl rfl rfl rfl rfl ?_)
      rintro _ G2 X1 w48 ⟨p46, rfl, ht47⟩ le51 hs49 hid50
      obtain rfl : X1 = [] := List.map_eq_nil_iff.1 hid50
      replace hs49 : St w0 I (ids []) G2 [⟨b5, #[kv, xv], 56⟩] w48 := hs49
      clear hs43 hid50
      replace hss := hs49.ss (I := I) (le45.trans le51) (fun _ h => h)
      refine ⟨hss, ?_⟩
      refine dt 10 rfl (by kernel_rfl) (fun _ _ _ h => h) hss (fun _ h => r_assign rfl) rfl ?_
      refine draw_done (by kernel_rfl) ?_
      refine hK37 _ _ ?_; clear hK37 K36
      refine wp_ret ?_
      exact leave (X' := []) (L := [⟨b5, #[kv, xv], 56⟩]) hs49 rfl (res_one (v := .pointer p46) rfl (.tmp rfl rfl .nil)) ⟨_, rfl, fun h => (by obtain ⟨_, _, _, _, _, rfl, _⟩ := ht47; cases h), fun _ => ⟨_, (by simp [T.turnR, T.size, h35]), ht47⟩⟩
    ·
      refine wp_skip ?_
      refine hK12 _ _ ?_; clear hK12 K11
      refine wp_seq_k fun K52 hK53 => ?_
      refine wp_seq_k fun K54 hK55 => ?_
      refine nrm (vals := [(0, .pointer (some ⟨b, 0, none⟩)), (1, .agg #[kv, xv]), (2, .pointer rp), (4, .pointer (some ⟨b5, 0, none⟩)), (6, .pointer none), (7, .pointer none), (8, .pointer p1), (23, .bool (singleB ((r).size) (0) ((o).size)))]) (.cons rfl (.cons rfl (.cons rfl (.cons rfl (.cons rfl (.cons rfl (.cons rfl (.cons rfl .nil)))))))) fun g56 => ?_
      refine draw_begin (S := SS I [⟨b5, #[kv, xv], 56⟩]) (by kernel_rfl) ?_
      have hs57 := hs33.drew; clear hs33
      have hss := hs57.ss (I := I) (GH.le.refl _) (fun _ h => h)
      refine dt 0 rfl (by kernel_rfl) (fun _ _ _ h => h) hss (fun _ h => r_move rfl) rfl ?_
      refine dt 1 rfl (by kernel_rfl) (fun _ _ _ h => h) hss (fun _ h => (r_eqp rfl rfl (by kernel_rfl) rfl rfl)) rfl ?_
      refine dt 2 rfl (by kernel_rfl) (fun _ _ _ h => h) hss (fun _ h => r_move rfl) rfl ?_
      refine dtN 3 rfl (wantedF rfl rfl rfl rfl) (by kernel_rfl) (fun _ _ _ h => h) hss rfl ?_
      refine dtN 4 rfl (wantedF rfl rfl rfl rfl) (by kernel_rfl) (fun _ _ _ h => h) hss rfl ?_
      refine dtN 5 rfl (wantedF rfl rfl rfl rfl) (by kernel_rfl) (fun _ _ _ h => h) hss rfl ?_
      refine dtN 6 rfl (wantedF rfl rfl rfl rfl) (by kernel_rfl) (fun _ _ _ h => h) hss rfl ?_
      refine dtN 7 rfl (wantedF rfl rfl rfl rfl) (by kernel_rfl) (fun _ _ _ h => h) hss rfl ?_
      refine dtN 8 rfl (wantedF rfl rfl rfl rfl) (by kernel_rfl) (fun _ _ _ h => h) hss rfl ?_
      refine dtN 9 rfl (wantedF rfl rfl rfl rfl) (by kernel_rfl) (fun _ _ _ h => h) hss rfl ?_
      refine dtN 10 rfl (wantedF rfl rfl rfl rfl) (by kernel_rfl) (fun _ _ _ h => h) hss rfl ?_
      refine dtN 11 rfl (wantedF rfl rfl rfl rfl) (by kernel_rfl) (fun _ _ _ h => h) hss rfl ?_
      refine dt 12 rfl (by kernel_rfl) (fun _ _ _ h => h) hss (fun _ h => (r_pick rfl rfl rfl rfl)) rfl ?_
      refine nrmD (vals := [(0, .pointer (some ⟨b, 0, none⟩)), (1, .agg #[kv, xv]), (2, .pointer rp), (4, .pointer (some ⟨b5, 0, none⟩)), (6, .pointer none), (7, .pointer none), (8, .pointer p1), (23, .bool (singleB ((r).size) (0) ((o).size))), (46, .bool true)]) (.cons rfl (.cons rfl (.cons rfl (.cons rfl (.cons rfl (.cons rfl (.cons rfl (.cons rfl (.cons rfl .nil))))))))) fun g58 => ?_
      refine dt 13 rfl (by kernel_rfl) (fun _ _ _ h => h) hss (fun _ h => r_move rfl) rfl ?_
      refine dtN 14 rfl (wantedF rfl rfl rfl rfl) (by kernel_rfl) (fun _ _ _ h => h) hss rfl ?_
      refine dtN 15 rfl (wantedF rfl rfl rfl rfl) (by kernel_rfl) (fun _ _ _ h => h) hss rfl ?_
      refine dtN 16 rfl (wantedF rfl rfl rfl rfl) (by kernel_rfl) (fun _ _ _ h => h) hss rfl ?_
      refine dtN 17 rfl (wantedF rfl rfl rfl rfl) (by kernel_rfl) (fun _ _ _ h => h) hss rfl ?_
      refine dtN 18 rfl (wantedF rfl rfl rfl rfl) (by kernel_rfl) (fun _ _ _ h => h) hss rfl ?_
      refine dtN 19 rfl (wantedF rfl rfl rfl rfl) (by kernel_rfl) (fun _ _ _ h => h) hss rfl ?_
      refine dtN 20 rfl (wantedF rfl rfl rfl rfl) (by kernel_rfl) (fun _ _ _ h => h) hss rfl ?_
      refine dtN 21 rfl (wantedF rfl rfl rfl rfl) (by kernel_rfl) (fun _ _ _ h => h) hss rfl ?_
      refine dtN 22 rfl (wantedF rfl rfl rfl rfl) (by kernel_rfl) (fun _ _ _ h => h) hss rfl ?_
      refine dt 23 rfl (by kernel_rfl) (fun _ _ _ h => h) hss (fun _ h => (r_pick rfl rfl rfl rfl)) rfl ?_
      refine dt 24 rfl (by kernel_rfl) (fun _ _ _ h => h) hss (fun _ h => r_move rfl) rfl ?_
      refine dtN 25 rfl (wantedF rfl rfl rfl rfl) (by kernel_rfl) (fun _ _ _ h => h) hss rfl ?_
      refine nrmD (vals := [(0, .pointer (some ⟨b, 0, none⟩)), (1, .agg #[kv, xv]), (2, .pointer rp), (4, .pointer (some ⟨b5, 0, none⟩)), (6, .pointer none), (7, .pointer none), (8, .pointer p1), (23, .bool (singleB ((r).size) (0) ((o).size))), (58, .bool true), (59, undef)]) (.cons rfl (.cons rfl (.cons rfl (.cons rfl (.cons rfl (.cons rfl (.cons rfl (.cons rfl (.cons rfl (.cons rfl .nil)))))))))) fun g59 => ?_
      refine dtN 26 rfl (wantedF rfl rfl rfl rfl) (by kernel_rfl) (fun _ _ _ h => h) hss rfl ?_
      refine dtN 27 rfl (wantedF rfl rfl rfl rfl) (by kernel_rfl) (fun _ _ _ h => h) hss rfl ?_
      refine dtN 28 rfl (wantedF rfl rfl rfl rfl) (by kernel_rfl) (fun _ _ _ h => h) hss rfl ?_
      refine dtN 29 rfl (wantedF rfl rfl rfl rfl) (by kernel_rfl) (fun _ _ _ h => h) hss rfl ?_
      refine dtN 30 rfl (wantedF rfl rfl rfl rfl) (by kernel_rfl) (fun _ _ _ h => h) hss rfl ?_
      refine dtN 31 rfl (wantedF rfl rfl rfl rfl) (by kernel_rfl) (fun _ _ _ h => h) hss rfl ?_
      refine dtN 32 rfl (wantedF rfl rfl rfl rfl) (by kernel_rfl) (fun _ _ _ h => h) hss rfl ?_
      refine dtN 33 rfl (wantedF rfl rfl rfl rfl) (by kernel_rfl) (fun _ _ _ h => h) hss rfl ?_
      refine dtN 34 rfl (wantedF rfl rfl rfl rfl) (by kernel_rfl) (fun _ _ _ h => h) hss rfl ?_
      refine dtN 35 rfl (wantedF rfl rfl rfl rfl) (by kernel_rfl) (fun _ _ _ h => h) hss rfl ?_
      refine dtN 36 rfl (wantedF rfl rfl rfl rfl) (by kernel_rfl) (fun _ _ _ h => h) hss rfl ?_
      refine dtN 37 rfl (wantedF rfl rfl rfl rfl) (by kernel_rfl) (fun _ _ _ h => h) hss rfl ?_
      refine dtN 38 rfl (wantedF rfl rfl rfl rfl) (by kernel_rfl) (fun _ _ _ h => h) hss rfl ?_
      refine nrmD (vals := [(0, .pointer (some ⟨b, 0, none⟩)), (1, .agg #[kv, xv]), (2, .pointer rp), (4, .pointer (some ⟨b5, 0, none⟩)), (6, .pointer none), (7, .pointer none), (8, .pointer p1), (23, .bool (singleB ((r).size) (0) ((o).size))), (58, .bool true), (67, undef), (72, undef)]) (.cons rfl (.cons rfl (.cons rfl (.cons rfl (.cons rfl (.cons rfl (.cons rfl (.cons rfl (.cons rfl (.cons rfl (.cons rfl .nil))))))))))) fun g60 => ?_
      refine dtN 39 rfl (wantedF rfl rfl rfl rfl) (by kernel_rfl) (fun _ _ _ h => h) hss rfl ?_
      refine dtN 40 rfl (wantedF rfl rfl rfl rfl) (by kernel_rfl) (fun _ _ _ h => h) hss rfl ?_
      refine dtN 41 rfl (wantedF rfl rfl rfl rfl) (by kernel_rfl) (fun _ _ _ h => h) hss rfl ?_
      refine dtN 42 rfl (wantedF rfl rfl rfl rfl) (by kernel_rfl) (fun _ _ _ h => h) hss rfl ?_
      refine dtN 43 rfl (wantedF rfl rfl rfl rfl) (by kernel_rfl) (fun _ _ _ h => h) hss rfl ?_
      refine dtN 44 rfl (wantedF rfl rfl rfl rfl) (by kernel_rfl) (fun _ _ _ h => h) hss rfl ?_
      refine dt 45 rfl (by kernel_rfl) (fun _ _ _ h => h) hss (fun _ h => (r_pick rfl rfl rfl rfl)) rfl ?_
      refine draw_done (by kernel_rfl) ?_
      refine hK55 _ _ ?_; clear hK55 K54
      refine condT rfl rfl ?_
      refine wp_seq_k fun K61 hK62 => ?_
      refine wl_begin ?_
      refine sq (r_assign rfl) rfl ?_
      refine wl_nil ?_
      refine hK62 _ _ ?_; clear hK62 K61
      refine wp_ret ?_
      exact leave (X' := []) (L := [⟨b5, #[kv, xv], 56⟩]) hs57 rfl (res_one (v := .pointer none) rfl (.tmp rfl rfl .nil)) ⟨none, rfl, fun _ => (by simp [T.turnR, T.size, h35]), fun h => by cases h⟩
  | node il k3 x3 ir =>
    have h2' := h2
    obtain ⟨bi, kv3, xv3, p3, p4, rfl, hbi, hk3, hx3, h3, h4⟩ := h2'
    simp only [T.size] at hsz hs2
    generalize hs3 : il.size + 1 + ir.size = sz3 at hbi
    refine enter (args := [.pointer (some ⟨b, 0, none⟩), .agg #[kv, xv], .pointer rp]) Tryd.func162 rfl rfl fun w0 hs0 => ?_
    refine wp_seq_k fun K1 hK2 => ?_
    refine wl_begin ?_
    refine sqo rfl fun K3 hK4 => ow_newbox (mk := fun b => .pointer (some ⟨b, 0, none⟩)) hs0 (r_box rfl rfl) rfl ?_
    rintro b5 w6 (hs7 : St w0 I (ids []) I [⟨b5, #[kv, xv], 56⟩] w6)
    clear hs0
    refine hK4 _ _ ?_; clear hK4 K3
    refine sq (r_assign rfl) rfl ?_
    refine wl_nil ?_
    refine hK2 _ _ ?_; clear hK2 K1
    refine wp_seq_k fun K8 hK9 => ?_
    refine draw_begin (S := SS I [⟨b5, #[kv, xv], 56⟩]) (by kernel_rfl) ?_
    have hs10 := hs7.drew; clear hs7
    have hss := hs10.ss (I := I) (GH.le.refl _) (fun _ h => h)
    refine dt 0 rfl (by kernel_rfl) (fun _ _ _ h => h) hss (fun _ h => r_move rfl) rfl ?_
    refine dt 1 rfl (by kernel_rfl) (fun _ _ _ h => h) hss (fun _ h => r_nilCheck rfl rfl) rfl ?_
    refine dt 2 rfl (by kernel_rfl) (fun _ _ _ h => h) hss (fun _ h => (r_fieldAddr (off := 3) rfl (by kernel_rfl) rfl)) rfl ?_
    refine dt 3 rfl (by kernel_rfl) (fun _ _ _ h => h) hss (fun _ h => r_load rfl (by kernel_rfl) rfl (h.imm hb) rfl) rfl ?_
    refine dt 4 rfl (by kernel_rfl) (fun _ _ _ h => h) hss (fun _ h => r_move rfl) rfl ?_
    refine dt 5 rfl (by kernel_rfl) (fun _ _ _ h => h) hss (fun _ h => r_nilCheck rfl rfl) rfl ?_
    refine dt 6 rfl (by kernel_rfl) (fun _ _ _ h => h) hss (fun _ h => (r_fieldAddr (off := 2) rfl (by kernel_rfl) rfl)) rfl ?_
    refine dt 7 rfl (by kernel_rfl) (fun _ _ _ h => h) hss (fun _ h => r_load rfl (by kernel_rfl) rfl (h.imm hb) rfl) rfl ?_
    refine dt 8 rfl (by kernel_rfl) (fun _ _ _ h => h) hss (fun _ h => r_assign rfl) rfl ?_
    refine dt 9 rfl (by kernel_rfl) (fun _ _ _ h => h) hss (fun _ h => r_assign rfl) rfl ?_
    refine draw_done (by kernel_rfl) ?_
    refine hK9 _ _ ?_; clear hK9 K8
    refine wp_seq_k fun K11 hK12 => ?_
    refine wp_seq_k fun K13 hK14 => ?_
    refine wl_begin ?_
    refine sq (r_move rfl) rfl ?_
    refine sqo rfl fun K15 hK16 => ow_call (X := []) (L := [⟨b5, #[kv, xv], 56⟩]) (lb := []) hs10 (tsize_ok hr) (by kernel_rfl) rfl rfl rfl rfl rfl ?_
    rintro _ _ X1 w17 ⟨rfl, rfl⟩ - hs18 hid19
    obtain rfl : X1 = [] := List.map_eq_nil_iff.1 hid19
    replace hs18 : St w0 I (ids []) I [⟨b5, #[kv, xv], 56⟩] w17 := hs18
    clear hs10 hid19
    refine hK16 _ _ ?_; clear hK16 K15
    refine sq (r_move rfl) rfl ?_
    refine sqo rfl fun K20 hK21 => ow_call (X := []) (L := [⟨b5, #[kv, xv], 56⟩]) (lb := []) hs18 (tsize_ok h2) (by kernel_rfl) rfl rfl rfl rfl rfl ?_
    rintro _ _ X1 w22 ⟨rfl, rfl⟩ - hs23 hid24
    obtain rfl : X1 = [] := List.map_eq_nil_iff.1 hid24
    replace hs23 : St w0 I (ids []) I [⟨b5, #[kv, xv], 56⟩] w22 := hs23
    clear hs18 hid24
    refine hK21 _ _ ?_; clear hK21 K20
    refine sq (r_move rfl) rfl ?_
    refine sqo rfl fun K25 hK26 => ow_call (X := []) (L := [⟨b5, #[kv, xv], 56⟩]) (lb := []) hs23 (tsize_ok h1) (by kernel_rfl) rfl rfl rfl rfl rfl ?_
    rintro _ _ X1 w27 ⟨rfl, rfl⟩ - hs28 hid29
    obtain rfl : X1 = [] := List.map_eq_nil_iff.1 hid29
    replace hs28 : St w0 I (ids []) I [⟨b5, #[kv, xv], 56⟩] w27 := hs28
    clear hs23 hid29
    refine hK26 _ _ ?_; clear hK26 K25
    refine sqo rfl fun K30 hK31 => ow_call (X := []) (L := [⟨b5, #[kv, xv], 56⟩]) (lb := []) hs28 (wSingle_ok (l := (r).size) (i := ((T.node il k3 x3 ir)).size) (o := (o).size) rfl rfl rfl (by (try simp only [T.size] at *); omega)) (by kernel_rfl) rfl rfl rfl rfl rfl ?_
    rintro _ _ X1 w32 ⟨rfl, rfl⟩ - hs33 hid34
    obtain rfl : X1 = [] := List.map_eq_nil_iff.1 hid34
    replace hs33 : St w0 I (ids []) I [⟨b5, #[kv, xv], 56⟩] w32 := hs33
    clear hs28 hid34
    refine hK31 _ _ ?_; clear hK31 K30
    refine wl_nil ?_
    refine hK14 _ _ ?_; clear hK14 K13
    refine condS rfl rfl (fun h35 => ?_) (fun h35 => ?_)
    ·
      refine wp_seq_k fun K36 hK37 => ?_
      refine nrm (vals := [(0, .pointer (some ⟨b, 0, none⟩)), (1, .agg #[kv, xv]), (2, .pointer rp), (4, .pointer (some ⟨b5, 0, none⟩)), (6, .pointer none), (7, .pointer (some ⟨bi, 0, none⟩)), (8, .pointer p1), (23, .bool (singleB ((r).size) (((T.node il k3 x3 ir)).size) ((o).size)))]) (.cons rfl (.cons rfl (.cons rfl (.cons rfl (.cons rfl (.cons rfl (.cons rfl (.cons rfl .nil)))))))) fun g38 => ?_
      refine draw_begin (S := SS I [⟨b5, #[kv, xv], 56⟩]) (by kernel_rfl) ?_
      have hs39 := hs33.drew; clear hs33
      have hss := hs39.ss (I := I) (GH.le.refl _) (fun _ h => h)
      refine dt 0 rfl (by kernel_rfl) (fun _ _ _ h => h) hss (fun _ h => r_move rfl) rfl ?_
      refine dt 1 rfl (by kernel_rfl) (fun _ _ _ h => h) hss (fun _ h => r_move rfl) rfl ?_
      refine dt 2 rfl (by kernel_rfl) (fun _ _ _ h => h) hss (fun _ h => r_nilCheck rfl rfl) rfl ?_
      refine dt 3 rfl (by kernel_rfl) (fun _ _ _ h => h) hss (fun _ h => (r_fieldAddr (off := 0) rfl (by kernel_rfl) rfl)) rfl ?_
      refine dt 4 rfl (by kernel_rfl) (fun _ _ _ h => h) hss (fun _ h => r_loadN (m := 2) rfl (by kernel_rfl) rfl (h.imm hb) rfl rfl) rfl ?_
      refine dt 5 rfl (by kernel_rfl) (fun _ _ _ h => h) hss (fun _ h => r_move rfl) rfl ?_
      refine dt 6 rfl (by kernel_rfl) (fun _ _ _ h => h) hss (fun _ h => r_loadN (m := 2) rfl (by kernel_rfl) rfl (h.box (.head _)) rfl rfl) rfl ?_
      refine dt 7 rfl (by kernel_rfl) (fun _ _ _ h => h) hss (fun _ h => r_move rfl) rfl ?_
      refine dro 8 (by kernel_rfl) rfl (ow_call (X := []) (L := [⟨b5, #[kv, xv], 56⟩]) (lb := []) hs39 (node_ok h2 hr hk hx (by simp only [T.size] at *; omega)) (by kernel_rfl) rfl rfl rfl rfl rfl ?_)
      rintro _ G1 X1 w42 ⟨p40, rfl, ht41⟩ le45 hs43 hid44
      obtain rfl : X1 = [] := List.map_eq_nil_iff.1 hid44
      replace hs43 : St w0 I (ids []) G1 [⟨b5, #[kv, xv], 56⟩] w42 := hs43
      clear hs39 hid44
      replace hss := hs43.ss (I := I) le45 (fun _ h => h)
      refine ⟨hss, ?_⟩
      refine dro 9 (by kernel_rfl) rfl (ow_call (X := []) (L := [⟨b5, #[kv, xv], 56⟩]) (lb := []) hs43 (node_ok (h1.up le45) ht41 (hk2.up le45) (hx2.up le45) (by simp only [T.size] at *; omega)) (by kernel_rfl) rfl rfl rfl rfl rfl ?_)
      rintro _ G2 X1 w48 ⟨p46, rfl, ht47⟩ le51 hs49 hid50
      obtain rfl : X1 = [] := List.map_eq_nil_iff.1 hid50
      replace hs49 : St w0 I (ids []) G2 [⟨b5, #[kv, xv], 56⟩] w48 := hs49
      clear hs43 hid50
      replace hss := hs49.ss (I := I) (le45.trans le51) (fun _ h => h)
      refine ⟨hss, ?_⟩
      refine dt 10 rfl (by kernel_rfl) (fun _ _ _ h => h) hss (fun _ h => r_assign rfl) rfl ?_
      refine draw_done (by kernel_rfl) ?_
      refine hK37 _ _ ?_; clear hK37 K36
      refine wp_ret ?_
      exact leave (X' := []) (L := [⟨b5, #[kv, xv], 56⟩]) hs49 rfl (res_one (v := .pointer p46) rfl (.tmp rfl rfl .nil)) ⟨_, rfl, fun h => (by obtain ⟨_, _, _, _, _, rfl, _⟩ := ht47; cases h), fun _ => ⟨_, (by simp [T.turnR, h35]), ht47⟩⟩
    ·
      refine wp_skip ?_
      refine hK12 _ _ ?_; clear hK12 K11
      refine wp_seq_k fun K52 hK53 => ?_
      refine wp_seq_k fun K54 hK55 => ?_
      refine nrm (vals := [(0, .pointer (some ⟨b, 0, none⟩)), (1, .agg #[kv, xv]), (2, .pointer rp), (4, .pointer (some ⟨b5, 0, none⟩)), (6, .pointer none), (7, .pointer (some ⟨bi, 0, none⟩)), (8, .pointer p1), (23, .bool (singleB ((r).size) (((T.node il k3 x3 ir)).size) ((o).size)))]) (.cons rfl (.cons rfl (.cons rfl (.cons rfl (.cons rfl (.cons rfl (.cons rfl (.cons rfl .nil)))))))) fun g56 => ?_
      refine draw_begin (S := SS I [⟨b5, #[kv, xv], 56⟩]) (by kernel_rfl) ?_
      have hs57 := hs33.drew; clear hs33
      have hss := hs57.ss (I := I) (GH.le.refl _) (fun _ h => h)
      refine dt 0 rfl (by kernel_rfl) (fun _ _ _ h => h) hss (fun _ h => r_move rfl) rfl ?_
      refine dt 1 rfl (by kernel_rfl) (fun _ _ _ h => h) hss (fun _ h => (r_eqp rfl rfl (by kernel_rfl) rfl rfl)) rfl ?_
      refine dt 2 rfl (by kernel_rfl) (fun _ _ _ h => h) hss (fun _ h => r_move rfl) rfl ?_
      refine dtG 3 rfl (wantedT rfl rfl rfl rfl) (by kernel_rfl) (fun _ _ _ h => h) hss (fun _ h => r_move rfl) rfl ?_
      refine dtG 5 rfl (wantedT rfl rfl rfl rfl) (by kernel_rfl) (fun _ _ _ h => h) hss (fun _ h => r_move rfl) rfl ?_
      refine dtG 6 rfl (wantedT rfl rfl rfl rfl) (by kernel_rfl) (fun _ _ _ h => h) hss (fun _ h => r_nilCheck rfl rfl) rfl ?_
      refine dtG 7 rfl (wantedT rfl rfl rfl rfl) (by kernel_rfl) (fun _ _ _ h => h) hss (fun _ h => (r_fieldAddr (off := 3) rfl (by kernel_rfl) rfl)) rfl ?_
      refine dtG 8 rfl (wantedT rfl rfl rfl rfl) (by kernel_rfl) (fun _ _ _ h => h) hss (fun _ h => r_load rfl (by kernel_rfl) rfl (h.imm hbi) rfl) rfl ?_
      refine droG 4 (by kernel_rfl) rfl (wantedT rfl rfl rfl rfl) (ow_call (X := []) (L := [⟨b5, #[kv, xv], 56⟩]) (lb := []) hs57 (tsize_ok hr) (by kernel_rfl) rfl rfl rfl rfl rfl ?_)
      rintro _ _ X1 w58 ⟨rfl, rfl⟩ - hs59 hid60
      obtain rfl : X1 = [] := List.map_eq_nil_iff.1 hid60
      replace hs59 : St w0 I (ids []) I [⟨b5, #[kv, xv], 56⟩] w58 := hs59
      clear hs57 hid60
      replace hss := hs59.ss (I := I) (GH.le.refl _) (fun _ h => h)
      refine ⟨hss, ?_⟩
      refine droG 9 (by kernel_rfl) rfl (wantedT rfl rfl rfl rfl) (ow_call (X := []) (L := [⟨b5, #[kv, xv], 56⟩]) (lb := []) hs59 (tsize_ok h4) (by kernel_rfl) rfl rfl rfl rfl rfl ?_)
      rintro _ _ X1 w61 ⟨rfl, rfl⟩ - hs62 hid63
      obtain rfl : X1 = [] := List.map_eq_nil_iff.1 hid63
      replace hs62 : St w0 I (ids []) I [⟨b5, #[kv, xv], 56⟩] w61 := hs62
      clear hs59 hid63
      replace hss := hs62.ss (I := I) (GH.le.refl _) (fun _ h => h)
      refine ⟨hss, ?_⟩
      refine droG 10 (by kernel_rfl) rfl (wantedT rfl rfl rfl rfl) (ow_call (X := []) (L := [⟨b5, #[kv, xv], 56⟩]) (lb := []) hs62 (wEven_ok (l := (r).size) (r := (ir).size) rfl rfl (by (try simp only [T.size] at *); omega) (by (try simp only [T.size] at *); omega)) (by kernel_rfl) rfl rfl rfl rfl rfl ?_)
      rintro _ _ X1 w64 ⟨rfl, rfl⟩ - hs65 hid66
      obtain rfl : X1 = [] := List.map_eq_nil_iff.1 hid66
      replace hs65 : St w0 I (ids []) I [⟨b5, #[kv, xv], 56⟩] w64 := hs65
      clear hs62 hid66
      replace hss := hs65.ss (I := I) (GH.le.refl _) (fun _ h => h)
      refine ⟨hss, ?_⟩
      refine dtG 11 rfl (wantedT rfl rfl rfl rfl) (by kernel_rfl) (fun _ _ _ h => h) hss (fun _ h => r_not rfl rfl) rfl ?_
      refine dt 12 rfl (by kernel_rfl) (fun _ _ _ h => h) hss (fun _ h => (r_pick rfl rfl rfl rfl)) rfl ?_
      refine nrmD (vals := [(0, .pointer (some ⟨b, 0, none⟩)), (1, .agg #[kv, xv]), (2, .pointer rp), (4, .pointer (some ⟨b5, 0, none⟩)), (6, .pointer none), (7, .pointer (some ⟨bi, 0, none⟩)), (8, .pointer p1), (23, .bool (singleB ((r).size) (((T.node il k3 x3 ir)).size) ((o).size))), (46, .bool (!(evenB ((r).size) ((ir).size))))]) (.cons rfl (.cons rfl (.cons rfl (.cons rfl (.cons rfl (.cons rfl (.cons rfl (.cons rfl (.cons rfl .nil))))))))) fun g67 => ?_
      refine dt 13 rfl (by kernel_rfl) (fun _ _ _ h => h) hss (fun _ h => r_move rfl) rfl ?_
      refine bsplit (!(evenB ((r).size) ((ir).size))) (fun h68 => ?_) (fun h68 => ?_)
      ·
        have h69 : (evenB ((r).size) ((ir).size)) = false := by simpa using h68
        refine dtN 14 rfl (wantedF rfl rfl rfl (congrArg Value.bool h68)) (by kernel_rfl) (fun _ _ _ h => h) hss rfl ?_
        refine dtN 15 rfl (wantedF rfl rfl rfl (congrArg Value.bool h68)) (by kernel_rfl) (fun _ _ _ h => h) hss rfl ?_
        refine dtN 16 rfl (wantedF rfl rfl rfl (congrArg Value.bool h68)) (by kernel_rfl) (fun _ _ _ h => h) hss rfl ?_
        refine dtN 17 rfl (wantedF rfl rfl rfl (congrArg Value.bool h68)) (by kernel_rfl) (fun _ _ _ h => h) hss rfl ?_
        refine dtN 18 rfl (wantedF rfl rfl rfl (congrArg Value.bool h68)) (by kernel_rfl) (fun _ _ _ h => h) hss rfl ?_
        refine dtN 19 rfl (wantedF rfl rfl rfl (congrArg Value.bool h68)) (by kernel_rfl) (fun _ _ _ h => h) hss rfl ?_
        refine dtN 20 rfl (wantedF rfl rfl rfl (congrArg Value.bool h68)) (by kernel_rfl) (fun _ _ _ h => h) hss rfl ?_
        refine dtN 21 rfl (wantedF rfl rfl rfl (congrArg Value.bool h68)) (by kernel_rfl) (fun _ _ _ h => h) hss rfl ?_
        refine dtN 22 rfl (wantedF rfl rfl rfl (congrArg Value.bool h68)) (by kernel_rfl) (fun _ _ _ h => h) hss rfl ?_
        refine dt 23 rfl (by kernel_rfl) (fun _ _ _ h => h) hss (fun _ h => (r_pick rfl rfl rfl (congrArg Value.bool h68))) rfl ?_
        refine dt 24 rfl (by kernel_rfl) (fun _ _ _ h => h) hss (fun _ h => r_move rfl) rfl ?_
        refine dtN 25 rfl (wantedF rfl rfl rfl rfl) (by kernel_rfl) (fun _ _ _ h => h) hss rfl ?_
        refine nrmD (vals := [(0, .pointer (some ⟨b, 0, none⟩)), (1, .agg #[kv, xv]), (2, .pointer rp), (4, .pointer (some ⟨b5, 0, none⟩)), (6, .pointer none), (7, .pointer (some ⟨bi, 0, none⟩)), (8, .pointer p1), (23, .bool (singleB ((r).size) (((T.node il k3 x3 ir)).size) ((o).size))), (58, .bool true), (59, undef)]) (.cons rfl (.cons rfl (.cons rfl (.cons rfl (.cons rfl (.cons rfl (.cons rfl (.cons rfl (.cons rfl (.cons rfl .nil)))))))))) fun g70 => ?_
        refine dtN 26 rfl (wantedF rfl rfl rfl rfl) (by kernel_rfl) (fun _ _ _ h => h) hss rfl ?_
        refine dtN 27 rfl (wantedF rfl rfl rfl rfl) (by kernel_rfl) (fun _ _ _ h => h) hss rfl ?_
        refine dtN 28 rfl (wantedF rfl rfl rfl rfl) (by kernel_rfl) (fun _ _ _ h => h) hss rfl ?_
        refine dtN 29 rfl (wantedF rfl rfl rfl rfl) (by kernel_rfl) (fun _ _ _ h => h) hss rfl ?_
        refine dtN 30 rfl (wantedF rfl rfl rfl rfl) (by kernel_rfl) (fun _ _ _ h => h) hss rfl ?_
        refine dtN 31 rfl (wantedF rfl rfl rfl rfl) (by kernel_rfl) (fun _ _ _ h => h) hss rfl ?_
        refine dtN 32 rfl (wantedF rfl rfl rfl rfl) (by kernel_rfl) (fun _ _ _ h => h) hss rfl ?_
        refine dtN 33 rfl (wantedF rfl rfl rfl rfl) (by kernel_rfl) (fun _ _ _ h => h) hss rfl ?_
        refine dtN 34 rfl (wantedF rfl rfl rfl rfl) (by kernel_rfl) (fun _ _ _ h => h) hss rfl ?_
        refine dtN 35 rfl (wantedF rfl rfl rfl rfl) (by kernel_rfl) (fun _ _ _ h => h) hss rfl ?_
        refine dtN 36 rfl (wantedF rfl rfl rfl rfl) (by kernel_rfl) (fun _ _ _ h => h) hss rfl ?_
        refine dtN 37 rfl (wantedF rfl rfl rfl rfl) (by kernel_rfl) (fun _ _ _ h => h) hss rfl ?_
        refine dtN 38 rfl (wantedF rfl rfl rfl rfl) (by kernel_rfl) (fun _ _ _ h => h) hss rfl ?_
        refine nrmD (vals := [(0, .pointer (some ⟨b, 0, none⟩)), (1, .agg #[kv, xv]), (2, .pointer rp), (4, .pointer (some ⟨b5, 0, none⟩)), (6, .pointer none), (7, .pointer (some ⟨bi, 0, none⟩)), (8, .pointer p1), (23, .bool (singleB ((r).size) (((T.node il k3 x3 ir)).size) ((o).size))), (58, .bool true), (67, undef), (72, undef)]) (.cons rfl (.cons rfl (.cons rfl (.cons rfl (.cons rfl (.cons rfl (.cons rfl (.cons rfl (.cons rfl (.cons rfl (.cons rfl .nil))))))))))) fun g71 => ?_
        refine dtN 39 rfl (wantedF rfl rfl rfl rfl) (by kernel_rfl) (fun _ _ _ h => h) hss rfl ?_
        refine dtN 40 rfl (wantedF rfl rfl rfl rfl) (by kernel_rfl) (fun _ _ _ h => h) hss rfl ?_
        refine dtN 41 rfl (wantedF rfl rfl rfl rfl) (by kernel_rfl) (fun _ _ _ h => h) hss rfl ?_
        refine dtN 42 rfl (wantedF rfl rfl rfl rfl) (by kernel_rfl) (fun _ _ _ h => h) hss rfl ?_
        refine dtN 43 rfl (wantedF rfl rfl rfl rfl) (by kernel_rfl) (fun _ _ _ h => h) hss rfl ?_
        refine dtN 44 rfl (wantedF rfl rfl rfl rfl) (by kernel_rfl) (fun _ _ _ h => h) hss rfl ?_
        refine dt 45 rfl (by kernel_rfl) (fun _ _ _ h => h) hss (fun _ h => (r_pick rfl rfl rfl rfl)) rfl ?_
        refine draw_done (by kernel_rfl) ?_
        refine hK55 _ _ ?_; clear hK55 K54
        refine condT rfl rfl ?_
        refine wp_seq_k fun K72 hK73 => ?_
        refine wl_begin ?_
        refine sq (r_assign rfl) rfl ?_
        refine wl_nil ?_
        refine hK73 _ _ ?_; clear hK73 K72
        refine wp_ret ?_
        exact leave (X' := []) (L := [⟨b5, #[kv, xv], 56⟩]) hs65 rfl (res_one (v := .pointer none) rfl (.tmp rfl rfl .nil)) ⟨none, rfl, fun _ => (by simp [T.turnR, h35, h68, h69]), fun h => by cases h⟩
      ·
        have h74 : (evenB ((r).size) ((ir).size)) = true := by simpa using h68
        refine dtG 14 rfl (wantedT rfl rfl rfl (congrArg Value.bool h68)) (by kernel_rfl) (fun _ _ _ h => h) hss (fun _ h => r_move rfl) rfl ?_
        refine dtG 15 rfl (wantedT rfl rfl rfl (congrArg Value.bool h68)) (by kernel_rfl) (fun _ _ _ h => h) hss (fun _ h => r_nilCheck rfl rfl) rfl ?_
        refine dtG 16 rfl (wantedT rfl rfl rfl (congrArg Value.bool h68)) (by kernel_rfl) (fun _ _ _ h => h) hss (fun _ h => (r_fieldAddr (off := 2) rfl (by kernel_rfl) rfl)) rfl ?_
        refine dtG 17 rfl (wantedT rfl rfl rfl (congrArg Value.bool h68)) (by kernel_rfl) (fun _ _ _ h => h) hss (fun _ h => r_load rfl (by kernel_rfl) rfl (h.imm hbi) rfl) rfl ?_
        refine dtG 19 rfl (wantedT rfl rfl rfl (congrArg Value.bool h68)) (by kernel_rfl) (fun _ _ _ h => h) hss (fun _ h => r_move rfl) rfl ?_
        refine droG 18 (by kernel_rfl) rfl (wantedT rfl rfl rfl (congrArg Value.bool h68)) (ow_call (X := []) (L := [⟨b5, #[kv, xv], 56⟩]) (lb := []) hs65 (tsize_ok h3) (by kernel_rfl) rfl rfl rfl rfl rfl ?_)
        rintro _ _ X1 w75 ⟨rfl, rfl⟩ - hs76 hid77
        obtain rfl : X1 = [] := List.map_eq_nil_iff.1 hid77
        replace hs76 : St w0 I (ids []) I [⟨b5, #[kv, xv], 56⟩] w75 := hs76
        clear hs65 hid77
        replace hss := hs76.ss (I := I) (GH.le.refl _) (fun _ h => h)
        refine ⟨hss, ?_⟩
        refine droG 20 (by kernel_rfl) rfl (wantedT rfl rfl rfl (congrArg Value.bool h68)) (ow_call (X := []) (L := [⟨b5, #[kv, xv], 56⟩]) (lb := []) hs76 (tsize_ok h1) (by kernel_rfl) rfl rfl rfl rfl rfl ?_)
        rintro _ _ X1 w78 ⟨rfl, rfl⟩ - hs79 hid80
        obtain rfl : X1 = [] := List.map_eq_nil_iff.1 hid80
        replace hs79 : St w0 I (ids []) I [⟨b5, #[kv, xv], 56⟩] w78 := hs79
        clear hs76 hid80
        replace hss := hs79.ss (I := I) (GH.le.refl _) (fun _ h => h)
        refine ⟨hss, ?_⟩
        refine droG 21 (by kernel_rfl) rfl (wantedT rfl rfl rfl (congrArg Value.bool h68)) (ow_call (X := []) (L := [⟨b5, #[kv, xv], 56⟩]) (lb := []) hs79 (wEven_ok (l := (il).size) (r := (o).size) rfl rfl (by (try simp only [T.size] at *); omega) (by (try simp only [T.size] at *); omega)) (by kernel_rfl) rfl rfl rfl rfl rfl ?_)
        rintro _ _ X1 w81 ⟨rfl, rfl⟩ - hs82 hid83
        obtain rfl : X1 = [] := List.map_eq_nil_iff.1 hid83
        replace hs82 : St w0 I (ids []) I [⟨b5, #[kv, xv], 56⟩] w81 := hs82
        clear hs79 hid83
        replace hss := hs82.ss (I := I) (GH.le.refl _) (fun _ h => h)
        refine ⟨hss, ?_⟩
        refine dtG 22 rfl (wantedT rfl rfl rfl (congrArg Value.bool h68)) (by kernel_rfl) (fun _ _ _ h => h) hss (fun _ h => r_not rfl rfl) rfl ?_
        refine dt 23 rfl (by kernel_rfl) (fun _ _ _ h => h) hss (fun _ h => (r_pick rfl rfl rfl (congrArg Value.bool h68))) rfl ?_
        refine dt 24 rfl (by kernel_rfl) (fun _ _ _ h => h) hss (fun _ h => r_move rfl) rfl ?_
        refine bsplit (!(evenB ((il).size) ((o).size))) (fun h84 => ?_) (fun h84 => ?_)
        ·
          have h85 : (evenB ((il).size) ((o).size)) = false := by simpa using h84
          refine dtN 25 rfl (wantedF rfl rfl rfl (congrArg Value.bool h84)) (by kernel_rfl) (fun _ _ _ h => h) hss rfl ?_
          refine nrmD (vals := [(0, .pointer (some ⟨b, 0, none⟩)), (1, .agg #[kv, xv]), (2, .pointer rp), (4, .pointer (some ⟨b5, 0, none⟩)), (6, .pointer none), (7, .pointer (some ⟨bi, 0, none⟩)), (8, .pointer p1), (23, .bool (singleB ((r).size) (((T.node il k3 x3 ir)).size) ((o).size))), (58, .bool (!(evenB ((il).size) ((o).size)))), (59, undef)]) (.cons rfl (.cons rfl (.cons rfl (.cons rfl (.cons rfl (.cons rfl (.cons rfl (.cons rfl (.cons rfl (.cons rfl .nil)))))))))) fun g86 => ?_
          refine dtN 26 rfl (wantedF rfl rfl rfl (congrArg Value.bool h84)) (by kernel_rfl) (fun _ _ _ h => h) hss rfl ?_
          refine dtN 27 rfl (wantedF rfl rfl rfl (congrArg Value.bool h84)) (by kernel_rfl) (fun _ _ _ h => h) hss rfl ?_
          refine dtN 28 rfl (wantedF rfl rfl rfl (congrArg Value.bool h84)) (by kernel_rfl) (fun _ _ _ h => h) hss rfl ?_
          refine dtN 29 rfl (wantedF rfl rfl rfl (congrArg Value.bool h84)) (by kernel_rfl) (fun _ _ _ h => h) hss rfl ?_
          refine dtN 30 rfl (wantedF rfl rfl rfl (congrArg Value.bool h84)) (by kernel_rfl) (fun _ _ _ h => h) hss rfl ?_
          refine dtN 31 rfl (wantedF rfl rfl rfl (congrArg Value.bool h84)) (by kernel_rfl) (fun _ _ _ h => h) hss rfl ?_
          refine dtN 32 rfl (wantedF rfl rfl rfl (congrArg Value.bool h84)) (by kernel_rfl) (fun _ _ _ h => h) hss rfl ?_
          refine dtN 33 rfl (wantedF rfl rfl rfl (congrArg Value.bool h84)) (by kernel_rfl) (fun _ _ _ h => h) hss rfl ?_
          refine dtN 34 rfl (wantedF rfl rfl rfl (congrArg Value.bool h84)) (by kernel_rfl) (fun _ _ _ h => h) hss rfl ?_
          refine dtN 35 rfl (wantedF rfl rfl rfl (congrArg Value.bool h84)) (by kernel_rfl) (fun _ _ _ h => h) hss rfl ?_
          refine dtN 36 rfl (wantedF rfl rfl rfl (congrArg Value.bool h84)) (by kernel_rfl) (fun _ _ _ h => h) hss rfl ?_
          refine dtN 37 rfl (wantedF rfl rfl rfl (congrArg Value.bool h84)) (by kernel_rfl) (fun _ _ _ h => h) hss rfl ?_
          refine dtN 38 rfl (wantedF rfl rfl rfl (congrArg Value.bool h84)) (by kernel_rfl) (fun _ _ _ h => h) hss rfl ?_
          refine nrmD (vals := [(0, .pointer (some ⟨b, 0, none⟩)), (1, .agg #[kv, xv]), (2, .pointer rp), (4, .pointer (some ⟨b5, 0, none⟩)), (6, .pointer none), (7, .pointer (some ⟨bi, 0, none⟩)), (8, .pointer p1), (23, .bool (singleB ((r).size) (((T.node il k3 x3 ir)).size) ((o).size))), (58, .bool (!(evenB ((il).size) ((o).size)))), (67, undef), (72, undef)]) (.cons rfl (.cons rfl (.cons rfl (.cons rfl (.cons rfl (.cons rfl (.cons rfl (.cons rfl (.cons rfl (.cons rfl (.cons rfl .nil))))))))))) fun g87 => ?_
          refine dtN 39 rfl (wantedF rfl rfl rfl (congrArg Value.bool h84)) (by kernel_rfl) (fun _ _ _ h => h) hss rfl ?_
          refine dtN 40 rfl (wantedF rfl rfl rfl (congrArg Value.bool h84)) (by kernel_rfl) (fun _ _ _ h => h) hss rfl ?_
          refine dtN 41 rfl (wantedF rfl rfl rfl (congrArg Value.bool h84)) (by kernel_rfl) (fun _ _ _ h => h) hss rfl ?_
          refine dtN 42 rfl (wantedF rfl rfl rfl (congrArg Value.bool h84)) (by kernel_rfl) (fun _ _ _ h => h) hss rfl ?_
          refine dtN 43 rfl (wantedF rfl rfl rfl (congrArg Value.bool h84)) (by kernel_rfl) (fun _ _ _ h => h) hss rfl ?_
          refine dtN 44 rfl (wantedF rfl rfl rfl (congrArg Value.bool h84)) (by kernel_rfl) (fun _ _ _ h => h) hss rfl ?_
          refine dt 45 rfl (by kernel_rfl) (fun _ _ _ h => h) hss (fun _ h => (r_pick rfl rfl rfl (congrArg Value.bool h84))) rfl ?_
          refine draw_done (by kernel_rfl) ?_
          refine hK55 _ _ ?_; clear hK55 K54
          refine condT rfl rfl ?_
          refine wp_seq_k fun K88 hK89 => ?_
          refine wl_begin ?_
          refine sq (r_assign rfl) rfl ?_
          refine wl_nil ?_
          refine hK89 _ _ ?_; clear hK89 K88
          refine wp_ret ?_
          exact leave (X' := []) (L := [⟨b5, #[kv, xv], 56⟩]) hs82 rfl (res_one (v := .pointer none) rfl (.tmp rfl rfl .nil)) ⟨none, rfl, fun _ => (by simp [T.turnR, h35, h68, h74, h84, h85]), fun h => by cases h⟩
        ·
          have h90 : (evenB ((il).size) ((o).size)) = true := by simpa using h84
          refine dtG 25 rfl (wantedT rfl rfl rfl (congrArg Value.bool h84)) (by kernel_rfl) (fun _ _ _ h => h) hss (fun _ h => r_move rfl) rfl ?_
          refine nrmD (vals := [(0, .pointer (some ⟨b, 0, none⟩)), (1, .agg #[kv, xv]), (2, .pointer rp), (4, .pointer (some ⟨b5, 0, none⟩)), (6, .pointer none), (7, .pointer (some ⟨bi, 0, none⟩)), (8, .pointer p1), (23, .bool (singleB ((r).size) (((T.node il k3 x3 ir)).size) ((o).size))), (58, .bool (!(evenB ((il).size) ((o).size)))), (59, .pointer rp)]) (.cons rfl (.cons rfl (.cons rfl (.cons rfl (.cons rfl (.cons rfl (.cons rfl (.cons rfl (.cons rfl (.cons rfl .nil)))))))))) fun g91 => ?_
          refine dtG 28 rfl (wantedT rfl rfl rfl (congrArg Value.bool h84)) (by kernel_rfl) (fun _ _ _ h => h) hss (fun _ h => r_move rfl) rfl ?_
          refine dtG 29 rfl (wantedT rfl rfl rfl (congrArg Value.bool h84)) (by kernel_rfl) (fun _ _ _ h => h) hss (fun _ h => r_nilCheck rfl rfl) rfl ?_
          refine dtG 30 rfl (wantedT rfl rfl rfl (congrArg Value.bool h84)) (by kernel_rfl) (fun _ _ _ h => h) hss (fun _ h => (r_fieldAddr (off := 3) rfl (by kernel_rfl) rfl)) rfl ?_
          refine dtG 31 rfl (wantedT rfl rfl rfl (congrArg Value.bool h84)) (by kernel_rfl) (fun _ _ _ h => h) hss (fun _ h => r_load rfl (by kernel_rfl) rfl (h.imm hbi) rfl) rfl ?_
          refine dtG 34 rfl (wantedT rfl rfl rfl (congrArg Value.bool h84)) (by kernel_rfl) (fun _ _ _ h => h) hss (fun _ h => r_move rfl) rfl ?_
          refine dtG 35 rfl (wantedT rfl rfl rfl (congrArg Value.bool h84)) (by kernel_rfl) (fun _ _ _ h => h) hss (fun _ h => r_nilCheck rfl rfl) rfl ?_
          refine dtG 36 rfl (wantedT rfl rfl rfl (congrArg Value.bool h84)) (by kernel_rfl) (fun _ _ _ h => h) hss (fun _ h => (r_fieldAddr (off := 2) rfl (by kernel_rfl) rfl)) rfl ?_
          refine dtG 37 rfl (wantedT rfl rfl rfl (congrArg Value.bool h84)) (by kernel_rfl) (fun _ _ _ h => h) hss (fun _ h => r_load rfl (by kernel_rfl) rfl (h.imm hbi) rfl) rfl ?_
          refine dtG 40 rfl (wantedT rfl rfl rfl (congrArg Value.bool h84)) (by kernel_rfl) (fun _ _ _ h => h) hss (fun _ h => r_move rfl) rfl ?_
          refine droG 26 (by kernel_rfl) rfl (wantedT rfl rfl rfl (congrArg Value.bool h84)) (ow_call (X := []) (L := [⟨b5, #[kv, xv], 56⟩]) (lb := []) hs82 (tsize_ok hr) (by kernel_rfl) rfl rfl rfl rfl rfl ?_)
          rintro _ _ X1 w92 ⟨rfl, rfl⟩ - hs93 hid94
          obtain rfl : X1 = [] := List.map_eq_nil_iff.1 hid94
          replace hs93 : St w0 I (ids []) I [⟨b5, #[kv, xv], 56⟩] w92 := hs93
          clear hs82 hid94
          replace hss := hs93.ss (I := I) (GH.le.refl _) (fun _ h => h)
          refine ⟨hss, ?_⟩
          refine dtG 27 rfl (wantedT rfl rfl rfl (congrArg Value.bool h84)) (by kernel_rfl) (fun _ _ _ h => h) hss (fun _ h => (r_addi rfl rfl rfl rfl (by omega))) rfl ?_
          refine droG 32 (by kernel_rfl) rfl (wantedT rfl rfl rfl (congrArg Value.bool h84)) (ow_call (X := []) (L := [⟨b5, #[kv, xv], 56⟩]) (lb := []) hs93 (tsize_ok h4) (by kernel_rfl) rfl rfl rfl rfl rfl ?_)
          rintro _ _ X1 w95 ⟨rfl, rfl⟩ - hs96 hid97
          obtain rfl : X1 = [] := List.map_eq_nil_iff.1 hid97
          replace hs96 : St w0 I (ids []) I [⟨b5, #[kv, xv], 56⟩] w95 := hs96
          clear hs93 hid97
          replace hss := hs96.ss (I := I) (GH.le.refl _) (fun _ h => h)
          refine ⟨hss, ?_⟩
          refine dtG 33 rfl (wantedT rfl rfl rfl (congrArg Value.bool h84)) (by kernel_rfl) (fun _ _ _ h => h) hss (fun _ h => (r_addi rfl rfl rfl rfl (by omega))) rfl ?_
          refine nrmD (vals := [(0, .pointer (some ⟨b, 0, none⟩)), (1, .agg #[kv, xv]), (2, .pointer rp), (4, .pointer (some ⟨b5, 0, none⟩)), (6, .pointer none), (7, .pointer (some ⟨bi, 0, none⟩)), (8, .pointer p1), (23, .bool (singleB ((r).size) (((T.node il k3 x3 ir)).size) ((o).size))), (58, .bool (!(evenB ((il).size) ((o).size)))), (67, .int .i64 (((((r).size : Nat) : Int) + 1) + (((ir).size : Nat) : Int))), (71, .pointer p3), (74, .pointer p1)]) (.cons rfl (.cons rfl (.cons rfl (.cons rfl (.cons rfl (.cons rfl (.cons rfl (.cons rfl (.cons rfl (.cons rfl (.cons rfl (.cons rfl .nil)))))))))))) fun g98 => ?_
          refine droG 38 (by kernel_rfl) rfl (wantedT rfl rfl rfl (congrArg Value.bool h84)) (ow_call (X := []) (L := [⟨b5, #[kv, xv], 56⟩]) (lb := []) hs96 (tsize_ok h3) (by kernel_rfl) rfl rfl rfl rfl rfl ?_)
          rintro _ _ X1 w99 ⟨rfl, rfl⟩ - hs100 hid101
          obtain rfl : X1 = [] := List.map_eq_nil_iff.1 hid101
          replace hs100 : St w0 I (ids []) I [⟨b5, #[kv, xv], 56⟩] w99 := hs100
          clear hs96 hid101
          replace hss := hs100.ss (I := I) (GH.le.refl _) (fun _ h => h)
          refine ⟨hss, ?_⟩
          refine dtG 39 rfl (wantedT rfl rfl rfl (congrArg Value.bool h84)) (by kernel_rfl) (fun _ _ _ h => h) hss (fun _ h => (r_addi rfl rfl rfl rfl (by omega))) rfl ?_
          refine droG 41 (by kernel_rfl) rfl (wantedT rfl rfl rfl (congrArg Value.bool h84)) (ow_call (X := []) (L := [⟨b5, #[kv, xv], 56⟩]) (lb := []) hs100 (tsize_ok h1) (by kernel_rfl) rfl rfl rfl rfl rfl ?_)
          rintro _ _ X1 w102 ⟨rfl, rfl⟩ - hs103 hid104
          obtain rfl : X1 = [] := List.map_eq_nil_iff.1 hid104
          replace hs103 : St w0 I (ids []) I [⟨b5, #[kv, xv], 56⟩] w102 := hs103
          clear hs100 hid104
          replace hss := hs103.ss (I := I) (GH.le.refl _) (fun _ h => h)
          refine ⟨hss, ?_⟩
          refine dtG 42 rfl (wantedT rfl rfl rfl (congrArg Value.bool h84)) (by kernel_rfl) (fun _ _ _ h => h) hss (fun _ h => (r_addi rfl rfl rfl rfl (by omega))) rfl ?_
          refine droG 43 (by kernel_rfl) rfl (wantedT rfl rfl rfl (congrArg Value.bool h84)) (ow_call (X := []) (L := [⟨b5, #[kv, xv], 56⟩]) (lb := []) hs103 (wEven_ok (l := (((r).size + 1) + (ir).size)) (r := (((il).size + 1) + (o).size)) rfl rfl (by (try simp only [T.size] at *); omega) (by (try simp only [T.size] at *); omega)) (by kernel_rfl) rfl rfl rfl rfl rfl ?_)
          rintro _ _ X1 w105 ⟨rfl, rfl⟩ - hs106 hid107
          obtain rfl : X1 = [] := List.map_eq_nil_iff.1 hid107
          replace hs106 : St w0 I (ids []) I [⟨b5, #[kv, xv], 56⟩] w105 := hs106
          clear hs103 hid107
          replace hss := hs106.ss (I := I) (GH.le.refl _) (fun _ h => h)
          refine ⟨hss, ?_⟩
          refine dtG 44 rfl (wantedT rfl rfl rfl (congrArg Value.bool h84)) (by kernel_rfl) (fun _ _ _ h => h) hss (fun _ h => r_not rfl rfl) rfl ?_
          refine dt 45 rfl (by kernel_rfl) (fun _ _ _ h => h) hss (fun _ h => (r_pick rfl rfl rfl (congrArg Value.bool h84))) rfl ?_
          refine draw_done (by kernel_rfl) ?_
          refine hK55 _ _ ?_; clear hK55 K54
          refine condS rfl rfl (fun h108 => ?_) (fun h108 => ?_)
          ·
            have h109 : (evenB ((((r).size + 1) + (ir).size)) ((((il).size + 1) + (o).size))) = false := by simpa using h108
            refine wp_seq_k fun K110 hK111 => ?_
            refine wl_begin ?_
            refine sq (r_assign rfl) rfl ?_
            refine wl_nil ?_
            refine hK111 _ _ ?_; clear hK111 K110
            refine wp_ret ?_
            exact leave (X' := []) (L := [⟨b5, #[kv, xv], 56⟩]) hs106 rfl (res_one (v := .pointer none) rfl (.tmp rfl rfl .nil)) ⟨none, rfl, fun _ => (by simp [T.turnR, h108, h109, h35, h68, h74, h84, h90]), fun h => by cases h⟩
          ·
            have h112 : (evenB ((((r).size + 1) + (ir).size)) ((((il).size + 1) + (o).size))) = true := by simpa using h108
            refine wp_skip ?_
            refine hK53 _ _ ?_; clear hK53 K52
            refine wp_seq_k fun K113 hK114 => ?_
            refine draw_begin (S := SS I [⟨b5, #[kv, xv], 56⟩]) (by kernel_rfl) ?_
            have hs115 := hs106.drew; clear hs106
            have hss := hs115.ss (I := I) (GH.le.refl _) (fun _ h => h)
            refine dt 0 rfl (by kernel_rfl) (fun _ _ _ h => h) hss (fun _ h => r_move rfl) rfl ?_
            refine dt 1 rfl (by kernel_rfl) (fun _ _ _ h => h) hss (fun _ h => r_move rfl) rfl ?_
            refine dt 2 rfl (by kernel_rfl) (fun _ _ _ h => h) hss (fun _ h => r_nilCheck rfl rfl) rfl ?_
            refine dt 3 rfl (by kernel_rfl) (fun _ _ _ h => h) hss (fun _ h => (r_fieldAddr (off := 0) rfl (by kernel_rfl) rfl)) rfl ?_
            refine dt 4 rfl (by kernel_rfl) (fun _ _ _ h => h) hss (fun _ h => r_loadN (m := 2) rfl (by kernel_rfl) rfl (h.imm hb) rfl rfl) rfl ?_
            refine dt 5 rfl (by kernel_rfl) (fun _ _ _ h => h) hss (fun _ h => r_move rfl) rfl ?_
            refine nrmD (vals := [(0, .pointer (some ⟨b, 0, none⟩)), (1, .agg #[kv, xv]), (2, .pointer rp), (4, .pointer (some ⟨b5, 0, none⟩)), (6, .pointer none), (7, .pointer (some ⟨bi, 0, none⟩)), (8, .pointer p1), (23, .bool (singleB ((r).size) (((T.node il k3 x3 ir)).size) ((o).size))), (79, .bool (!(evenB ((((r).size + 1) + (ir).size)) ((((il).size + 1) + (o).size))))), (80, .pointer p1), (84, .agg #[kv2, xv2]), (85, .pointer (some ⟨bi, 0, none⟩))]) (.cons rfl (.cons rfl (.cons rfl (.cons rfl (.cons rfl (.cons rfl (.cons rfl (.cons rfl (.cons rfl (.cons rfl (.cons rfl (.cons rfl .nil)))))))))))) fun g116 => ?_
            refine dt 6 rfl (by kernel_rfl) (fun _ _ _ h => h) hss (fun _ h => r_nilCheck rfl rfl) rfl ?_
            refine dt 7 rfl (by kernel_rfl) (fun _ _ _ h => h) hss (fun _ h => (r_fieldAddr (off := 2) rfl (by kernel_rfl) rfl)) rfl ?_
            refine dt 8 rfl (by kernel_rfl) (fun _ _ _ h => h) hss (fun _ h => r_load rfl (by kernel_rfl) rfl (h.imm hbi) rfl) rfl ?_
            refine dt 10 rfl (by kernel_rfl) (fun _ _ _ h => h) hss (fun _ h => r_move rfl) rfl ?_
            refine dt 11 rfl (by kernel_rfl) (fun _ _ _ h => h) hss (fun _ h => r_nilCheck rfl rfl) rfl ?_
            refine dt 12 rfl (by kernel_rfl) (fun _ _ _ h => h) hss (fun _ h => (r_fieldAddr (off := 0) rfl (by kernel_rfl) rfl)) rfl ?_
            refine dt 13 rfl (by kernel_rfl) (fun _ _ _ h => h) hss (fun _ h => r_loadN (m := 2) rfl (by kernel_rfl) rfl (h.imm hbi) rfl rfl) rfl ?_
            refine dt 14 rfl (by kernel_rfl) (fun _ _ _ h => h) hss (fun _ h => r_move rfl) rfl ?_
            refine dt 15 rfl (by kernel_rfl) (fun _ _ _ h => h) hss (fun _ h => r_nilCheck rfl rfl) rfl ?_
            refine dt 16 rfl (by kernel_rfl) (fun _ _ _ h => h) hss (fun _ h => (r_fieldAddr (off := 3) rfl (by kernel_rfl) rfl)) rfl ?_
            refine dt 17 rfl (by kernel_rfl) (fun _ _ _ h => h) hss (fun _ h => r_load rfl (by kernel_rfl) rfl (h.imm hbi) rfl) rfl ?_
            refine dt 18 rfl (by kernel_rfl) (fun _ _ _ h => h) hss (fun _ h => r_loadN (m := 2) rfl (by kernel_rfl) rfl (h.box (.head _)) rfl rfl) rfl ?_
            refine dt 19 rfl (by kernel_rfl) (fun _ _ _ h => h) hss (fun _ h => r_move rfl) rfl ?_
            refine nrmD (vals := [(0, .pointer (some ⟨b, 0, none⟩)), (1, .agg #[kv, xv]), (2, .pointer rp), (4, .pointer (some ⟨b5, 0, none⟩)), (6, .pointer none), (7, .pointer (some ⟨bi, 0, none⟩)), (8, .pointer p1), (23, .bool (singleB ((r).size) (((T.node il k3 x3 ir)).size) ((o).size))), (79, .bool (!(evenB ((((r).size + 1) + (ir).size)) ((((il).size + 1) + (o).size))))), (80, .pointer p1), (84, .agg #[kv2, xv2]), (88, .pointer p3), (93, .agg #[kv3, xv3]), (97, .pointer p4), (98, .agg #[kv, xv]), (99, .pointer rp)]) (.cons rfl (.cons rfl (.cons rfl (.cons rfl (.cons rfl (.cons rfl (.cons rfl (.cons rfl (.cons rfl (.cons rfl (.cons rfl (.cons rfl (.cons rfl (.cons rfl (.cons rfl (.cons rfl .nil)))))))))))))))) fun g117 => ?_
            refine dro 9 (by kernel_rfl) rfl (ow_call (X := []) (L := [⟨b5, #[kv, xv], 56⟩]) (lb := []) hs115 (node_ok h1 h3 hk2 hx2 (by simp only [T.size] at *; omega)) (by kernel_rfl) rfl rfl rfl rfl rfl ?_)
            rintro _ G3 X1 w120 ⟨p118, rfl, ht119⟩ le123 hs121 hid122
            obtain rfl : X1 = [] := List.map_eq_nil_iff.1 hid122
            replace hs121 : St w0 I (ids []) G3 [⟨b5, #[kv, xv], 56⟩] w120 := hs121
            clear hs115 hid122
            replace hss := hs121.ss (I := I) le123 (fun _ h => h)
            refine ⟨hss, ?_⟩
            refine dro 20 (by kernel_rfl) rfl (ow_call (X := []) (L := [⟨b5, #[kv, xv], 56⟩]) (lb := []) hs121 (node_ok (h4.up le123) (hr.up le123) (hk.up le123) (hx.up le123) (by simp only [T.size] at *; omega)) (by kernel_rfl) rfl rfl rfl rfl rfl ?_)
            rintro _ G4 X1 w126 ⟨p124, rfl, ht125⟩ le129 hs127 hid128
            obtain rfl : X1 = [] := List.map_eq_nil_iff.1 hid128
            replace hs127 : St w0 I (ids []) G4 [⟨b5, #[kv, xv], 56⟩] w126 := hs127
            clear hs121 hid128
            replace hss := hs127.ss (I := I) (le123.trans le129) (fun _ h => h)
            refine ⟨hss, ?_⟩
            refine dro 21 (by kernel_rfl) rfl (ow_call (X := []) (L := [⟨b5, #[kv, xv], 56⟩]) (lb := []) hs127 (node_ok (ht119.up le129) ht125 (hk3.up (le123.trans le129)) (hx3.up (le123.trans le129)) (by simp only [T.size] at *; omega)) (by kernel_rfl) rfl rfl rfl rfl rfl ?_)
            rintro _ G5 X1 w132 ⟨p130, rfl, ht131⟩ le135 hs133 hid134
            obtain rfl : X1 = [] := List.map_eq_nil_iff.1 hid134
            replace hs133 : St w0 I (ids []) G5 [⟨b5, #[kv, xv], 56⟩] w132 := hs133
            clear hs127 hid134
            replace hss := hs133.ss (I := I) ((le123.trans le129).trans le135) (fun _ h => h)
            refine ⟨hss, ?_⟩
            refine dt 22 rfl (by kernel_rfl) (fun _ _ _ h => h) hss (fun _ h => r_assign rfl) rfl ?_
            refine draw_done (by kernel_rfl) ?_
            refine hK114 _ _ ?_; clear hK114 K113
            refine wp_ret ?_
            exact leave (X' := []) (L := [⟨b5, #[kv, xv], 56⟩]) hs133 rfl (res_one (v := .pointer p130) rfl (.tmp rfl rfl .nil)) ⟨_, rfl, fun h => (by obtain ⟨_, _, _, _, _, rfl, _⟩ := ht131; cases h), fun _ => ⟨_, (by simp [T.turnR, h108, h112, h35, h68, h74, h84, h90]), ht131⟩⟩
end Go.Proofs.YtlnlodfnplkckaaDoor
/- The contracts of the trees: their lists. -/
namespace Go.Proofs.YtlnlodfnplkckaaDoor
open T (Sm)
set_option linter.unusedVariables false
set_option linter.unusedSimpArgs false
/-- The list that is being made: a captured slice, and its row, that has room. -/
def LX (ob gb cap k : Nat) (cur : Array Value) : List Bx := [⟨ob, #[.slice (some ⟨gb, 0, none⟩) k cap], 67⟩, ⟨gb, cur, 56⟩]
structure LQ (I : GH) (cap : Nat) (cur : Array Value) (l : List (Bs × Bs)) : Prop where
  sz : cur.size = cap * 2
  cells : PairCells I (cur.toList.take (l.length * 2)) l
theorem LQ.up {I J : GH} {cap : Nat} {cur : Array Value} {l : List (Bs × Bs)} (h : LQ I cap cur l) (hle : I.le J) : LQ J cap cur l := ⟨h.sz, h.cells.up hle⟩
theorem LX_ids (ob gb cap k k' : Nat) (cur cur' : Array Value) : ids (LX ob gb cap k cur) = ids (LX ob gb cap k' cur') := rfl
set_option maxRecDepth 100000 in
theorem list1_ok {I : GH} {ob gb cap b : Nat} {cur : Array Value} {l : List (Bs × Bs)} {t1 t2 : T} {k x : Bs} (hq : LQ I cap cur l) (hroom : l.length + 1 ≤ cap) (ht : TreeAt I (some ⟨b, 0, none⟩) (.node t1 k x t2)) (h1 : k.length ≤ 1000000) (h2 : x.length ≤ 1000000) :
    Fn Tryd.prog 99 #[.pointer (some ⟨b, 0, none⟩), .pointer (some ⟨ob, 0, none⟩)] I (LX ob gb cap l.length cur) (fun v J X' => v = .bool true ∧ ∃ cur', X' = LX ob gb cap (l ++ [(k, x)]).length cur' ∧ LQ J cap cur' (l ++ [(k, x)])) := by
  obtain ⟨b', kv, xv, lp, rp, e, hb, hk, hx, hl, hr⟩ := ht
  cases e
  refine enter (args := [.pointer (some ⟨b, 0, none⟩), .pointer (some ⟨ob, 0, none⟩)]) Tryd.func99 rfl rfl fun w0 hs0 => ?_
  replace hs0 : St w0 I (ids (LX ob gb cap l.length cur)) I (⟨ob, #[.slice (some ⟨gb, 0, none⟩) l.length cap], 67⟩ :: (([⟨gb, cur, 56⟩] : List Bx) ++ [])) w0 := hs0
  refine wp_seq_k fun K1 hK2 => ?_
  refine wl_begin ?_
  refine sq (r_assign rfl) rfl ?_
  refine wl_nil ?_
  refine hK2 _ _ ?_; clear hK2 K1
  refine wp_seq_k fun K3 hK4 => ?_
  refine draw_begin (S := SS I []) (by kernel_rfl) ?_
  have hs5 := hs0.drew; clear hs0
  have hss := hs5.ss (I := I) (GH.le.refl _) (SubL.sub .nil)
  refine dt 1 rfl (by kernel_rfl) (fun _ _ _ h => h) hss (fun _ h => r_move rfl) rfl ?_
  refine dt 2 rfl (by kernel_rfl) (fun _ _ _ h => h) hss (fun _ h => r_nilCheck rfl rfl) rfl ?_
  refine dt 3 rfl (by kernel_rfl) (fun _ _ _ h => h) hss (fun _ h => (r_fieldAddr (off := 0) rfl (by kernel_rfl) rfl)) rfl ?_
  refine dt 4 rfl (by kernel_rfl) (fun _ _ _ h => h) hss (fun _ h => r_loadN (m := 2) rfl (by kernel_rfl) rfl (h.imm hb) rfl rfl) rfl ?_
  refine draw_all [0, 5] (by kernel_rfl) rfl (forall_2 ?_ ?_)
  ·
    refine dmo rfl (ow_val (r_load rfl (by kernel_rfl) rfl (hs5.box (.head _)) rfl) rfl ?_)
    replace hss := hs5.ss (I := I) (GH.le.refl _) (SubL.sub .nil)
    refine ⟨hss, ?_⟩
    refine dro 5 (by kernel_rfl) rfl (ow_call (X := []) (L := (⟨ob, #[.slice (some ⟨gb, 0, none⟩) l.length cap], 67⟩ :: (([⟨gb, cur, 56⟩] : List Bx) ++ []))) (lb := []) hs5 (own_ok hk hx (by omega) (by omega)) (by kernel_rfl) rfl rfl rfl rfl rfl ?_)
    rintro _ G1 X1 w10 ⟨kv6, xv7, rfl, hk8, hx9⟩ le13 hs11 hid12
    obtain rfl : X1 = [] := List.map_eq_nil_iff.1 hid12
    replace hs11 : St w0 I (ids (LX ob gb cap l.length cur)) G1 (⟨ob, #[.slice (some ⟨gb, 0, none⟩) l.length cap], 67⟩ :: (([⟨gb, cur, 56⟩] : List Bx) ++ [])) w10 := hs11
    clear hs5 hid12
    replace hss := hs11.ss (I := I) le13 (SubL.sub .nil)
    refine ⟨hss, ?_⟩
    refine dro 6 (by kernel_rfl) rfl (ow_newimm (mk := fun b => .slice (some ⟨b, 0, none⟩) 1 1) hs11 (r_buildSlice (e := 56) (cells := #[kv6, xv7]) (.cons rfl rfl .nil) (by kernel_rfl)) rfl ?_)
    rintro b14 G2 w15 hb16 le17 hs18 ge19
    clear hs11
    replace hb16 : G2 b14 = some (.cells #[kv6, xv7] 56 (0, 0)) := hb16
    replace hss := hs18.ss (I := I) (le13.trans le17) (SubL.sub .nil)
    refine ⟨hss, ?_⟩
    have hs20 : St w0 I (ids (LX ob gb cap l.length cur)) G2 (([⟨gb, cur, 56⟩] : List Bx) ++ [⟨ob, #[.slice (some ⟨gb, 0, none⟩) l.length cap], 67⟩]) w15 := hs18.perm (List.Perm.trans ((List.Perm.refl _).cons _) (List.perm_middle (l₁ := (([⟨gb, cur, 56⟩] : List Bx) : List Bx)) (a := (⟨ob, #[.slice (some ⟨gb, 0, none⟩) l.length cap], 67⟩ : Bx)) (l₂ := [])).symm); clear hs18
    refine dro 7 (by kernel_rfl) rfl (ow_appendRoom (L := [⟨ob, #[.slice (some ⟨gb, 0, none⟩) l.length cap], 67⟩]) (E := 56) (sz := 2) (bytes := 48) (news := [kv6, xv7]) hs20 (by kernel_rfl) rfl rfl rfl rfl rfl (SliceAt.news (m := 2) (hs20.imm hb16) rfl) (ones_old (.cons hk8.one (.cons hx9.one .nil))) hq.sz hroom rfl ?_)
    rintro cur21 w22 hc24 ht25 hs23
    replace hs23 : St w0 I (ids (LX ob gb cap l.length cur)) G2 (([⟨gb, cur21, 56⟩] : List Bx) ++ [⟨ob, #[.slice (some ⟨gb, 0, none⟩) l.length cap], 67⟩]) w22 := hs23; clear hs20
    replace hss := hs23.ss (I := I) (le13.trans le17) (SubL.sub .nil)
    refine ⟨hss, ?_⟩
    have hs26 : St w0 I (ids (LX ob gb cap l.length cur)) G2 (⟨ob, #[.slice (some ⟨gb, 0, none⟩) l.length cap], 67⟩ :: (([⟨gb, cur21, 56⟩] : List Bx) ++ [])) w22 := hs23.perm (List.Perm.trans ((List.Perm.refl _).append_left _) (List.perm_middle (l₁ := (([⟨gb, cur21, 56⟩] : List Bx) : List Bx)) (a := (⟨ob, #[.slice (some ⟨gb, 0, none⟩) l.length cap], 67⟩ : Bx)) (l₂ := []))); clear hs23
    refine dro 8 (by kernel_rfl) rfl (ow_store (vs := [.slice (some ⟨gb, 0, none⟩) (l.length + 1) cap]) hs26 rfl rfl (by kernel_rfl) rfl rfl (.cons trivial .nil) rfl ?_)
    rintro w27 (hs28 : St w0 I (ids (LX ob gb cap l.length cur)) G2 (⟨ob, #[.slice (some ⟨gb, 0, none⟩) (l.length + 1) cap], 67⟩ :: (([⟨gb, cur21, 56⟩] : List Bx) ++ [])) w27)
    clear hs26
    replace hss := hs28.ss (I := I) (le13.trans le17) (SubL.sub .nil)
    refine ⟨hss, ?_⟩
    refine draw_done (by kernel_rfl) ?_
    refine hK4 _ _ ?_; clear hK4 K3
    refine wp_seq_k fun K29 hK30 => ?_
    refine wl_begin ?_
    refine sq (r_assign rfl) rfl ?_
    refine wl_nil ?_
    refine hK30 _ _ ?_; clear hK30 K29
    refine wp_ret ?_
    have hs31 : St w0 I (ids (LX ob gb cap l.length cur)) G2 (([⟨gb, cur21, 56⟩] : List Bx) ++ [⟨ob, #[.slice (some ⟨gb, 0, none⟩) (l.length + 1) cap], 67⟩]) w27 := hs28.perm (List.Perm.trans ((List.Perm.refl _).cons _) (List.perm_middle (l₁ := (([⟨gb, cur21, 56⟩] : List Bx) : List Bx)) (a := (⟨ob, #[.slice (some ⟨gb, 0, none⟩) (l.length + 1) cap], 67⟩ : Bx)) (l₂ := [])).symm); clear hs28
    have hs32 : St w0 I (ids (LX ob gb cap l.length cur)) G2 (⟨ob, #[.slice (some ⟨gb, 0, none⟩) (l.length + 1) cap], 67⟩ :: (([⟨gb, cur21, 56⟩] : List Bx) ++ [])) w27 := hs31.perm (List.Perm.trans ((List.Perm.refl _).append_left _) (List.perm_middle (l₁ := (([⟨gb, cur21, 56⟩] : List Bx) : List Bx)) (a := (⟨ob, #[.slice (some ⟨gb, 0, none⟩) (l.length + 1) cap], 67⟩ : Bx)) (l₂ := []))); clear hs31
    exact leave (X' := (⟨ob, #[.slice (some ⟨gb, 0, none⟩) (l.length + 1) cap], 67⟩ :: (([⟨gb, cur21, 56⟩] : List Bx) ++ []))) (L := []) hs32 rfl (res_one (v := .bool true) rfl (.tmp rfl rfl .nil)) ⟨rfl, cur21, by rw [List.length_append]; rfl, ⟨hc24, by rw [List.length_append, List.length_singleton, ht25]; exact (hq.up (le13.trans le17)).cells.snoc (hk8.up le17) (hx9.up le17)⟩⟩
  ·
    refine dmo rfl (ow_call (X := []) (L := (⟨ob, #[.slice (some ⟨gb, 0, none⟩) l.length cap], 67⟩ :: (([⟨gb, cur, 56⟩] : List Bx) ++ []))) (lb := []) hs5 (own_ok hk hx (by omega) (by omega)) (by kernel_rfl) rfl rfl rfl rfl rfl ?_)
    rintro _ G3 X1 w37 ⟨kv33, xv34, rfl, hk35, hx36⟩ le40 hs38 hid39
    obtain rfl : X1 = [] := List.map_eq_nil_iff.1 hid39
    replace hs38 : St w0 I (ids (LX ob gb cap l.length cur)) G3 (⟨ob, #[.slice (some ⟨gb, 0, none⟩) l.length cap], 67⟩ :: (([⟨gb, cur, 56⟩] : List Bx) ++ [])) w37 := hs38
    clear hs5 hid39
    replace hss := hs38.ss (I := I) le40 (SubL.sub .nil)
    refine ⟨hss, ?_⟩
    refine draw_all [0, 6] (by kernel_rfl) rfl (forall_2 ?_ ?_)
    ·
      refine dmo rfl (ow_val (r_load rfl (by kernel_rfl) rfl (hs38.box (.head _)) rfl) rfl ?_)
      replace hss := hs38.ss (I := I) le40 (SubL.sub .nil)
      refine ⟨hss, ?_⟩
      refine dro 6 (by kernel_rfl) rfl (ow_newimm (mk := fun b => .slice (some ⟨b, 0, none⟩) 1 1) hs38 (r_buildSlice (e := 56) (cells := #[kv33, xv34]) (.cons rfl rfl .nil) (by kernel_rfl)) rfl ?_)
      rintro b41 G4 w42 hb43 le44 hs45 ge46
      clear hs38
      replace hb43 : G4 b41 = some (.cells #[kv33, xv34] 56 (0, 0)) := hb43
      replace hss := hs45.ss (I := I) (le40.trans le44) (SubL.sub .nil)
      refine ⟨hss, ?_⟩
      have hs47 : St w0 I (ids (LX ob gb cap l.length cur)) G4 (([⟨gb, cur, 56⟩] : List Bx) ++ [⟨ob, #[.slice (some ⟨gb, 0, none⟩) l.length cap], 67⟩]) w42 := hs45.perm (List.Perm.trans ((List.Perm.refl _).cons _) (List.perm_middle (l₁ := (([⟨gb, cur, 56⟩] : List Bx) : List Bx)) (a := (⟨ob, #[.slice (some ⟨gb, 0, none⟩) l.length cap], 67⟩ : Bx)) (l₂ := [])).symm); clear hs45
      refine dro 7 (by kernel_rfl) rfl (ow_appendRoom (L := [⟨ob, #[.slice (some ⟨gb, 0, none⟩) l.length cap], 67⟩]) (E := 56) (sz := 2) (bytes := 48) (news := [kv33, xv34]) hs47 (by kernel_rfl) rfl rfl rfl rfl rfl (SliceAt.news (m := 2) (hs47.imm hb43) rfl) (ones_old (.cons hk35.one (.cons hx36.one .nil))) hq.sz hroom rfl ?_)
      rintro cur48 w49 hc51 ht52 hs50
      replace hs50 : St w0 I (ids (LX ob gb cap l.length cur)) G4 (([⟨gb, cur48, 56⟩] : List Bx) ++ [⟨ob, #[.slice (some ⟨gb, 0, none⟩) l.length cap], 67⟩]) w49 := hs50; clear hs47
      replace hss := hs50.ss (I := I) (le40.trans le44) (SubL.sub .nil)
      refine ⟨hss, ?_⟩
      have hs53 : St w0 I (ids (LX ob gb cap l.length cur)) G4 (⟨ob, #[.slice (some ⟨gb, 0, none⟩) l.length cap], 67⟩ :: (([⟨gb, cur48, 56⟩] : List Bx) ++ [])) w49 := hs50.perm (List.Perm.trans ((List.Perm.refl _).append_left _) (List.perm_middle (l₁ := (([⟨gb, cur48, 56⟩] : List Bx) : List Bx)) (a := (⟨ob, #[.slice (some ⟨gb, 0, none⟩) l.length cap], 67⟩ : Bx)) (l₂ := []))); clear hs50
      refine dro 8 (by kernel_rfl) rfl (ow_store (vs := [.slice (some ⟨gb, 0, none⟩) (l.length + 1) cap]) hs53 rfl rfl (by kernel_rfl) rfl rfl (.cons trivial .nil) rfl ?_)
      rintro w54 (hs55 : St w0 I (ids (LX ob gb cap l.length cur)) G4 (⟨ob, #[.slice (some ⟨gb, 0, none⟩) (l.length + 1) cap], 67⟩ :: (([⟨gb, cur48, 56⟩] : List Bx) ++ [])) w54)
      clear hs53
      replace hss := hs55.ss (I := I) (le40.trans le44) (SubL.sub .nil)
      refine ⟨hss, ?_⟩
      refine draw_done (by kernel_rfl) ?_
      refine hK4 _ _ ?_; clear hK4 K3
      refine wp_seq_k fun K56 hK57 => ?_
      refine wl_begin ?_
      refine sq (r_assign rfl) rfl ?_
      refine wl_nil ?_
      refine hK57 _ _ ?_; clear hK57 K56
      refine wp_ret ?_
      have hs58 : St w0 I (ids (LX ob gb cap l.length cur)) G4 (([⟨gb, cur48, 56⟩] : List Bx) ++ [⟨ob, #[.slice (some ⟨gb, 0, none⟩) (l.length + 1) cap], 67⟩]) w54 := hs55.perm (List.Perm.trans ((List.Perm.refl _).cons _) (List.perm_middle (l₁ := (([⟨gb, cur48, 56⟩] : List Bx) : List Bx)) (a := (⟨ob, #[.slice (some ⟨gb, 0, none⟩) (l.length + 1) cap], 67⟩ : Bx)) (l₂ := [])).symm); clear hs55
      have hs59 : St w0 I (ids (LX ob gb cap l.length cur)) G4 (⟨ob, #[.slice (some ⟨gb, 0, none⟩) (l.length + 1) cap], 67⟩ :: (([⟨gb, cur48, 56⟩] : List Bx) ++ [])) w54 := hs58.perm (List.Perm.trans ((List.Perm.refl _).append_left _) (List.perm_middle (l₁ := (([⟨gb, cur48, 56⟩] : List Bx) : List Bx)) (a := (⟨ob, #[.slice (some ⟨gb, 0, none⟩) (l.length + 1) cap], 67⟩ : Bx)) (l₂ := []))); clear hs58
      exact leave (X' := (⟨ob, #[.slice (some ⟨gb, 0, none⟩) (l.length + 1) cap], 67⟩ :: (([⟨gb, cur48, 56⟩] : List Bx) ++ []))) (L := []) hs59 rfl (res_one (v := .bool true) rfl (.tmp rfl rfl .nil)) ⟨rfl, cur48, by rw [List.length_append]; rfl, ⟨hc51, by rw [List.length_append, List.length_singleton, ht52]; exact (hq.up (le40.trans le44)).cells.snoc (hk35.up le44) (hx36.up le44)⟩⟩
    ·
      refine dmo rfl (ow_newimm (mk := fun b => .slice (some ⟨b, 0, none⟩) 1 1) hs38 (r_buildSlice (e := 56) (cells := #[kv33, xv34]) (.cons rfl rfl .nil) (by kernel_rfl)) rfl ?_)
      rintro b60 G5 w61 hb62 le63 hs64 ge65
      clear hs38
      replace hb62 : G5 b60 = some (.cells #[kv33, xv34] 56 (0, 0)) := hb62
      replace hss := hs64.ss (I := I) (le40.trans le63) (SubL.sub .nil)
      refine ⟨hss, ?_⟩
      refine dro 0 (by kernel_rfl) rfl (ow_val (r_load rfl (by kernel_rfl) rfl (hs64.box (.head _)) rfl) rfl ?_)
      replace hss := hs64.ss (I := I) (le40.trans le63) (SubL.sub .nil)
      refine ⟨hss, ?_⟩
      have hs66 : St w0 I (ids (LX ob gb cap l.length cur)) G5 (([⟨gb, cur, 56⟩] : List Bx) ++ [⟨ob, #[.slice (some ⟨gb, 0, none⟩) l.length cap], 67⟩]) w61 := hs64.perm (List.Perm.trans ((List.Perm.refl _).cons _) (List.perm_middle (l₁ := (([⟨gb, cur, 56⟩] : List Bx) : List Bx)) (a := (⟨ob, #[.slice (some ⟨gb, 0, none⟩) l.length cap], 67⟩ : Bx)) (l₂ := [])).symm); clear hs64
      refine dro 7 (by kernel_rfl) rfl (ow_appendRoom (L := [⟨ob, #[.slice (some ⟨gb, 0, none⟩) l.length cap], 67⟩]) (E := 56) (sz := 2) (bytes := 48) (news := [kv33, xv34]) hs66 (by kernel_rfl) rfl rfl rfl rfl rfl (SliceAt.news (m := 2) (hs66.imm hb62) rfl) (ones_old (.cons hk35.one (.cons hx36.one .nil))) hq.sz hroom rfl ?_)
      rintro cur67 w68 hc70 ht71 hs69
      replace hs69 : St w0 I (ids (LX ob gb cap l.length cur)) G5 (([⟨gb, cur67, 56⟩] : List Bx) ++ [⟨ob, #[.slice (some ⟨gb, 0, none⟩) l.length cap], 67⟩]) w68 := hs69; clear hs66
      replace hss := hs69.ss (I := I) (le40.trans le63) (SubL.sub .nil)
      refine ⟨hss, ?_⟩
      have hs72 : St w0 I (ids (LX ob gb cap l.length cur)) G5 (⟨ob, #[.slice (some ⟨gb, 0, none⟩) l.length cap], 67⟩ :: (([⟨gb, cur67, 56⟩] : List Bx) ++ [])) w68 := hs69.perm (List.Perm.trans ((List.Perm.refl _).append_left _) (List.perm_middle (l₁ := (([⟨gb, cur67, 56⟩] : List Bx) : List Bx)) (a := (⟨ob, #[.slice (some ⟨gb, 0, none⟩) l.length cap], 67⟩ : Bx)) (l₂ := []))); clear hs69
      refine dro 8 (by kernel_rfl) rfl (ow_store (vs := [.slice (some ⟨gb, 0, none⟩) (l.length + 1) cap]) hs72 rfl rfl (by kernel_rfl) rfl rfl (.cons trivial .nil) rfl ?_)
      rintro w73 (hs74 : St w0 I (ids (LX ob gb cap l.length cur)) G5 (⟨ob, #[.slice (some ⟨gb, 0, none⟩) (l.length + 1) cap], 67⟩ :: (([⟨gb, cur67, 56⟩] : List Bx) ++ [])) w73)
      clear hs72
      replace hss := hs74.ss (I := I) (le40.trans le63) (SubL.sub .nil)
      refine ⟨hss, ?_⟩
      refine draw_done (by kernel_rfl) ?_
      refine hK4 _ _ ?_; clear hK4 K3
      refine wp_seq_k fun K75 hK76 => ?_
      refine wl_begin ?_
      refine sq (r_assign rfl) rfl ?_
      refine wl_nil ?_
      refine hK76 _ _ ?_; clear hK76 K75
      refine wp_ret ?_
      have hs77 : St w0 I (ids (LX ob gb cap l.length cur)) G5 (([⟨gb, cur67, 56⟩] : List Bx) ++ [⟨ob, #[.slice (some ⟨gb, 0, none⟩) (l.length + 1) cap], 67⟩]) w73 := hs74.perm (List.Perm.trans ((List.Perm.refl _).cons _) (List.perm_middle (l₁ := (([⟨gb, cur67, 56⟩] : List Bx) : List Bx)) (a := (⟨ob, #[.slice (some ⟨gb, 0, none⟩) (l.length + 1) cap], 67⟩ : Bx)) (l₂ := [])).symm); clear hs74
      have hs78 : St w0 I (ids (LX ob gb cap l.length cur)) G5 (⟨ob, #[.slice (some ⟨gb, 0, none⟩) (l.length + 1) cap], 67⟩ :: (([⟨gb, cur67, 56⟩] : List Bx) ++ [])) w73 := hs77.perm (List.Perm.trans ((List.Perm.refl _).append_left _) (List.perm_middle (l₁ := (([⟨gb, cur67, 56⟩] : List Bx) : List Bx)) (a := (⟨ob, #[.slice (some ⟨gb, 0, none⟩) (l.length + 1) cap], 67⟩ : Bx)) (l₂ := []))); clear hs77
      exact leave (X' := (⟨ob, #[.slice (some ⟨gb, 0, none⟩) (l.length + 1) cap], 67⟩ :: (([⟨gb, cur67, 56⟩] : List Bx) ++ []))) (L := []) hs78 rfl (res_one (v := .bool true) rfl (.tmp rfl rfl .nil)) ⟨rfl, cur67, by rw [List.length_append]; rfl, ⟨hc70, by rw [List.length_append, List.length_singleton, ht71]; exact (hq.up (le40.trans le63)).cells.snoc (hk35.up le63) (hx36.up le63)⟩⟩
set_option maxRecDepth 100000 in
theorem eachl_ok {ob gb cap : Nat} {t : T} : ∀ {I : GH} {p : Option Addr} {cur : Array Value} {l : List (Bs × Bs)}, LQ I cap cur l → l.length + t.size ≤ cap → TreeAt I p t → Sm t.toList →
    Fn Tryd.prog 95 #[.pointer p, .func (.func 99) #[] #[.pointer (some ⟨ob, 0, none⟩)]] I (LX ob gb cap l.length cur)
      (fun v J X' => v = .bool true ∧ ∃ cur', X' = LX ob gb cap (l ++ t.toList).length cur' ∧ LQ J cap cur' (l ++ t.toList)) := by
  induction t with
  | nil =>
    intro I p cur l hq hroom ht hsm
    obtain rfl : p = none := ht
    refine enter (args := [.pointer none, .func (.func 99) #[] #[.pointer (some ⟨ob, 0, none⟩)]]) Tryd.func95 rfl rfl fun w0 hs0 => ?_
    replace hs0 : St w0 I (ids (LX ob gb cap l.length cur)) I ((LX ob gb cap l.length cur) ++ []) w0 := hs0
    refine wp_seq_k fun K1 hK2 => ?_
    refine wl_begin ?_
    refine sq (r_assign rfl) rfl ?_
    refine wl_nil ?_
    refine hK2 _ _ ?_; clear hK2 K1
    refine wp_seq_k fun K3 hK4 => ?_
    refine wl_begin ?_
    refine sq (r_move rfl) rfl ?_
    refine sq (r_eqp rfl rfl (by kernel_rfl) rfl rfl) rfl ?_
    refine sq (r_move rfl) rfl ?_
    refine sqN (wantedF rfl rfl rfl rfl) rfl ?_
    refine sqN (wantedF rfl rfl rfl rfl) rfl ?_
    refine sqN (wantedF rfl rfl rfl rfl) rfl ?_
    refine sqN (wantedF rfl rfl rfl rfl) rfl ?_
    refine sqN (wantedF rfl rfl rfl rfl) rfl ?_
    refine sqN (wantedF rfl rfl rfl rfl) rfl ?_
    refine sqN (wantedF rfl rfl rfl rfl) rfl ?_
    refine sqN (wantedU rfl rfl rfl rfl) rfl ?_
    refine sqN (wantedU rfl rfl rfl rfl) rfl ?_
    refine sqN (wantedU rfl rfl rfl rfl) rfl ?_
    refine sqN (wantedF rfl rfl rfl rfl) rfl ?_
    refine sqN (wantedF rfl rfl rfl rfl) rfl ?_
    refine sqN (wantedU rfl rfl rfl rfl) rfl ?_
    refine sqN (wantedU rfl rfl rfl rfl) rfl ?_
    refine sqN (wantedU rfl rfl rfl rfl) rfl ?_
    refine sqN (wantedU rfl rfl rfl rfl) rfl ?_
    refine sqN (wantedU rfl rfl rfl rfl) rfl ?_
    refine sqN (wantedU rfl rfl rfl rfl) rfl ?_
    refine sqN (wantedF rfl rfl rfl rfl) rfl ?_
    refine sq (r_pick rfl rfl rfl rfl) rfl ?_
    refine sq (r_assign rfl) rfl ?_
    refine wl_nil ?_
    refine hK4 _ _ ?_; clear hK4 K3
    refine wp_ret ?_
    exact leave (X' := (LX ob gb cap l.length cur)) (L := []) hs0 (LX_ids _ _ _ _ _ _ _) (res_one (v := .bool true) rfl (.tmp rfl rfl .nil)) ⟨rfl, cur, by simp [T.toList], by simpa [T.toList] using hq⟩
  | node t1 k x t2 ihl ihr =>
    intro I p cur l hq hroom ht hsm
    obtain ⟨hsl, hs1, hs2, hsr⟩ := T.Sm.node hsm
    have ht' := ht
    obtain ⟨b, kv, xv, lp, rp, rfl, hb, hk, hx, hl, hr⟩ := ht'
    refine enter (args := [.pointer (some ⟨b, 0, none⟩), .func (.func 99) #[] #[.pointer (some ⟨ob, 0, none⟩)]]) Tryd.func95 rfl rfl fun w0 hs0 => ?_
    replace hs0 : St w0 I (ids (LX ob gb cap l.length cur)) I ((LX ob gb cap l.length cur) ++ []) w0 := hs0
    refine wp_seq_k fun K1 hK2 => ?_
    refine wl_begin ?_
    refine sq (r_assign rfl) rfl ?_
    refine wl_nil ?_
    refine hK2 _ _ ?_; clear hK2 K1
    refine wp_seq_k fun K3 hK4 => ?_
    refine wl_begin ?_
    refine sq (r_move rfl) rfl ?_
    refine sq (r_eqp rfl rfl (by kernel_rfl) rfl rfl) rfl ?_
    refine sq (r_move rfl) rfl ?_
    refine sqG (wantedT rfl rfl rfl rfl) (r_move rfl) rfl ?_
    refine sqG (wantedT rfl rfl rfl rfl) (r_nilCheck rfl rfl) rfl ?_
    refine sqG (wantedT rfl rfl rfl rfl) (r_fieldAddr (off := 2) rfl (by kernel_rfl) rfl) rfl ?_
    refine sqG (wantedT rfl rfl rfl rfl) (r_load rfl (by kernel_rfl) rfl (hs0.imm hb) rfl) rfl ?_
    refine sqG (wantedT rfl rfl rfl rfl) (r_move rfl) rfl ?_
    refine sqoG (wantedT rfl rfl rfl rfl) fun K5 hK6 => ow_call (X := (LX ob gb cap l.length cur)) (L := []) (lb := []) hs0 (ihl hq (by simp only [T.size, List.length_append, T.length_toList, List.length_singleton] at *; omega) hl hsl) (by kernel_rfl) rfl rfl rfl rfl rfl ?_
    rintro _ G1 X1 w9 ⟨rfl, cur7, rfl, hq8⟩ le12 hs10 hid11
    replace hs10 : St w0 I (ids (LX ob gb cap l.length cur)) G1 ((LX ob gb cap ((l ++ t1.toList)).length cur7) ++ []) w9 := hs10
    clear hs0 hid11
    refine hK6 _ _ ?_; clear hK6 K5
    refine sqG (wantedT rfl rfl rfl rfl) (r_move rfl) rfl ?_
    refine sqG (wantedT rfl rfl rfl rfl) (r_move rfl) rfl ?_
    refine sqG (wantedT rfl rfl rfl rfl) (r_move rfl) rfl ?_
    refine sqoG (wantedT rfl rfl rfl rfl) fun K13 hK14 => ow_call (X := (LX ob gb cap ((l ++ t1.toList)).length cur7)) (L := []) (lb := [.pointer (some ⟨ob, 0, none⟩)]) hs10 (list1_ok hq8 (by simp only [T.size, List.length_append, T.length_toList, List.length_singleton] at *; omega) (ht.up le12) hs1 hs2) (by kernel_rfl) rfl rfl rfl rfl rfl ?_
    rintro _ G2 X1 w17 ⟨rfl, cur15, rfl, hq16⟩ le20 hs18 hid19
    replace hs18 : St w0 I (ids (LX ob gb cap l.length cur)) G2 ((LX ob gb cap (((l ++ t1.toList) ++ [(k, x)])).length cur15) ++ []) w17 := hs18
    clear hs10 hid19
    refine hK14 _ _ ?_; clear hK14 K13
    refine sqG (wantedT rfl rfl rfl rfl) (r_pick rfl rfl rfl rfl) rfl ?_
    refine sqG (wantedT rfl rfl rfl rfl) (r_move rfl) rfl ?_
    refine sqG (wantedT rfl rfl rfl rfl) (r_move rfl) rfl ?_
    refine sqG (wantedT rfl rfl rfl rfl) (r_nilCheck rfl rfl) rfl ?_
    refine sqG (wantedT rfl rfl rfl rfl) (r_fieldAddr (off := 3) rfl (by kernel_rfl) rfl) rfl ?_
    refine sqG (wantedT rfl rfl rfl rfl) (r_load rfl (by kernel_rfl) rfl (hs18.imm ((le12.trans le20) _ _ hb)) rfl) rfl ?_
    refine sqG (wantedT rfl rfl rfl rfl) (r_move rfl) rfl ?_
    refine sqoG (wantedT rfl rfl rfl rfl) fun K21 hK22 => ow_call (X := (LX ob gb cap (((l ++ t1.toList) ++ [(k, x)])).length cur15)) (L := []) (lb := []) hs18 (ihr hq16 (by simp only [T.size, List.length_append, T.length_toList, List.length_singleton] at *; omega) (hr.up (le12.trans le20)) hsr) (by kernel_rfl) rfl rfl rfl rfl rfl ?_
    rintro _ G3 X1 w25 ⟨rfl, cur23, rfl, hq24⟩ le28 hs26 hid27
    replace hs26 : St w0 I (ids (LX ob gb cap l.length cur)) G3 ((LX ob gb cap ((((l ++ t1.toList) ++ [(k, x)]) ++ t2.toList)).length cur23) ++ []) w25 := hs26
    clear hs18 hid27
    refine hK22 _ _ ?_; clear hK22 K21
    refine sqG (wantedT rfl rfl rfl rfl) (r_pick rfl rfl rfl rfl) rfl ?_
    refine sq (r_pick rfl rfl rfl rfl) rfl ?_
    refine sq (r_assign rfl) rfl ?_
    refine wl_nil ?_
    refine hK4 _ _ ?_; clear hK4 K3
    refine wp_ret ?_
    exact leave (X' := (LX ob gb cap ((((l ++ t1.toList) ++ [(k, x)]) ++ t2.toList)).length cur23)) (L := []) hs26 (LX_ids _ _ _ _ _ _ _) (res_one (v := .bool true) rfl (.tmp rfl rfl .nil)) ⟨rfl, cur23, by simp [T.toList], by simpa [T.toList] using hq24⟩
set_option maxRecDepth 100000 in
theorem tlist_ok {I : GH} {p : Option Addr} {t : T} (ht : TreeAt I p t) (hsz : t.size ≤ 1000000) (hsm : Sm t.toList) :
    FnO Tryd.prog 69 #[.pointer p] I [] (fun v J _ N => ∃ gb cap cur, v = .slice (some ⟨gb, 0, none⟩) t.size cap ∧ N = [⟨gb, cur, 56⟩] ∧ cur.size = cap * 2 ∧ t.size ≤ cap ∧ cap ≤ maxLen ∧ PairCells J (cur.toList.take (t.size * 2)) t.toList) := by
  refine enterO (args := [.pointer p]) Tryd.func69 rfl rfl fun w0 hs0 => ?_
  refine wp_seq_k fun K1 hK2 => ?_
  refine wl_begin ?_
  refine sq (r_assign rfl) rfl ?_
  refine wl_nil ?_
  refine hK2 _ _ ?_; clear hK2 K1
  refine wp_seq_k fun K3 hK4 => ?_
  refine wl_begin ?_
  refine sq (r_move rfl) rfl ?_
  refine sqo rfl fun K5 hK6 => ow_call (X := []) (L := []) (lb := []) hs0 (tsize_ok ht) (by kernel_rfl) rfl rfl rfl rfl rfl ?_
  rintro _ _ X1 w7 ⟨rfl, rfl⟩ - hs8 hid9
  obtain rfl : X1 = [] := List.map_eq_nil_iff.1 hid9
  replace hs8 : St w0 I (ids []) I [] w7 := hs8
  clear hs0 hid9
  refine hK6 _ _ ?_; clear hK6 K5
  refine sqo rfl fun K10 hK11 => ow_makeRoom (E := 56) (sz := 2) (bytes := 48) (c := (t).size) hs8 (by kernel_rfl) rfl rfl rfl rfl (by omega) (by simp only [maxLen]; omega) rfl ?_
  rintro gb12 cur13 w14 hc15 - hs16
  replace hs16 : St w0 I (ids []) I (([⟨gb12, cur13, 56⟩] : List Bx) ++ []) w14 := hs16; clear hs8
  refine hK11 _ _ ?_; clear hK11 K10
  refine sqo rfl fun K17 hK18 => ow_newbox (mk := fun b => .pointer (some ⟨b, 0, none⟩)) hs16 (r_alloc (cs := [.slice none 0 0]) (by kernel_rfl)) rfl ?_
  rintro b19 w20 (hs21 : St w0 I (ids []) I (⟨b19, #[.slice none 0 0], 67⟩ :: (([⟨gb12, cur13, 56⟩] : List Bx) ++ [])) w20)
  clear hs16
  refine hK18 _ _ ?_; clear hK18 K17
  refine sqo rfl fun K22 hK23 => ow_store (vs := [.slice (some ⟨gb12, 0, none⟩) 0 (t).size]) hs21 rfl rfl (by kernel_rfl) rfl rfl (.cons trivial .nil) rfl ?_
  rintro w24 (hs25 : St w0 I (ids []) I (⟨b19, #[.slice (some ⟨gb12, 0, none⟩) 0 (t).size], 67⟩ :: (([⟨gb12, cur13, 56⟩] : List Bx) ++ [])) w24)
  clear hs21
  refine hK23 _ _ ?_; clear hK23 K22
  refine wl_nil ?_
  refine hK4 _ _ ?_; clear hK4 K3
  refine wp_seq_k fun K26 hK27 => ?_
  refine wl_begin ?_
  refine sq (r_move rfl) rfl ?_
  refine sq (r_makeFunc (l := []) (m := [.pointer (some ⟨b19, 0, none⟩)]) rfl rfl rfl rfl) rfl ?_
  have hs30 : St w0 I (ids []) I (([⟨gb12, cur13, 56⟩] : List Bx) ++ [⟨b19, #[.slice (some ⟨gb12, 0, none⟩) 0 (t).size], 67⟩]) w24 := hs25.perm (List.Perm.trans ((List.Perm.refl _).cons _) (List.perm_middle (l₁ := (([⟨gb12, cur13, 56⟩] : List Bx) : List Bx)) (a := (⟨b19, #[.slice (some ⟨gb12, 0, none⟩) 0 (t).size], 67⟩ : Bx)) (l₂ := [])).symm); clear hs25
  have hs31 : St w0 I (ids []) I (⟨b19, #[.slice (some ⟨gb12, 0, none⟩) 0 (t).size], 67⟩ :: (([⟨gb12, cur13, 56⟩] : List Bx) ++ [])) w24 := hs30.perm (List.Perm.trans ((List.Perm.refl _).append_left _) (List.perm_middle (l₁ := (([⟨gb12, cur13, 56⟩] : List Bx) : List Bx)) (a := (⟨b19, #[.slice (some ⟨gb12, 0, none⟩) 0 (t).size], 67⟩ : Bx)) (l₂ := []))); clear hs30
  replace hs31 : St w0 I (ids []) I ((LX b19 gb12 t.size ([] : List (Bs × Bs)).length cur13) ++ []) w24 := hs31
  refine sqo rfl fun K28 hK29 => ow_call (X := (LX b19 gb12 t.size ([] : List (Bs × Bs)).length cur13)) (L := []) (lb := []) hs31 (eachl_ok (l := []) ⟨hc15, trivial⟩ (by simp) ht hsm) (by kernel_rfl) rfl rfl rfl rfl rfl ?_
  rintro _ G1 X1 w34 ⟨rfl, cur32, rfl, hq33⟩ le37 hs35 hid36
  replace hs35 : St w0 I (ids []) G1 ((LX b19 gb12 t.size (([] : List (Bs × Bs)) ++ t.toList).length cur32) ++ []) w34 := hs35
  clear hs31 hid36
  replace hs35 : St w0 I (ids []) G1 (⟨b19, #[.slice (some ⟨gb12, 0, none⟩) (([] : List (Bs × Bs)) ++ t.toList).length t.size], 67⟩ :: (([⟨gb12, cur32, 56⟩] : List Bx) ++ [])) w34 := hs35
  refine hK29 _ _ ?_; clear hK29 K28
  refine wl_nil ?_
  refine hK27 _ _ ?_; clear hK27 K26
  refine wp_seq_k fun K38 hK39 => ?_
  refine wl_begin ?_
  refine sq (r_load rfl (by kernel_rfl) rfl (hs35.box (.head _)) rfl) rfl ?_
  refine sq (r_assign rfl) rfl ?_
  refine wl_nil ?_
  refine hK39 _ _ ?_; clear hK39 K38
  refine wp_ret ?_
  have hs40 : St w0 I (ids []) G1 (([⟨gb12, cur32, 56⟩] : List Bx) ++ [⟨b19, #[.slice (some ⟨gb12, 0, none⟩) (([] : List (Bs × Bs)) ++ t.toList).length t.size], 67⟩]) w34 := hs35.perm (List.Perm.trans ((List.Perm.refl _).cons _) (List.perm_middle (l₁ := (([⟨gb12, cur32, 56⟩] : List Bx) : List Bx)) (a := (⟨b19, #[.slice (some ⟨gb12, 0, none⟩) (([] : List (Bs × Bs)) ++ t.toList).length t.size], 67⟩ : Bx)) (l₂ := [])).symm); clear hs35
  exact leaveO (X' := []) (N := ([⟨gb12, cur32, 56⟩] : List Bx)) (L := [⟨b19, #[.slice (some ⟨gb12, 0, none⟩) (([] : List (Bs × Bs)) ++ t.toList).length t.size], 67⟩]) hs40 rfl (res_one (v := .slice (some ⟨gb12, 0, none⟩) (([] : List (Bs × Bs)) ++ t.toList).length t.size) rfl (.tmp rfl rfl .nil)) ⟨gb12, t.size, cur32, by simp [T.length_toList], rfl, hq33.sz, Nat.le_refl _, by simp only [maxLen]; omega, by simpa [T.length_toList] using hq33.cells⟩
end Go.Proofs.YtlnlodfnplkckaaDoor
/- The contracts of the trees: even, join, first, Pair. -/
namespace Go.Proofs.YtlnlodfnplkckaaDoor
open T (Sm)
set_option linter.unusedVariables false
set_option linter.unusedSimpArgs false
theorem lrow_at {gb cap k : Nat} {cur : Array Value} (hz : cur.size = cap * 2) (hcap : k ≤ cap) (hmx : cap ≤ maxLen) : RowAt 56 2 (.slice (some ⟨gb, 0, none⟩) k cap) k (cur.toList.take (k * 2)) [⟨gb, cur, 56⟩] :=
  ⟨by rw [List.length_take, Array.length_toList, hz]; omega, .inr ⟨gb, cap, cur, rfl, hcap, hmx, hz, rfl, rfl⟩⟩
theorem PairCells.ones {I : GH} : ∀ {cs : List Value} {l : List (Bs × Bs)}, PairCells I cs l → Ones cs
  | [], [], _ => .nil
  | _ :: _ :: _, _ :: _, ⟨h1, h2, h3⟩ => .cons h1.one (.cons h2.one (PairCells.ones h3))
  | [], _ :: _, h => h.elim
  | [_], _, h => by cases ‹List (Bs × Bs)› <;> exact h.elim
  | _ :: _ :: _, [], h => h.elim
theorem pairs_of {I : GH} {v : Value} {n : Nat} {xs : List Value} {l : List (Bs × Bs)} (h : SliceAt I v n 2 xs) (hp : PairCells I xs l) : PairsAt I v l := by
  have e1 := hp.length
  have e2 : xs.length = n * 2 := by obtain ⟨_, _, _, _, _, e, _⟩ := h; exact e
  have : n = l.length := by omega
  subst this
  exact ⟨xs, h, hp⟩
theorem evenB_00 : evenB 0 0 = true := by simp [evenB]
theorem T.of_ne {t : T} (h : t ≠ .nil) : ∃ l k x r, t = .node l k x r := by
  cases t with
  | nil => exact absurd rfl h
  | node l k x r => exact ⟨l, k, x, r, rfl⟩
set_option maxRecDepth 100000 in
theorem even_ok {I : GH} {lp rp : Option Addr} {l r : T} {kv xv : Value} {k x : Bs} (hl : TreeAt I lp l) (hr : TreeAt I rp r) (hk : BytesAt I kv k) (hx : BytesAt I xv x) (hsz : l.size + 1 + r.size ≤ 1000000) (sl : Sm l.toList) (sr : Sm r.toList) (h1 : k.length ≤ 1000000) (h2 : x.length ≤ 1000000) :
    Fn Tryd.prog 154 #[.pointer lp, .agg #[kv, xv], .pointer rp] I [] (fun v J _ => ∃ p, v = .pointer p ∧ TreeAt J p (T.even l k x r)) := by
  refine enter (args := [.pointer lp, .agg #[kv, xv], .pointer rp]) Tryd.func154 rfl rfl fun w0 hs0 => ?_
  refine wp_seq_k fun K1 hK2 => ?_
  refine wl_begin ?_
  refine sqo rfl fun K3 hK4 => ow_newbox (mk := fun b => .pointer (some ⟨b, 0, none⟩)) hs0 (r_box rfl rfl) rfl ?_
  rintro b5 w6 (hs7 : St w0 I (ids []) I [⟨b5, #[kv, xv], 56⟩] w6)
  clear hs0
  refine hK4 _ _ ?_; clear hK4 K3
  refine sq (r_assign rfl) rfl ?_
  refine wl_nil ?_
  refine hK2 _ _ ?_; clear hK2 K1
  refine wp_seq_k fun K8 hK9 => ?_
  refine wp_block ?_
  refine wp_seq_k fun K10 hK11 => ?_
  refine wl_begin ?_
  refine sq (r_move rfl) rfl ?_
  refine sqo rfl fun K12 hK13 => ow_call (X := []) (L := [⟨b5, #[kv, xv], 56⟩]) (lb := []) hs7 (tsize_ok hl) (by kernel_rfl) rfl rfl rfl rfl rfl ?_
  rintro _ _ X1 w14 ⟨rfl, rfl⟩ - hs15 hid16
  obtain rfl : X1 = [] := List.map_eq_nil_iff.1 hid16
  replace hs15 : St w0 I (ids []) I [⟨b5, #[kv, xv], 56⟩] w14 := hs15
  clear hs7 hid16
  refine hK13 _ _ ?_; clear hK13 K12
  refine sq (r_move rfl) rfl ?_
  refine sqo rfl fun K17 hK18 => ow_call (X := []) (L := [⟨b5, #[kv, xv], 56⟩]) (lb := []) hs15 (tsize_ok hr) (by kernel_rfl) rfl rfl rfl rfl rfl ?_
  rintro _ _ X1 w19 ⟨rfl, rfl⟩ - hs20 hid21
  obtain rfl : X1 = [] := List.map_eq_nil_iff.1 hid21
  replace hs20 : St w0 I (ids []) I [⟨b5, #[kv, xv], 56⟩] w19 := hs20
  clear hs15 hid21
  refine hK18 _ _ ?_; clear hK18 K17
  refine sqo rfl fun K22 hK23 => ow_call (X := []) (L := [⟨b5, #[kv, xv], 56⟩]) (lb := []) hs20 (wEven_ok (l := (l).size) (r := (r).size) rfl rfl (by (try simp only [T.size] at *); omega) (by (try simp only [T.size] at *); omega)) (by kernel_rfl) rfl rfl rfl rfl rfl ?_
  rintro _ _ X1 w24 ⟨rfl, rfl⟩ - hs25 hid26
  obtain rfl : X1 = [] := List.map_eq_nil_iff.1 hid26
  replace hs25 : St w0 I (ids []) I [⟨b5, #[kv, xv], 56⟩] w24 := hs25
  clear hs20 hid26
  refine hK23 _ _ ?_; clear hK23 K22
  refine sq (r_assign rfl) rfl ?_
  refine wl_nil ?_
  refine hK11 _ _ ?_; clear hK11 K10
  refine condS rfl rfl (fun h27 => ?_) (fun h27 => ?_)
  ·
    have hE : evenB l.size r.size = true := h27
    refine wp_seq_k fun K28 hK29 => ?_
    refine wl_begin ?_
    refine sq (r_move rfl) rfl ?_
    refine sq (r_loadN (m := 2) rfl (by kernel_rfl) rfl (hs25.box (.head _)) rfl rfl) rfl ?_
    refine sq (r_move rfl) rfl ?_
    refine sqo rfl fun K30 hK31 => ow_call (X := []) (L := [⟨b5, #[kv, xv], 56⟩]) (lb := []) hs25 (node_ok hl hr hk hx (by (try simp only [T.size] at *); omega)) (by kernel_rfl) rfl rfl rfl rfl rfl ?_
    rintro _ G1 X1 w34 ⟨p32, rfl, ht33⟩ le37 hs35 hid36
    obtain rfl : X1 = [] := List.map_eq_nil_iff.1 hid36
    replace hs35 : St w0 I (ids []) G1 [⟨b5, #[kv, xv], 56⟩] w34 := hs35
    clear hs25 hid36
    refine hK31 _ _ ?_; clear hK31 K30
    refine sq (r_assign rfl) rfl ?_
    refine wl_nil ?_
    refine hK29 _ _ ?_; clear hK29 K28
    refine wp_ret ?_
    exact leave (X' := []) (L := [⟨b5, #[kv, xv], 56⟩]) hs35 rfl (res_one (v := .pointer p32) rfl (.tmp rfl rfl .nil)) ⟨_, rfl, by rw [show T.even l k x r = .node l k x r from (by simp [T.even, hE])]; exact ht33⟩
  ·
    have hE : evenB l.size r.size = false := h27
    refine wp_seq_k fun K38 hK39 => ?_
    refine wl_begin ?_
    refine sq (r_move rfl) rfl ?_
    refine sqo rfl fun K40 hK41 => ow_call (X := []) (L := [⟨b5, #[kv, xv], 56⟩]) (lb := []) hs25 (tsize_ok hl) (by kernel_rfl) rfl rfl rfl rfl rfl ?_
    rintro _ _ X1 w42 ⟨rfl, rfl⟩ - hs43 hid44
    obtain rfl : X1 = [] := List.map_eq_nil_iff.1 hid44
    replace hs43 : St w0 I (ids []) I [⟨b5, #[kv, xv], 56⟩] w42 := hs43
    clear hs25 hid44
    refine hK41 _ _ ?_; clear hK41 K40
    refine sq (r_move rfl) rfl ?_
    refine sqo rfl fun K45 hK46 => ow_call (X := []) (L := [⟨b5, #[kv, xv], 56⟩]) (lb := []) hs43 (tsize_ok hr) (by kernel_rfl) rfl rfl rfl rfl rfl ?_
    rintro _ _ X1 w47 ⟨rfl, rfl⟩ - hs48 hid49
    obtain rfl : X1 = [] := List.map_eq_nil_iff.1 hid49
    replace hs48 : St w0 I (ids []) I [⟨b5, #[kv, xv], 56⟩] w47 := hs48
    clear hs43 hid49
    refine hK46 _ _ ?_; clear hK46 K45
    refine sq (r_lti rfl rfl rfl rfl) rfl ?_
    refine sq (r_assign rfl) rfl ?_
    refine wl_nil ?_
    refine hK39 _ _ ?_; clear hK39 K38
    refine condS rfl rfl (fun h50 => ?_) (fun h50 => ?_)
    ·
      have p51 := of_decide_eq_true h50
      have hlt : (l.size < r.size) := by omega
      refine wp_seq_k fun K52 hK53 => ?_
      refine nrm (vals := [(0, .pointer lp), (1, .agg #[kv, xv]), (2, .pointer rp), (4, .pointer (some ⟨b5, 0, none⟩)), (6, .pointer none), (17, .bool (evenB ((l).size) ((r).size))), (27, .bool (decide ((((l).size : Nat) : Int) < (((r).size : Nat) : Int))))]) (.cons rfl (.cons rfl (.cons rfl (.cons rfl (.cons rfl (.cons rfl (.cons rfl .nil))))))) fun g54 => ?_
      refine wl_begin ?_
      refine sq (r_move rfl) rfl ?_
      refine sq (r_loadN (m := 2) rfl (by kernel_rfl) rfl (hs48.box (.head _)) rfl rfl) rfl ?_
      refine sq (r_move rfl) rfl ?_
      refine sqo rfl fun K55 hK56 => ow_call (X := []) (L := [⟨b5, #[kv, xv], 56⟩]) (lb := []) hs48 (turnL_ok hl hr hk hx (by (try simp only [T.size] at *); omega) (by intro e; subst e; simp only [T.size] at *; omega)) (by kernel_rfl) rfl rfl rfl rfl rfl ?_
      rintro _ G2 X1 w60 ⟨p57, rfl, qn58, qs59⟩ le63 hs61 hid62
      obtain rfl : X1 = [] := List.map_eq_nil_iff.1 hid62
      replace hs61 : St w0 I (ids []) G2 [⟨b5, #[kv, xv], 56⟩] w60 := hs61
      clear hs48 hid62
      refine hK56 _ _ ?_; clear hK56 K55
      refine sq (r_assign rfl) rfl ?_
      refine wl_nil ?_
      refine hK53 _ _ ?_; clear hK53 K52
      refine wp_seq_k fun K64 hK65 => ?_
      refine wl_begin ?_
      refine sq (r_move rfl) rfl ?_
      refine sq (r_nep rfl rfl (by kernel_rfl) rfl rfl) rfl ?_
      refine wl_nil ?_
      refine hK65 _ _ ?_; clear hK65 K64
      refine condS rfl rfl (fun h66 => ?_) (fun h66 => ?_)
      ·
        have h67 : p57.isNone = false := by simpa using h66
        refine wp_seq_k fun K68 hK69 => ?_
        refine wl_begin ?_
        refine sq (r_move rfl) rfl ?_
        refine sq (r_assign rfl) rfl ?_
        refine wl_nil ?_
        refine hK69 _ _ ?_; clear hK69 K68
        refine wp_ret ?_
        exact leave (X' := []) (L := [⟨b5, #[kv, xv], 56⟩]) hs61 rfl (res_one (v := .pointer p57) rfl (.tmp rfl rfl .nil)) (by obtain ⟨t, e1, e2⟩ := qs59 h67; exact ⟨_, rfl, by rw [show T.even l k x r = t from (by simp [T.even, hE, hlt, e1])]; exact e2⟩)
      ·
        have h70 : p57.isNone = true := by simpa using h66
        refine wp_skip ?_
        refine hK9 _ _ ?_; clear hK9 K8
        refine wp_seq_k fun K71 hK72 => ?_
        refine draw_begin (S := SS G2 [⟨b5, #[kv, xv], 56⟩]) (by kernel_rfl) ?_
        have hs73 := hs61.drew; clear hs61
        have hss := hs73.ss (I := G2) (GH.le.refl _) (fun _ h => h)
        refine dt 0 rfl (by kernel_rfl) (fun _ _ _ h => h) hss (fun _ h => r_move rfl) rfl ?_
        refine dt 2 rfl (by kernel_rfl) (fun _ _ _ h => h) hss (fun _ h => r_loadN (m := 2) rfl (by kernel_rfl) rfl (h.box (.head _)) rfl rfl) rfl ?_
        refine dt 5 rfl (by kernel_rfl) (fun _ _ _ h => h) hss (fun _ h => r_move rfl) rfl ?_
        refine draw_all [1, 3] (by kernel_rfl) rfl (forall_2 ?_ ?_)
        ·
          refine dmo rfl (ow_callO (X := []) (L := [⟨b5, #[kv, xv], 56⟩]) (lb := []) hs73 (tlist_ok (hl.up le63) (by (try simp only [T.size] at *); omega) sl) (by kernel_rfl) rfl rfl rfl rfl rfl ?_)
          rintro _ G3 X1 N81 w82 ⟨gb74, cap75, cur76, rfl, rfl, hz77, hcap78, hmx79, pc80⟩ le85 hs83 hid84
          obtain rfl : X1 = [] := List.map_eq_nil_iff.1 hid84
          replace hs83 : St w0 I (ids []) G3 (([⟨gb74, cur76, 56⟩] : List Bx) ++ [⟨b5, #[kv, xv], 56⟩]) w82 := hs83
          clear hs73 hid84
          replace hss := hs83.ss (I := G2) le85 (SubL.sub (.cons (List.mem_append_right _ (.head _)) .nil))
          refine ⟨hss, ?_⟩
          refine dro 3 (by kernel_rfl) rfl (ow_newimm (mk := fun b => .slice (some ⟨b, 0, none⟩) 1 1) hs83 (r_buildSlice (e := 56) (cells := #[kv, xv]) (.cons rfl rfl .nil) (by kernel_rfl)) rfl ?_)
          rintro b86 G4 w87 hb88 le89 hs90 ge91
          clear hs83
          replace hb88 : G4 b86 = some (.cells #[kv, xv] 56 (0, 0)) := hb88
          replace hss := hs90.ss (I := G2) (le85.trans le89) (SubL.sub (.cons (List.mem_append_right _ (.head _)) .nil))
          refine ⟨hss, ?_⟩
          refine dro 4 (by kernel_rfl) rfl (ow_append (R := ([⟨gb74, cur76, 56⟩] : List Bx)) (L := [⟨b5, #[kv, xv], 56⟩]) (E := 56) (sz := 2) (bytes := 48) (news := [kv, xv]) hs90 (lrow_at hz77 hcap78 hmx79) (by kernel_rfl) rfl rfl rfl rfl rfl rfl (SliceAt.news (m := 2) (hs90.imm hb88) rfl) (ones_old (.cons (hk).one (.cons (hx).one .nil))) (by simp only [maxLen]; omega) (by omega) rfl ?_)
          rintro v92 R93 w94 hr95 hs96 hf97
          replace hs96 : St w0 I (ids []) G4 (R93 ++ [⟨b5, #[kv, xv], 56⟩]) w94 := hs96; clear hs90 hf97
          replace hss := hs96.ss (I := G2) (le85.trans le89) (SubL.sub (.cons (List.mem_append_right _ (.head _)) .nil))
          refine ⟨hss, ?_⟩
          refine nrmD (vals := [(0, .pointer lp), (1, .agg #[kv, xv]), (2, .pointer rp), (4, .pointer (some ⟨b5, 0, none⟩)), (6, .pointer none), (7, .pointer p57), (17, .bool (evenB ((l).size) ((r).size))), (27, .bool (decide ((((l).size : Nat) : Int) < (((r).size : Nat) : Int)))), (38, .bool (!p57.isNone)), (44, v92), (45, .pointer rp)]) (.cons rfl (.cons rfl (.cons rfl (.cons rfl (.cons rfl (.cons rfl (.cons rfl (.cons rfl (.cons rfl (.cons rfl (.cons rfl .nil))))))))))) fun g98 => ?_
          refine dro 6 (by kernel_rfl) rfl (ow_callO (X := []) (L := (R93 ++ [⟨b5, #[kv, xv], 56⟩])) (lb := []) hs96 (tlist_ok (hr.up ((le63.trans le85).trans le89)) (by (try simp only [T.size] at *); omega) sr) (by kernel_rfl) rfl rfl rfl rfl rfl ?_)
          rintro _ G5 X1 N106 w107 ⟨gb99, cap100, cur101, rfl, rfl, hz102, hcap103, hmx104, pc105⟩ le110 hs108 hid109
          obtain rfl : X1 = [] := List.map_eq_nil_iff.1 hid109
          replace hs108 : St w0 I (ids []) G5 (([⟨gb99, cur101, 56⟩] : List Bx) ++ (R93 ++ [⟨b5, #[kv, xv], 56⟩])) w107 := hs108
          clear hs96 hid109
          replace hss := hs108.ss (I := G2) ((le85.trans le89).trans le110) (SubL.sub (.cons (List.mem_append_right _ (List.mem_append_right _ (.head _))) .nil))
          refine ⟨hss, ?_⟩
          have hs111 : St w0 I (ids []) G5 (R93 ++ (([⟨gb99, cur101, 56⟩] : List Bx) ++ [⟨b5, #[kv, xv], 56⟩])) w107 := hs108.perm (List.Perm.trans ((List.Perm.refl _).append_left _) (List.perm_append_comm_assoc _ _ _)); clear hs108
          refine dro 7 (by kernel_rfl) rfl (ow_append (R := R93) (L := (([⟨gb99, cur101, 56⟩] : List Bx) ++ [⟨b5, #[kv, xv], 56⟩])) (E := 56) (sz := 2) (bytes := 48) (news := (cur101.toList.take ((r).size * 2))) hs111 hr95 (by kernel_rfl) rfl rfl rfl rfl rfl (by have := pc105.length; rw [T.length_toList] at this; exact this) (SliceAt.news (off := 0) (m := (r).size * 2) (hs111.box (x := ⟨gb99, cur101, 56⟩) (List.mem_append_right _ (List.mem_append_left _ (.head _)))) rfl) (ones_old pc105.ones) (by simp only [maxLen]; omega) (by omega) rfl ?_)
          rintro v112 R113 w114 hr115 hs116 hf117
          replace hs116 : St w0 I (ids []) G5 (R113 ++ (([⟨gb99, cur101, 56⟩] : List Bx) ++ [⟨b5, #[kv, xv], 56⟩])) w114 := hs116; clear hs111 hf117
          replace hss := hs116.ss (I := G2) ((le85.trans le89).trans le110) (SubL.sub (.cons (List.mem_append_right _ (List.mem_append_right _ (.head _))) .nil))
          refine ⟨hss, ?_⟩
          refine dt 8 rfl (by kernel_rfl) (fun _ _ _ h => h) hss (fun _ h => r_assign rfl) rfl ?_
          refine draw_done (by kernel_rfl) ?_
          refine hK72 _ _ ?_; clear hK72 K71
          refine wp_seq_k fun K118 hK119 => ?_
          refine wl_begin ?_
          refine sq (r_move rfl) rfl ?_
          obtain ⟨G6, le122, hs123, hz124⟩ := hs116.freezeRow (R := R113) (L := (([⟨gb99, cur101, 56⟩] : List Bx) ++ [⟨b5, #[kv, xv], 56⟩])) hr115 (fun _ h => by cases h); clear hs116
          replace hs123 : St w0 I (ids []) G6 (([⟨gb99, cur101, 56⟩] : List Bx) ++ [⟨b5, #[kv, xv], 56⟩]) w114 := hs123
          refine sqo rfl fun K120 hK121 => ow_call (X := []) (L := (([⟨gb99, cur101, 56⟩] : List Bx) ++ [⟨b5, #[kv, xv], 56⟩])) (lb := []) hs123 (from_ok (pairs_of hz124 (((((pc80.up le89).snoc (hk.up ((le63.trans le85).trans le89)) (hx.up ((le63.trans le85).trans le89))).up le110).append pc105).up le122)) ((sl.app (.cons h1 h2 .nil)).app sr) (by simp only [List.length_append, T.length_toList, List.length_cons, List.length_nil]; omega)) (by kernel_rfl) rfl rfl rfl rfl rfl ?_
          rintro _ G7 X1 w127 ⟨p126, rfl, ht125⟩ le130 hs128 hid129
          obtain rfl : X1 = [] := List.map_eq_nil_iff.1 hid129
          replace hs128 : St w0 I (ids []) G7 (([⟨gb99, cur101, 56⟩] : List Bx) ++ [⟨b5, #[kv, xv], 56⟩]) w127 := hs128
          clear hs123 hid129
          refine hK121 _ _ ?_; clear hK121 K120
          refine sq (r_assign rfl) rfl ?_
          refine wl_nil ?_
          refine hK119 _ _ ?_; clear hK119 K118
          refine wp_ret ?_
          exact leave (X' := []) (L := (([⟨gb99, cur101, 56⟩] : List Bx) ++ [⟨b5, #[kv, xv], 56⟩])) hs128 rfl (res_one (v := .pointer p126) rfl (.tmp rfl rfl .nil)) ⟨_, rfl, by rw [show T.even l k x r = T.fromL (l.toList ++ [(k, x)] ++ r.toList) from (by simp [T.even, hE, hlt, qn58 h70])]; exact ht125⟩
        ·
          refine dmo rfl (ow_newimm (mk := fun b => .slice (some ⟨b, 0, none⟩) 1 1) hs73 (r_buildSlice (e := 56) (cells := #[kv, xv]) (.cons rfl rfl .nil) (by kernel_rfl)) rfl ?_)
          rintro b131 G8 w132 hb133 le134 hs135 ge136
          clear hs73
          replace hb133 : G8 b131 = some (.cells #[kv, xv] 56 (0, 0)) := hb133
          replace hss := hs135.ss (I := G2) le134 (fun _ h => h)
          refine ⟨hss, ?_⟩
          refine dro 1 (by kernel_rfl) rfl (ow_callO (X := []) (L := [⟨b5, #[kv, xv], 56⟩]) (lb := []) hs135 (tlist_ok (hl.up (le63.trans le134)) (by (try simp only [T.size] at *); omega) sl) (by kernel_rfl) rfl rfl rfl rfl rfl ?_)
          rintro _ G9 X1 N144 w145 ⟨gb137, cap138, cur139, rfl, rfl, hz140, hcap141, hmx142, pc143⟩ le148 hs146 hid147
          obtain rfl : X1 = [] := List.map_eq_nil_iff.1 hid147
          replace hs146 : St w0 I (ids []) G9 (([⟨gb137, cur139, 56⟩] : List Bx) ++ [⟨b5, #[kv, xv], 56⟩]) w145 := hs146
          clear hs135 hid147
          replace hss := hs146.ss (I := G2) (le134.trans le148) (SubL.sub (.cons (List.mem_append_right _ (.head _)) .nil))
          refine ⟨hss, ?_⟩
          refine dro 4 (by kernel_rfl) rfl (ow_append (R := ([⟨gb137, cur139, 56⟩] : List Bx)) (L := [⟨b5, #[kv, xv], 56⟩]) (E := 56) (sz := 2) (bytes := 48) (news := [kv, xv]) hs146 (lrow_at hz140 hcap141 hmx142) (by kernel_rfl) rfl rfl rfl rfl rfl rfl (SliceAt.news (m := 2) (hs146.imm (le148 _ _ hb133)) rfl) (ones_old (.cons (hk).one (.cons (hx).one .nil))) (by simp only [maxLen]; omega) (by omega) rfl ?_)
          rintro v149 R150 w151 hr152 hs153 hf154
          replace hs153 : St w0 I (ids []) G9 (R150 ++ [⟨b5, #[kv, xv], 56⟩]) w151 := hs153; clear hs146 hf154
          replace hss := hs153.ss (I := G2) (le134.trans le148) (SubL.sub (.cons (List.mem_append_right _ (.head _)) .nil))
          refine ⟨hss, ?_⟩
          refine nrmD (vals := [(0, .pointer lp), (1, .agg #[kv, xv]), (2, .pointer rp), (4, .pointer (some ⟨b5, 0, none⟩)), (6, .pointer none), (7, .pointer p57), (17, .bool (evenB ((l).size) ((r).size))), (27, .bool (decide ((((l).size : Nat) : Int) < (((r).size : Nat) : Int)))), (38, .bool (!p57.isNone)), (44, v149), (45, .pointer rp)]) (.cons rfl (.cons rfl (.cons rfl (.cons rfl (.cons rfl (.cons rfl (.cons rfl (.cons rfl (.cons rfl (.cons rfl (.cons rfl .nil))))))))))) fun g155 => ?_
          refine dro 6 (by kernel_rfl) rfl (ow_callO (X := []) (L := (R150 ++ [⟨b5, #[kv, xv], 56⟩])) (lb := []) hs153 (tlist_ok (hr.up ((le63.trans le134).trans le148)) (by (try simp only [T.size] at *); omega) sr) (by kernel_rfl) rfl rfl rfl rfl rfl ?_)
          rintro _ G10 X1 N163 w164 ⟨gb156, cap157, cur158, rfl, rfl, hz159, hcap160, hmx161, pc162⟩ le167 hs165 hid166
          obtain rfl : X1 = [] := List.map_eq_nil_iff.1 hid166
          replace hs165 : St w0 I (ids []) G10 (([⟨gb156, cur158, 56⟩] : List Bx) ++ (R150 ++ [⟨b5, #[kv, xv], 56⟩])) w164 := hs165
          clear hs153 hid166
          replace hss := hs165.ss (I := G2) ((le134.trans le148).trans le167) (SubL.sub (.cons (List.mem_append_right _ (List.mem_append_right _ (.head _))) .nil))
          refine ⟨hss, ?_⟩
          have hs168 : St w0 I (ids []) G10 (R150 ++ (([⟨gb156, cur158, 56⟩] : List Bx) ++ [⟨b5, #[kv, xv], 56⟩])) w164 := hs165.perm (List.Perm.trans ((List.Perm.refl _).append_left _) (List.perm_append_comm_assoc _ _ _)); clear hs165
          refine dro 7 (by kernel_rfl) rfl (ow_append (R := R150) (L := (([⟨gb156, cur158, 56⟩] : List Bx) ++ [⟨b5, #[kv, xv], 56⟩])) (E := 56) (sz := 2) (bytes := 48) (news := (cur158.toList.take ((r).size * 2))) hs168 hr152 (by kernel_rfl) rfl rfl rfl rfl rfl (by have := pc162.length; rw [T.length_toList] at this; exact this) (SliceAt.news (off := 0) (m := (r).size * 2) (hs168.box (x := ⟨gb156, cur158, 56⟩) (List.mem_append_right _ (List.mem_append_left _ (.head _)))) rfl) (ones_old pc162.ones) (by simp only [maxLen]; omega) (by omega) rfl ?_)
          rintro v169 R170 w171 hr172 hs173 hf174
          replace hs173 : St w0 I (ids []) G10 (R170 ++ (([⟨gb156, cur158, 56⟩] : List Bx) ++ [⟨b5, #[kv, xv], 56⟩])) w171 := hs173; clear hs168 hf174
          replace hss := hs173.ss (I := G2) ((le134.trans le148).trans le167) (SubL.sub (.cons (List.mem_append_right _ (List.mem_append_right _ (.head _))) .nil))
          refine ⟨hss, ?_⟩
          refine dt 8 rfl (by kernel_rfl) (fun _ _ _ h => h) hss (fun _ h => r_assign rfl) rfl ?_
          refine draw_done (by kernel_rfl) ?_
          refine hK72 _ _ ?_; clear hK72 K71
          refine wp_seq_k fun K175 hK176 => ?_
          refine wl_begin ?_
          refine sq (r_move rfl) rfl ?_
          obtain ⟨G11, le179, hs180, hz181⟩ := hs173.freezeRow (R := R170) (L := (([⟨gb156, cur158, 56⟩] : List Bx) ++ [⟨b5, #[kv, xv], 56⟩])) hr172 (fun _ h => by cases h); clear hs173
          replace hs180 : St w0 I (ids []) G11 (([⟨gb156, cur158, 56⟩] : List Bx) ++ [⟨b5, #[kv, xv], 56⟩]) w171 := hs180
          refine sqo rfl fun K177 hK178 => ow_call (X := []) (L := (([⟨gb156, cur158, 56⟩] : List Bx) ++ [⟨b5, #[kv, xv], 56⟩])) (lb := []) hs180 (from_ok (pairs_of hz181 ((((pc143.snoc (hk.up ((le63.trans le134).trans le148)) (hx.up ((le63.trans le134).trans le148))).up le167).append pc162).up le179)) ((sl.app (.cons h1 h2 .nil)).app sr) (by simp only [List.length_append, T.length_toList, List.length_cons, List.length_nil]; omega)) (by kernel_rfl) rfl rfl rfl rfl rfl ?_
          rintro _ G12 X1 w184 ⟨p183, rfl, ht182⟩ le187 hs185 hid186
          obtain rfl : X1 = [] := List.map_eq_nil_iff.1 hid186
          replace hs185 : St w0 I (ids []) G12 (([⟨gb156, cur158, 56⟩] : List Bx) ++ [⟨b5, #[kv, xv], 56⟩]) w184 := hs185
          clear hs180 hid186
          refine hK178 _ _ ?_; clear hK178 K177
          refine sq (r_assign rfl) rfl ?_
          refine wl_nil ?_
          refine hK176 _ _ ?_; clear hK176 K175
          refine wp_ret ?_
          exact leave (X' := []) (L := (([⟨gb156, cur158, 56⟩] : List Bx) ++ [⟨b5, #[kv, xv], 56⟩])) hs185 rfl (res_one (v := .pointer p183) rfl (.tmp rfl rfl .nil)) ⟨_, rfl, by rw [show T.even l k x r = T.fromL (l.toList ++ [(k, x)] ++ r.toList) from (by simp [T.even, hE, hlt, qn58 h70])]; exact ht182⟩
    ·
      have p188 := of_decide_eq_false h50
      have hlt : ¬ (l.size < r.size) := by omega
      refine wp_seq_k fun K189 hK190 => ?_
      refine nrm (vals := [(0, .pointer lp), (1, .agg #[kv, xv]), (2, .pointer rp), (4, .pointer (some ⟨b5, 0, none⟩)), (6, .pointer none), (17, .bool (evenB ((l).size) ((r).size))), (27, .bool (decide ((((l).size : Nat) : Int) < (((r).size : Nat) : Int))))]) (.cons rfl (.cons rfl (.cons rfl (.cons rfl (.cons rfl (.cons rfl (.cons rfl .nil))))))) fun g191 => ?_
      refine wl_begin ?_
      refine sq (r_move rfl) rfl ?_
      refine sq (r_loadN (m := 2) rfl (by kernel_rfl) rfl (hs48.box (.head _)) rfl rfl) rfl ?_
      refine sq (r_move rfl) rfl ?_
      refine sqo rfl fun K192 hK193 => ow_call (X := []) (L := [⟨b5, #[kv, xv], 56⟩]) (lb := []) hs48 (turnR_ok hl hr hk hx (by (try simp only [T.size] at *); omega) (by intro e; subst e; have e0 : r.size = 0 := (by simp only [T.size] at *; omega); rw [e0] at hE; simp only [T.size] at hE; rw [evenB_00] at hE; cases hE)) (by kernel_rfl) rfl rfl rfl rfl rfl ?_
      rintro _ G13 X1 w197 ⟨p194, rfl, qn195, qs196⟩ le200 hs198 hid199
      obtain rfl : X1 = [] := List.map_eq_nil_iff.1 hid199
      replace hs198 : St w0 I (ids []) G13 [⟨b5, #[kv, xv], 56⟩] w197 := hs198
      clear hs48 hid199
      refine hK193 _ _ ?_; clear hK193 K192
      refine sq (r_assign rfl) rfl ?_
      refine wl_nil ?_
      refine hK190 _ _ ?_; clear hK190 K189
      refine wp_seq_k fun K201 hK202 => ?_
      refine wl_begin ?_
      refine sq (r_move rfl) rfl ?_
      refine sq (r_nep rfl rfl (by kernel_rfl) rfl rfl) rfl ?_
      refine wl_nil ?_
      refine hK202 _ _ ?_; clear hK202 K201
      refine condS rfl rfl (fun h203 => ?_) (fun h203 => ?_)
      ·
        have h204 : p194.isNone = false := by simpa using h203
        refine wp_seq_k fun K205 hK206 => ?_
        refine wl_begin ?_
        refine sq (r_move rfl) rfl ?_
        refine sq (r_assign rfl) rfl ?_
        refine wl_nil ?_
        refine hK206 _ _ ?_; clear hK206 K205
        refine wp_ret ?_
        exact leave (X' := []) (L := [⟨b5, #[kv, xv], 56⟩]) hs198 rfl (res_one (v := .pointer p194) rfl (.tmp rfl rfl .nil)) (by obtain ⟨t, e1, e2⟩ := qs196 h204; exact ⟨_, rfl, by rw [show T.even l k x r = t from (by simp [T.even, hE, hlt, e1])]; exact e2⟩)
      ·
        have h207 : p194.isNone = true := by simpa using h203
        refine wp_skip ?_
        refine hK9 _ _ ?_; clear hK9 K8
        refine wp_seq_k fun K208 hK209 => ?_
        refine draw_begin (S := SS G13 [⟨b5, #[kv, xv], 56⟩]) (by kernel_rfl) ?_
        have hs210 := hs198.drew; clear hs198
        have hss := hs210.ss (I := G13) (GH.le.refl _) (fun _ h => h)
        refine dt 0 rfl (by kernel_rfl) (fun _ _ _ h => h) hss (fun _ h => r_move rfl) rfl ?_
        refine dt 2 rfl (by kernel_rfl) (fun _ _ _ h => h) hss (fun _ h => r_loadN (m := 2) rfl (by kernel_rfl) rfl (h.box (.head _)) rfl rfl) rfl ?_
        refine dt 5 rfl (by kernel_rfl) (fun _ _ _ h => h) hss (fun _ h => r_move rfl) rfl ?_
        refine draw_all [1, 3] (by kernel_rfl) rfl (forall_2 ?_ ?_)
        ·
          refine dmo rfl (ow_callO (X := []) (L := [⟨b5, #[kv, xv], 56⟩]) (lb := []) hs210 (tlist_ok (hl.up le200) (by (try simp only [T.size] at *); omega) sl) (by kernel_rfl) rfl rfl rfl rfl rfl ?_)
          rintro _ G14 X1 N218 w219 ⟨gb211, cap212, cur213, rfl, rfl, hz214, hcap215, hmx216, pc217⟩ le222 hs220 hid221
          obtain rfl : X1 = [] := List.map_eq_nil_iff.1 hid221
          replace hs220 : St w0 I (ids []) G14 (([⟨gb211, cur213, 56⟩] : List Bx) ++ [⟨b5, #[kv, xv], 56⟩]) w219 := hs220
          clear hs210 hid221
          replace hss := hs220.ss (I := G13) le222 (SubL.sub (.cons (List.mem_append_right _ (.head _)) .nil))
          refine ⟨hss, ?_⟩
          refine dro 3 (by kernel_rfl) rfl (ow_newimm (mk := fun b => .slice (some ⟨b, 0, none⟩) 1 1) hs220 (r_buildSlice (e := 56) (cells := #[kv, xv]) (.cons rfl rfl .nil) (by kernel_rfl)) rfl ?_)
          rintro b223 G15 w224 hb225 le226 hs227 ge228
          clear hs220
          replace hb225 : G15 b223 = some (.cells #[kv, xv] 56 (0, 0)) := hb225
          replace hss := hs227.ss (I := G13) (le222.trans le226) (SubL.sub (.cons (List.mem_append_right _ (.head _)) .nil))
          refine ⟨hss, ?_⟩
          refine dro 4 (by kernel_rfl) rfl (ow_append (R := ([⟨gb211, cur213, 56⟩] : List Bx)) (L := [⟨b5, #[kv, xv], 56⟩]) (E := 56) (sz := 2) (bytes := 48) (news := [kv, xv]) hs227 (lrow_at hz214 hcap215 hmx216) (by kernel_rfl) rfl rfl rfl rfl rfl rfl (SliceAt.news (m := 2) (hs227.imm hb225) rfl) (ones_old (.cons (hk).one (.cons (hx).one .nil))) (by simp only [maxLen]; omega) (by omega) rfl ?_)
          rintro v229 R230 w231 hr232 hs233 hf234
          replace hs233 : St w0 I (ids []) G15 (R230 ++ [⟨b5, #[kv, xv], 56⟩]) w231 := hs233; clear hs227 hf234
          replace hss := hs233.ss (I := G13) (le222.trans le226) (SubL.sub (.cons (List.mem_append_right _ (.head _)) .nil))
          refine ⟨hss, ?_⟩
          refine nrmD (vals := [(0, .pointer lp), (1, .agg #[kv, xv]), (2, .pointer rp), (4, .pointer (some ⟨b5, 0, none⟩)), (6, .pointer none), (8, .pointer p194), (15, .bool (!p194.isNone)), (17, .bool (evenB ((l).size) ((r).size))), (27, .bool (decide ((((l).size : Nat) : Int) < (((r).size : Nat) : Int)))), (44, v229), (45, .pointer rp)]) (.cons rfl (.cons rfl (.cons rfl (.cons rfl (.cons rfl (.cons rfl (.cons rfl (.cons rfl (.cons rfl (.cons rfl (.cons rfl .nil))))))))))) fun g235 => ?_
          refine dro 6 (by kernel_rfl) rfl (ow_callO (X := []) (L := (R230 ++ [⟨b5, #[kv, xv], 56⟩])) (lb := []) hs233 (tlist_ok (hr.up ((le200.trans le222).trans le226)) (by (try simp only [T.size] at *); omega) sr) (by kernel_rfl) rfl rfl rfl rfl rfl ?_)
          rintro _ G16 X1 N243 w244 ⟨gb236, cap237, cur238, rfl, rfl, hz239, hcap240, hmx241, pc242⟩ le247 hs245 hid246
          obtain rfl : X1 = [] := List.map_eq_nil_iff.1 hid246
          replace hs245 : St w0 I (ids []) G16 (([⟨gb236, cur238, 56⟩] : List Bx) ++ (R230 ++ [⟨b5, #[kv, xv], 56⟩])) w244 := hs245
          clear hs233 hid246
          replace hss := hs245.ss (I := G13) ((le222.trans le226).trans le247) (SubL.sub (.cons (List.mem_append_right _ (List.mem_append_right _ (.head _))) .nil))
          refine ⟨hss, ?_⟩
          have hs248 : St w0 I (ids []) G16 (R230 ++ (([⟨gb236, cur238, 56⟩] : List Bx) ++ [⟨b5, #[kv, xv], 56⟩])) w244 := hs245.perm (List.Perm.trans ((List.Perm.refl _).append_left _) (List.perm_append_comm_assoc _ _ _)); clear hs245
          refine dro 7 (by kernel_rfl) rfl (ow_append (R := R230) (L := (([⟨gb236, cur238, 56⟩] : List Bx) ++ [⟨b5, #[kv, xv], 56⟩])) (E := 56) (sz := 2) (bytes := 48) (news := (cur238.toList.take ((r).size * 2))) hs248 hr232 (by kernel_rfl) rfl rfl rfl rfl rfl (by have := pc242.length; rw [T.length_toList] at this; exact this) (SliceAt.news (off := 0) (m := (r).size * 2) (hs248.box (x := ⟨gb236, cur238, 56⟩) (List.mem_append_right _ (List.mem_append_left _ (.head _)))) rfl) (ones_old pc242.ones) (by simp only [maxLen]; omega) (by omega) rfl ?_)
          rintro v249 R250 w251 hr252 hs253 hf254
          replace hs253 : St w0 I (ids []) G16 (R250 ++ (([⟨gb236, cur238, 56⟩] : List Bx) ++ [⟨b5, #[kv, xv], 56⟩])) w251 := hs253; clear hs248 hf254
          replace hss := hs253.ss (I := G13) ((le222.trans le226).trans le247) (SubL.sub (.cons (List.mem_append_right _ (List.mem_append_right _ (.head _))) .nil))
          refine ⟨hss, ?_⟩
          refine dt 8 rfl (by kernel_rfl) (fun _ _ _ h => h) hss (fun _ h => r_assign rfl) rfl ?_
          refine draw_done (by kernel_rfl) ?_
          refine hK209 _ _ ?_; clear hK209 K208
          refine wp_seq_k fun K255 hK256 => ?_
          refine wl_begin ?_
          refine sq (r_move rfl) rfl ?_
          obtain ⟨G17, le259, hs260, hz261⟩ := hs253.freezeRow (R := R250) (L := (([⟨gb236, cur238, 56⟩] : List Bx) ++ [⟨b5, #[kv, xv], 56⟩])) hr252 (fun _ h => by cases h); clear hs253
          replace hs260 : St w0 I (ids []) G17 (([⟨gb236, cur238, 56⟩] : List Bx) ++ [⟨b5, #[kv, xv], 56⟩]) w251 := hs260
          refine sqo rfl fun K257 hK258 => ow_call (X := []) (L := (([⟨gb236, cur238, 56⟩] : List Bx) ++ [⟨b5, #[kv, xv], 56⟩])) (lb := []) hs260 (from_ok (pairs_of hz261 (((((pc217.up le226).snoc (hk.up ((le200.trans le222).trans le226)) (hx.up ((le200.trans le222).trans le226))).up le247).append pc242).up le259)) ((sl.app (.cons h1 h2 .nil)).app sr) (by simp only [List.length_append, T.length_toList, List.length_cons, List.length_nil]; omega)) (by kernel_rfl) rfl rfl rfl rfl rfl ?_
          rintro _ G18 X1 w264 ⟨p263, rfl, ht262⟩ le267 hs265 hid266
          obtain rfl : X1 = [] := List.map_eq_nil_iff.1 hid266
          replace hs265 : St w0 I (ids []) G18 (([⟨gb236, cur238, 56⟩] : List Bx) ++ [⟨b5, #[kv, xv], 56⟩]) w264 := hs265
          clear hs260 hid266
          refine hK258 _ _ ?_; clear hK258 K257
          refine sq (r_assign rfl) rfl ?_
          refine wl_nil ?_
          refine hK256 _ _ ?_; clear hK256 K255
          refine wp_ret ?_
          exact leave (X' := []) (L := (([⟨gb236, cur238, 56⟩] : List Bx) ++ [⟨b5, #[kv, xv], 56⟩])) hs265 rfl (res_one (v := .pointer p263) rfl (.tmp rfl rfl .nil)) ⟨_, rfl, by rw [show T.even l k x r = T.fromL (l.toList ++ [(k, x)] ++ r.toList) from (by simp [T.even, hE, hlt, qn195 h207])]; exact ht262⟩
        ·
          refine dmo rfl (ow_newimm (mk := fun b => .slice (some ⟨b, 0, none⟩) 1 1) hs210 (r_buildSlice (e := 56) (cells := #[kv, xv]) (.cons rfl rfl .nil) (by kernel_rfl)) rfl ?_)
          rintro b268 G19 w269 hb270 le271 hs272 ge273
          clear hs210
          replace hb270 : G19 b268 = some (.cells #[kv, xv] 56 (0, 0)) := hb270
          replace hss := hs272.ss (I := G13) le271 (fun _ h => h)
          refine ⟨hss, ?_⟩
          refine dro 1 (by kernel_rfl) rfl (ow_callO (X := []) (L := [⟨b5, #[kv, xv], 56⟩]) (lb := []) hs272 (tlist_ok (hl.up (le200.trans le271)) (by (try simp only [T.size] at *); omega) sl) (by kernel_rfl) rfl rfl rfl rfl rfl ?_)
          rintro _ G20 X1 N281 w282 ⟨gb274, cap275, cur276, rfl, rfl, hz277, hcap278, hmx279, pc280⟩ le285 hs283 hid284
          obtain rfl : X1 = [] := List.map_eq_nil_iff.1 hid284
          replace hs283 : St w0 I (ids []) G20 (([⟨gb274, cur276, 56⟩] : List Bx) ++ [⟨b5, #[kv, xv], 56⟩]) w282 := hs283
          clear hs272 hid284
          replace hss := hs283.ss (I := G13) (le271.trans le285) (SubL.sub (.cons (List.mem_append_right _ (.head _)) .nil))
          refine ⟨hss, ?_⟩
          refine dro 4 (by kernel_rfl) rfl (ow_append (R := ([⟨gb274, cur276, 56⟩] : List Bx)) (L := [⟨b5, #[kv, xv], 56⟩]) (E := 56) (sz := 2) (bytes := 48) (news := [kv, xv]) hs283 (lrow_at hz277 hcap278 hmx279) (by kernel_rfl) rfl rfl rfl rfl rfl rfl (SliceAt.news (m := 2) (hs283.imm (le285 _ _ hb270)) rfl) (ones_old (.cons (hk).one (.cons (hx).one .nil))) (by simp only [maxLen]; omega) (by omega) rfl ?_)
          rintro v286 R287 w288 hr289 hs290 hf291
          replace hs290 : St w0 I (ids []) G20 (R287 ++ [⟨b5, #[kv, xv], 56⟩]) w288 := hs290; clear hs283 hf291
          replace hss := hs290.ss (I := G13) (le271.trans le285) (SubL.sub (.cons (List.mem_append_right _ (.head _)) .nil))
          refine ⟨hss, ?_⟩
          refine nrmD (vals := [(0, .pointer lp), (1, .agg #[kv, xv]), (2, .pointer rp), (4, .pointer (some ⟨b5, 0, none⟩)), (6, .pointer none), (8, .pointer p194), (15, .bool (!p194.isNone)), (17, .bool (evenB ((l).size) ((r).size))), (27, .bool (decide ((((l).size : Nat) : Int) < (((r).size : Nat) : Int)))), (44, v286), (45, .pointer rp)]) (.cons rfl (.cons rfl (.cons rfl (.cons rfl (.cons rfl (.cons rfl (.cons rfl (.cons rfl (.cons rfl (.cons rfl (.cons rfl .nil))))))))))) fun g292 => ?_
          refine dro 6 (by kernel_rfl) rfl (ow_callO (X := []) (L := (R287 ++ [⟨b5, #[kv, xv], 56⟩])) (lb := []) hs290 (tlist_ok (hr.up ((le200.trans le271).trans le285)) (by (try simp only [T.size] at *); omega) sr) (by kernel_rfl) rfl rfl rfl rfl rfl ?_)
          rintro _ G21 X1 N300 w301 ⟨gb293, cap294, cur295, rfl, rfl, hz296, hcap297, hmx298, pc299⟩ le304 hs302 hid303
          obtain rfl : X1 = [] := List.map_eq_nil_iff.1 hid303
          replace hs302 : St w0 I (ids []) G21 (([⟨gb293, cur295, 56⟩] : List Bx) ++ (R287 ++ [⟨b5, #[kv, xv], 56⟩])) w301 := hs302
          clear hs290 hid303
          replace hss := hs302.ss (I := G13) ((le271.trans le285).trans le304) (SubL.sub (.cons (List.mem_append_right _ (List.mem_append_right _ (.head _))) .nil))
          refine ⟨hss, ?_⟩
          have hs305 : St w0 I (ids []) G21 (R287 ++ (([⟨gb293, cur295, 56⟩] : List Bx) ++ [⟨b5, #[kv, xv], 56⟩])) w301 := hs302.perm (List.Perm.trans ((List.Perm.refl _).append_left _) (List.perm_append_comm_assoc _ _ _)); clear hs302
          refine dro 7 (by kernel_rfl) rfl (ow_append (R := R287) (L := (([⟨gb293, cur295, 56⟩] : List Bx) ++ [⟨b5, #[kv, xv], 56⟩])) (E := 56) (sz := 2) (bytes := 48) (news := (cur295.toList.take ((r).size * 2))) hs305 hr289 (by kernel_rfl) rfl rfl rfl rfl rfl (by have := pc299.length; rw [T.length_toList] at this; exact this) (SliceAt.news (off := 0) (m := (r).size * 2) (hs305.box (x := ⟨gb293, cur295, 56⟩) (List.mem_append_right _ (List.mem_append_left _ (.head _)))) rfl) (ones_old pc299.ones) (by simp only [maxLen]; omega) (by omega) rfl ?_)
          rintro v306 R307 w308 hr309 hs310 hf311
          replace hs310 : St w0 I (ids []) G21 (R307 ++ (([⟨gb293, cur295, 56⟩] : List Bx) ++ [⟨b5, #[kv, xv], 56⟩])) w308 := hs310; clear hs305 hf311
          replace hss := hs310.ss (I := G13) ((le271.trans le285).trans le304) (SubL.sub (.cons (List.mem_append_right _ (List.mem_append_right _ (.head _))) .nil))
          refine ⟨hss, ?_⟩
          refine dt 8 rfl (by kernel_rfl) (fun _ _ _ h => h) hss (fun _ h => r_assign rfl) rfl ?_
          refine draw_done (by kernel_rfl) ?_
          refine hK209 _ _ ?_; clear hK209 K208
          refine wp_seq_k fun K312 hK313 => ?_
          refine wl_begin ?_
          refine sq (r_move rfl) rfl ?_
          obtain ⟨G22, le316, hs317, hz318⟩ := hs310.freezeRow (R := R307) (L := (([⟨gb293, cur295, 56⟩] : List Bx) ++ [⟨b5, #[kv, xv], 56⟩])) hr309 (fun _ h => by cases h); clear hs310
          replace hs317 : St w0 I (ids []) G22 (([⟨gb293, cur295, 56⟩] : List Bx) ++ [⟨b5, #[kv, xv], 56⟩]) w308 := hs317
          refine sqo rfl fun K314 hK315 => ow_call (X := []) (L := (([⟨gb293, cur295, 56⟩] : List Bx) ++ [⟨b5, #[kv, xv], 56⟩])) (lb := []) hs317 (from_ok (pairs_of hz318 ((((pc280.snoc (hk.up ((le200.trans le271).trans le285)) (hx.up ((le200.trans le271).trans le285))).up le304).append pc299).up le316)) ((sl.app (.cons h1 h2 .nil)).app sr) (by simp only [List.length_append, T.length_toList, List.length_cons, List.length_nil]; omega)) (by kernel_rfl) rfl rfl rfl rfl rfl ?_
          rintro _ G23 X1 w321 ⟨p320, rfl, ht319⟩ le324 hs322 hid323
          obtain rfl : X1 = [] := List.map_eq_nil_iff.1 hid323
          replace hs322 : St w0 I (ids []) G23 (([⟨gb293, cur295, 56⟩] : List Bx) ++ [⟨b5, #[kv, xv], 56⟩]) w321 := hs322
          clear hs317 hid323
          refine hK315 _ _ ?_; clear hK315 K314
          refine sq (r_assign rfl) rfl ?_
          refine wl_nil ?_
          refine hK313 _ _ ?_; clear hK313 K312
          refine wp_ret ?_
          exact leave (X' := []) (L := (([⟨gb293, cur295, 56⟩] : List Bx) ++ [⟨b5, #[kv, xv], 56⟩])) hs322 rfl (res_one (v := .pointer p320) rfl (.tmp rfl rfl .nil)) ⟨_, rfl, by rw [show T.even l k x r = T.fromL (l.toList ++ [(k, x)] ++ r.toList) from (by simp [T.even, hE, hlt, qn195 h207])]; exact ht319⟩
end Go.Proofs.YtlnlodfnplkckaaDoor
/- The contracts of the trees: join, first, Pair, put, Put. -/
namespace Go.Proofs.YtlnlodfnplkckaaDoor
open T (Sm)
set_option linter.unusedVariables false
set_option linter.unusedSimpArgs false
theorem mX_congr {m : Option Nat} {v v' c c' : Nat} (h1 : v = v') (h2 : c = c') : mX m v c = mX m v' c' := by rw [h1, h2]
set_option maxRecDepth 100000 in
theorem join_ok {I : GH} {lp rp : Option Addr} {l r : T} {kv xv : Value} {k x : Bs} (hl : TreeAt I lp l) (hr : TreeAt I rp r) (hk : BytesAt I kv k) (hx : BytesAt I xv x) (hsz : l.size + 1 + r.size ≤ 1000000) (sl : Sm l.toList) (sr : Sm r.toList) (h1 : k.length ≤ 1000000) (h2 : x.length ≤ 1000000) :
    Fn Tryd.prog 160 #[.pointer lp, .agg #[kv, xv], .pointer rp] I [] (fun v J _ => ∃ p, v = .pointer p ∧ TreeAt J p (T.join l k x r)) := by
  have key : ∀ (n : Nat) {I : GH} {lp rp : Option Addr} {l r : T} {kv xv : Value} {k x : Bs}, l.size + r.size = n → TreeAt I lp l → TreeAt I rp r → BytesAt I kv k → BytesAt I xv x → l.size + 1 + r.size ≤ 1000000 → Sm l.toList → Sm r.toList → k.length ≤ 1000000 → x.length ≤ 1000000 → Fn Tryd.prog 160 #[.pointer lp, .agg #[kv, xv], .pointer rp] I [] (fun v J _ => ∃ p, v = .pointer p ∧ TreeAt J p (T.join l k x r)) := by
    clear hl hr hk hx hsz sl sr h1 h2
    intro n
    induction n using Nat.strongRecOn with
    | _ n ih =>
    intro I lp rp l r kv xv k x hn hl hr hk hx hsz sl sr h1 h2
    refine enter (args := [.pointer lp, .agg #[kv, xv], .pointer rp]) Tryd.func160 rfl rfl fun w0 hs0 => ?_
    refine wp_seq_k fun K1 hK2 => ?_
    refine wl_begin ?_
    refine sqo rfl fun K3 hK4 => ow_newbox (mk := fun b => .pointer (some ⟨b, 0, none⟩)) hs0 (r_box rfl rfl) rfl ?_
    rintro b5 w6 (hs7 : St w0 I (ids []) I [⟨b5, #[kv, xv], 56⟩] w6)
    clear hs0
    refine hK4 _ _ ?_; clear hK4 K3
    refine sq (r_assign rfl) rfl ?_
    refine wl_nil ?_
    refine hK2 _ _ ?_; clear hK2 K1
    refine wp_seq_k fun K8 hK9 => ?_
    refine wp_block ?_
    refine wp_seq_k fun K10 hK11 => ?_
    refine wl_begin ?_
    refine sq (r_move rfl) rfl ?_
    refine sqo rfl fun K12 hK13 => ow_call (X := []) (L := [⟨b5, #[kv, xv], 56⟩]) (lb := []) hs7 (tsize_ok hl) (by kernel_rfl) rfl rfl rfl rfl rfl ?_
    rintro _ _ X1 w14 ⟨rfl, rfl⟩ - hs15 hid16
    obtain rfl : X1 = [] := List.map_eq_nil_iff.1 hid16
    replace hs15 : St w0 I (ids []) I [⟨b5, #[kv, xv], 56⟩] w14 := hs15
    clear hs7 hid16
    refine hK13 _ _ ?_; clear hK13 K12
    refine sq (r_move rfl) rfl ?_
    refine sqo rfl fun K17 hK18 => ow_call (X := []) (L := [⟨b5, #[kv, xv], 56⟩]) (lb := []) hs15 (tsize_ok hr) (by kernel_rfl) rfl rfl rfl rfl rfl ?_
    rintro _ _ X1 w19 ⟨rfl, rfl⟩ - hs20 hid21
    obtain rfl : X1 = [] := List.map_eq_nil_iff.1 hid21
    replace hs20 : St w0 I (ids []) I [⟨b5, #[kv, xv], 56⟩] w19 := hs20
    clear hs15 hid21
    refine hK18 _ _ ?_; clear hK18 K17
    refine sqo rfl fun K22 hK23 => ow_call (X := []) (L := [⟨b5, #[kv, xv], 56⟩]) (lb := []) hs20 (wEven_ok (l := (l).size) (r := (r).size) rfl rfl (by (try simp only [T.size] at *); omega) (by (try simp only [T.size] at *); omega)) (by kernel_rfl) rfl rfl rfl rfl rfl ?_
    rintro _ _ X1 w24 ⟨rfl, rfl⟩ - hs25 hid26
    obtain rfl : X1 = [] := List.map_eq_nil_iff.1 hid26
    replace hs25 : St w0 I (ids []) I [⟨b5, #[kv, xv], 56⟩] w24 := hs25
    clear hs20 hid26
    refine hK23 _ _ ?_; clear hK23 K22
    refine sq (r_assign rfl) rfl ?_
    refine wl_nil ?_
    refine hK11 _ _ ?_; clear hK11 K10
    refine condS rfl rfl (fun h27 => ?_) (fun h27 => ?_)
    ·
      have hE : evenB l.size r.size = true := h27
      refine wp_seq_k fun K28 hK29 => ?_
      refine wl_begin ?_
      refine sq (r_move rfl) rfl ?_
      refine sq (r_loadN (m := 2) rfl (by kernel_rfl) rfl (hs25.box (.head _)) rfl rfl) rfl ?_
      refine sq (r_move rfl) rfl ?_
      refine sqo rfl fun K30 hK31 => ow_call (X := []) (L := [⟨b5, #[kv, xv], 56⟩]) (lb := []) hs25 (node_ok hl hr hk hx (by (try simp only [T.size] at *); omega)) (by kernel_rfl) rfl rfl rfl rfl rfl ?_
      rintro _ G1 X1 w34 ⟨p32, rfl, ht33⟩ le37 hs35 hid36
      obtain rfl : X1 = [] := List.map_eq_nil_iff.1 hid36
      replace hs35 : St w0 I (ids []) G1 [⟨b5, #[kv, xv], 56⟩] w34 := hs35
      clear hs25 hid36
      refine hK31 _ _ ?_; clear hK31 K30
      refine sq (r_assign rfl) rfl ?_
      refine wl_nil ?_
      refine hK29 _ _ ?_; clear hK29 K28
      refine wp_ret ?_
      exact leave (X' := []) (L := [⟨b5, #[kv, xv], 56⟩]) hs35 rfl (res_one (v := .pointer p32) rfl (.tmp rfl rfl .nil)) ⟨_, rfl, by rw [show T.join l k x r = (T.node l k x r) from (by rw [T.join.eq_def]; simp [hE])]; exact ht33⟩
    ·
      have hE : evenB l.size r.size = false := h27
      refine wp_seq_k fun K38 hK39 => ?_
      refine wl_begin ?_
      refine sq (r_move rfl) rfl ?_
      refine sqo rfl fun K40 hK41 => ow_call (X := []) (L := [⟨b5, #[kv, xv], 56⟩]) (lb := []) hs25 (tsize_ok hl) (by kernel_rfl) rfl rfl rfl rfl rfl ?_
      rintro _ _ X1 w42 ⟨rfl, rfl⟩ - hs43 hid44
      obtain rfl : X1 = [] := List.map_eq_nil_iff.1 hid44
      replace hs43 : St w0 I (ids []) I [⟨b5, #[kv, xv], 56⟩] w42 := hs43
      clear hs25 hid44
      refine hK41 _ _ ?_; clear hK41 K40
      refine sq (r_move rfl) rfl ?_
      refine sqo rfl fun K45 hK46 => ow_call (X := []) (L := [⟨b5, #[kv, xv], 56⟩]) (lb := []) hs43 (tsize_ok hr) (by kernel_rfl) rfl rfl rfl rfl rfl ?_
      rintro _ _ X1 w47 ⟨rfl, rfl⟩ - hs48 hid49
      obtain rfl : X1 = [] := List.map_eq_nil_iff.1 hid49
      replace hs48 : St w0 I (ids []) I [⟨b5, #[kv, xv], 56⟩] w47 := hs48
      clear hs43 hid49
      refine hK46 _ _ ?_; clear hK46 K45
      refine sq (r_gti rfl rfl rfl rfl) rfl ?_
      refine sq (r_assign rfl) rfl ?_
      refine wl_nil ?_
      refine hK39 _ _ ?_; clear hK39 K38
      refine condS rfl rfl (fun h50 => ?_) (fun h50 => ?_)
      ·
        have p51 := of_decide_eq_true h50
        have hlt : (r.size < l.size) := by omega
        obtain ⟨al, ak, ax, ar, ea⟩ := T.of_ne (t := l) (by intro e; subst e; simp only [T.size] at *; omega)
        have ha' := hl; rw [ea] at ha'
        obtain ⟨ab, akv, axv, alp, arp, rfl, hab, hak, hax, hal, har⟩ := ha'
        have sa' := sl; rw [ea] at sa'; obtain ⟨sal, sak, sax, sar⟩ := T.Sm.node sa'
        have za : l.size = al.size + 1 + ar.size := by rw [ea]; rfl
        refine wp_seq_k fun K52 hK53 => ?_
        refine nrm (vals := [(0, .pointer (some ⟨ab, 0, none⟩)), (1, .agg #[kv, xv]), (2, .pointer rp), (4, .pointer (some ⟨b5, 0, none⟩)), (6, .pointer none), (7, .bool (evenB ((l).size) ((r).size))), (17, .bool (decide ((((r).size : Nat) : Int) < (((l).size : Nat) : Int))))]) (.cons rfl (.cons rfl (.cons rfl (.cons rfl (.cons rfl (.cons rfl (.cons rfl .nil))))))) fun g54 => ?_
        refine draw_begin (S := SS I [⟨b5, #[kv, xv], 56⟩]) (by kernel_rfl) ?_
        have hs55 := hs48.drew; clear hs48
        have hss := hs55.ss (I := I) (GH.le.refl _) (fun _ h => h)
        refine dt 0 rfl (by kernel_rfl) (fun _ _ _ h => h) hss (fun _ h => r_move rfl) rfl ?_
        refine dt 1 rfl (by kernel_rfl) (fun _ _ _ h => h) hss (fun _ h => r_nilCheck rfl rfl) rfl ?_
        refine dt 2 rfl (by kernel_rfl) (fun _ _ _ h => h) hss (fun _ h => (r_fieldAddr (off := 2) rfl (by kernel_rfl) rfl)) rfl ?_
        refine dt 3 rfl (by kernel_rfl) (fun _ _ _ h => h) hss (fun _ h => r_load rfl (by kernel_rfl) rfl (h.imm hab) rfl) rfl ?_
        refine dt 4 rfl (by kernel_rfl) (fun _ _ _ h => h) hss (fun _ h => r_move rfl) rfl ?_
        refine dt 5 rfl (by kernel_rfl) (fun _ _ _ h => h) hss (fun _ h => r_nilCheck rfl rfl) rfl ?_
        refine dt 6 rfl (by kernel_rfl) (fun _ _ _ h => h) hss (fun _ h => (r_fieldAddr (off := 0) rfl (by kernel_rfl) rfl)) rfl ?_
        refine dt 7 rfl (by kernel_rfl) (fun _ _ _ h => h) hss (fun _ h => r_loadN (m := 2) rfl (by kernel_rfl) rfl (h.imm hab) rfl rfl) rfl ?_
        refine dt 8 rfl (by kernel_rfl) (fun _ _ _ h => h) hss (fun _ h => r_move rfl) rfl ?_
        refine dt 9 rfl (by kernel_rfl) (fun _ _ _ h => h) hss (fun _ h => r_nilCheck rfl rfl) rfl ?_
        refine dt 10 rfl (by kernel_rfl) (fun _ _ _ h => h) hss (fun _ h => (r_fieldAddr (off := 3) rfl (by kernel_rfl) rfl)) rfl ?_
        refine dt 11 rfl (by kernel_rfl) (fun _ _ _ h => h) hss (fun _ h => r_load rfl (by kernel_rfl) rfl (h.imm hab) rfl) rfl ?_
        refine dt 12 rfl (by kernel_rfl) (fun _ _ _ h => h) hss (fun _ h => r_loadN (m := 2) rfl (by kernel_rfl) rfl (h.box (.head _)) rfl rfl) rfl ?_
        refine nrmD (vals := [(0, .pointer (some ⟨ab, 0, none⟩)), (1, .agg #[kv, xv]), (2, .pointer rp), (4, .pointer (some ⟨b5, 0, none⟩)), (6, .pointer none), (7, .bool (evenB ((l).size) ((r).size))), (17, .bool (decide ((((r).size : Nat) : Int) < (((l).size : Nat) : Int)))), (26, .pointer alp), (30, .agg #[akv, axv]), (34, .pointer arp), (35, .agg #[kv, xv])]) (.cons rfl (.cons rfl (.cons rfl (.cons rfl (.cons rfl (.cons rfl (.cons rfl (.cons rfl (.cons rfl (.cons rfl (.cons rfl .nil))))))))))) fun g56 => ?_
        refine dt 13 rfl (by kernel_rfl) (fun _ _ _ h => h) hss (fun _ h => r_move rfl) rfl ?_
        refine dro 14 (by kernel_rfl) rfl (ow_call (X := []) (L := [⟨b5, #[kv, xv], 56⟩]) (lb := []) hs55 (ih _ (by omega) rfl har hr hk hx (by omega) sar sr h1 h2) (by kernel_rfl) rfl rfl rfl rfl rfl ?_)
        rintro _ G2 X1 w59 ⟨p57, rfl, ht58⟩ le62 hs60 hid61
        obtain rfl : X1 = [] := List.map_eq_nil_iff.1 hid61
        replace hs60 : St w0 I (ids []) G2 [⟨b5, #[kv, xv], 56⟩] w59 := hs60
        clear hs55 hid61
        replace hss := hs60.ss (I := I) le62 (fun _ h => h)
        refine ⟨hss, ?_⟩
        refine dro 15 (by kernel_rfl) rfl (ow_call (X := []) (L := [⟨b5, #[kv, xv], 56⟩]) (lb := []) hs60 (even_ok (hal.up le62) ht58 (hak.up le62) (hax.up le62) (by simp only [T.size_join]; omega) sal (T.Sm.join sar h1 h2 sr) sak sax) (by kernel_rfl) rfl rfl rfl rfl rfl ?_)
        rintro _ G3 X1 w65 ⟨p63, rfl, ht64⟩ le68 hs66 hid67
        obtain rfl : X1 = [] := List.map_eq_nil_iff.1 hid67
        replace hs66 : St w0 I (ids []) G3 [⟨b5, #[kv, xv], 56⟩] w65 := hs66
        clear hs60 hid67
        replace hss := hs66.ss (I := I) (le62.trans le68) (fun _ h => h)
        refine ⟨hss, ?_⟩
        refine dt 16 rfl (by kernel_rfl) (fun _ _ _ h => h) hss (fun _ h => r_assign rfl) rfl ?_
        refine draw_done (by kernel_rfl) ?_
        refine hK53 _ _ ?_; clear hK53 K52
        refine wp_ret ?_
        exact leave (X' := []) (L := [⟨b5, #[kv, xv], 56⟩]) hs66 rfl (res_one (v := .pointer p63) rfl (.tmp rfl rfl .nil)) ⟨_, rfl, by rw [show T.join l k x r = (T.even al ak ax (T.join ar k x r)) from (by subst ea; rw [T.join.eq_def]; simp [hE, hlt])]; exact ht64⟩
      ·
        have p69 := of_decide_eq_false h50
        have hlt : ¬ (r.size < l.size) := by omega
        obtain ⟨al, ak, ax, ar, ea⟩ := T.of_ne (t := r) (by intro e; subst e; have e0 : l.size = 0 := (by simp only [T.size] at *; omega); rw [e0] at hE; simp only [T.size] at hE; rw [evenB_00] at hE; cases hE)
        have ha' := hr; rw [ea] at ha'
        obtain ⟨ab, akv, axv, alp, arp, rfl, hab, hak, hax, hal, har⟩ := ha'
        have sa' := sr; rw [ea] at sa'; obtain ⟨sal, sak, sax, sar⟩ := T.Sm.node sa'
        have za : r.size = al.size + 1 + ar.size := by rw [ea]; rfl
        refine wp_skip ?_
        refine hK9 _ _ ?_; clear hK9 K8
        refine wp_seq_k fun K70 hK71 => ?_
        refine nrm (vals := [(0, .pointer lp), (1, .agg #[kv, xv]), (2, .pointer (some ⟨ab, 0, none⟩)), (4, .pointer (some ⟨b5, 0, none⟩)), (6, .pointer none), (7, .bool (evenB ((l).size) ((r).size))), (17, .bool (decide ((((r).size : Nat) : Int) < (((l).size : Nat) : Int))))]) (.cons rfl (.cons rfl (.cons rfl (.cons rfl (.cons rfl (.cons rfl (.cons rfl .nil))))))) fun g72 => ?_
        refine draw_begin (S := SS I [⟨b5, #[kv, xv], 56⟩]) (by kernel_rfl) ?_
        have hs73 := hs48.drew; clear hs48
        have hss := hs73.ss (I := I) (GH.le.refl _) (fun _ h => h)
        refine dt 0 rfl (by kernel_rfl) (fun _ _ _ h => h) hss (fun _ h => r_move rfl) rfl ?_
        refine dt 1 rfl (by kernel_rfl) (fun _ _ _ h => h) hss (fun _ h => r_loadN (m := 2) rfl (by kernel_rfl) rfl (h.box (.head _)) rfl rfl) rfl ?_
        refine dt 2 rfl (by kernel_rfl) (fun _ _ _ h => h) hss (fun _ h => r_move rfl) rfl ?_
        refine dt 3 rfl (by kernel_rfl) (fun _ _ _ h => h) hss (fun _ h => r_nilCheck rfl rfl) rfl ?_
        refine dt 4 rfl (by kernel_rfl) (fun _ _ _ h => h) hss (fun _ h => (r_fieldAddr (off := 2) rfl (by kernel_rfl) rfl)) rfl ?_
        refine dt 5 rfl (by kernel_rfl) (fun _ _ _ h => h) hss (fun _ h => r_load rfl (by kernel_rfl) rfl (h.imm hab) rfl) rfl ?_
        refine dt 7 rfl (by kernel_rfl) (fun _ _ _ h => h) hss (fun _ h => r_move rfl) rfl ?_
        refine dt 8 rfl (by kernel_rfl) (fun _ _ _ h => h) hss (fun _ h => r_nilCheck rfl rfl) rfl ?_
        refine dt 9 rfl (by kernel_rfl) (fun _ _ _ h => h) hss (fun _ h => (r_fieldAddr (off := 0) rfl (by kernel_rfl) rfl)) rfl ?_
        refine dt 10 rfl (by kernel_rfl) (fun _ _ _ h => h) hss (fun _ h => r_loadN (m := 2) rfl (by kernel_rfl) rfl (h.imm hab) rfl rfl) rfl ?_
        refine dt 11 rfl (by kernel_rfl) (fun _ _ _ h => h) hss (fun _ h => r_move rfl) rfl ?_
        refine dt 12 rfl (by kernel_rfl) (fun _ _ _ h => h) hss (fun _ h => r_nilCheck rfl rfl) rfl ?_
        refine dt 13 rfl (by kernel_rfl) (fun _ _ _ h => h) hss (fun _ h => (r_fieldAddr (off := 3) rfl (by kernel_rfl) rfl)) rfl ?_
        refine nrmD (vals := [(0, .pointer lp), (1, .agg #[kv, xv]), (2, .pointer (some ⟨ab, 0, none⟩)), (4, .pointer (some ⟨b5, 0, none⟩)), (6, .pointer none), (7, .bool (evenB ((l).size) ((r).size))), (17, .bool (decide ((((r).size : Nat) : Int) < (((l).size : Nat) : Int)))), (39, .pointer lp), (40, .agg #[kv, xv]), (44, .pointer alp), (49, .agg #[akv, axv]), (52, .pointer (some ⟨ab, 3, none⟩))]) (.cons rfl (.cons rfl (.cons rfl (.cons rfl (.cons rfl (.cons rfl (.cons rfl (.cons rfl (.cons rfl (.cons rfl (.cons rfl (.cons rfl .nil)))))))))))) fun g74 => ?_
        refine dt 14 rfl (by kernel_rfl) (fun _ _ _ h => h) hss (fun _ h => r_load rfl (by kernel_rfl) rfl (h.imm hab) rfl) rfl ?_
        refine dro 6 (by kernel_rfl) rfl (ow_call (X := []) (L := [⟨b5, #[kv, xv], 56⟩]) (lb := []) hs73 (ih _ (by omega) rfl hl hal hk hx (by omega) sl sal h1 h2) (by kernel_rfl) rfl rfl rfl rfl rfl ?_)
        rintro _ G4 X1 w77 ⟨p75, rfl, ht76⟩ le80 hs78 hid79
        obtain rfl : X1 = [] := List.map_eq_nil_iff.1 hid79
        replace hs78 : St w0 I (ids []) G4 [⟨b5, #[kv, xv], 56⟩] w77 := hs78
        clear hs73 hid79
        replace hss := hs78.ss (I := I) le80 (fun _ h => h)
        refine ⟨hss, ?_⟩
        refine dro 15 (by kernel_rfl) rfl (ow_call (X := []) (L := [⟨b5, #[kv, xv], 56⟩]) (lb := []) hs78 (even_ok ht76 (har.up le80) (hak.up le80) (hax.up le80) (by simp only [T.size_join]; omega) (T.Sm.join sl h1 h2 sal) sar sak sax) (by kernel_rfl) rfl rfl rfl rfl rfl ?_)
        rintro _ G5 X1 w83 ⟨p81, rfl, ht82⟩ le86 hs84 hid85
        obtain rfl : X1 = [] := List.map_eq_nil_iff.1 hid85
        replace hs84 : St w0 I (ids []) G5 [⟨b5, #[kv, xv], 56⟩] w83 := hs84
        clear hs78 hid85
        replace hss := hs84.ss (I := I) (le80.trans le86) (fun _ h => h)
        refine ⟨hss, ?_⟩
        refine dt 16 rfl (by kernel_rfl) (fun _ _ _ h => h) hss (fun _ h => r_assign rfl) rfl ?_
        refine draw_done (by kernel_rfl) ?_
        refine hK71 _ _ ?_; clear hK71 K70
        refine wp_ret ?_
        exact leave (X' := []) (L := [⟨b5, #[kv, xv], 56⟩]) hs84 rfl (res_one (v := .pointer p81) rfl (.tmp rfl rfl .nil)) ⟨_, rfl, by rw [show T.join l k x r = (T.even (T.join l k x al) ak ax ar) from (by subst ea; rw [T.join.eq_def]; simp [hE, hlt])]; exact ht82⟩
  exact key _ rfl hl hr hk hx hsz sl sr h1 h2
set_option maxRecDepth 100000 in
theorem first_ok {m : Option Nat} {t1 : T} : ∀ {I : GH} {p : Option Addr} {k x : Bs} {r : T} {v c : Nat}, TreeAt I p (.node t1 k x r) → (T.node t1 k x r).size ≤ 1000000 → Sm (T.node t1 k x r).toList →
    Fn Tryd.prog 159 #[.pointer p, mV m] I (mX m v c) (fun u J X => ∃ kv xv q, u = .tuple #[.agg #[kv, xv], .pointer q] ∧ BytesAt J kv (T.first t1 k x r).1 ∧ BytesAt J xv (T.first t1 k x r).2.1 ∧ TreeAt J q (T.first t1 k x r).2.2.1 ∧ X = mX m (v + (T.first t1 k x r).2.2.2) c) := by
  induction t1 with
  | nil =>
    intro I p k x r v c ht hsz hsm
    obtain ⟨b, kv, xv, lp, rp, rfl, hb, hk, hx, hl, hr⟩ := ht
    obtain rfl : lp = none := hl
    obtain ⟨sl, s1, s2, sr⟩ := T.Sm.node hsm
    generalize hz0 : T.nil.size + 1 + r.size = sz0 at hb
    refine enter (args := [.pointer (some ⟨b, 0, none⟩), (mV m)]) Tryd.func159 rfl rfl fun w0 hs0 => ?_
    replace hs0 : St w0 I (ids (mX m (v) (c))) I (mX m (v) (c) ++ []) w0 := by simpa using hs0
    refine wp_seq_k fun K1 hK2 => ?_
    refine wl_begin ?_
    refine sqo rfl fun K3 hK4 => ow_newbox (mk := fun b => .pointer (some ⟨b, 0, none⟩)) hs0 (r_alloc (cs := [.slice none 0 0, .slice none 0 0]) (by kernel_rfl)) rfl ?_
    rintro b5 w6 (hs7 : St w0 I (ids (mX m (v) (c))) I (⟨b5, #[.slice none 0 0, .slice none 0 0], 56⟩ :: (mX m (v) (c) ++ [])) w6)
    clear hs0
    refine hK4 _ _ ?_; clear hK4 K3
    refine sq (r_assign rfl) rfl ?_
    refine wl_nil ?_
    refine hK2 _ _ ?_; clear hK2 K1
    refine wp_seq_k fun K8 hK9 => ?_
    refine wl_begin ?_
    refine sq (r_move rfl) rfl ?_
    have hs12 : St w0 I (ids (mX m (v) (c))) I (mX m (v) (c) ++ ([⟨b5, #[.slice none 0 0, .slice none 0 0], 56⟩] : List Bx)) w6 := hs7.perm (List.Perm.trans ((List.Perm.refl _).cons _) (List.perm_middle (l₁ := (mX m (v) (c) : List Bx)) (a := (⟨b5, #[.slice none 0 0, .slice none 0 0], 56⟩ : Bx)) (l₂ := [])).symm); clear hs7
    refine sqo rfl fun K10 hK11 => ow_call (X := mX m (v) (c)) (L := [⟨b5, #[.slice none 0 0, .slice none 0 0], 56⟩]) (lb := []) hs12 (visit_ok) (by kernel_rfl) rfl rfl rfl rfl rfl ?_
    rintro _ _ X1 w13 ⟨rfl, rfl⟩ - hs14 hid15
    replace hs14 : St w0 I (ids (mX m (v) (c))) I (mX m (v + 1) (c) ++ ([⟨b5, #[.slice none 0 0, .slice none 0 0], 56⟩] : List Bx)) w13 := hs14
    clear hs12 hid15
    refine hK11 _ _ ?_; clear hK11 K10
    refine wl_nil ?_
    refine hK9 _ _ ?_; clear hK9 K8
    refine wp_seq_k fun K16 hK17 => ?_
    refine wp_seq_k fun K18 hK19 => ?_
    refine wl_begin ?_
    refine sq (r_move rfl) rfl ?_
    refine sq (r_nilCheck rfl rfl) rfl ?_
    refine sq (r_fieldAddr (off := 2) rfl (by kernel_rfl) rfl) rfl ?_
    refine sq (r_load rfl (by kernel_rfl) rfl (hs14.imm hb) rfl) rfl ?_
    refine sq (r_eqp rfl rfl (by kernel_rfl) rfl rfl) rfl ?_
    refine wl_nil ?_
    refine hK19 _ _ ?_; clear hK19 K18
    refine condT rfl rfl ?_
    refine wp_seq_k fun K20 hK21 => ?_
    refine draw_begin (S := SS I []) (by kernel_rfl) ?_
    have hs22 := hs14.drew; clear hs14
    have hss := hs22.ss (I := I) (GH.le.refl _) (SubL.sub .nil)
    refine dt 0 rfl (by kernel_rfl) (fun _ _ _ h => h) hss (fun _ h => r_move rfl) rfl ?_
    refine dt 1 rfl (by kernel_rfl) (fun _ _ _ h => h) hss (fun _ h => r_nilCheck rfl rfl) rfl ?_
    refine dt 2 rfl (by kernel_rfl) (fun _ _ _ h => h) hss (fun _ h => (r_fieldAddr (off := 0) rfl (by kernel_rfl) rfl)) rfl ?_
    refine dt 3 rfl (by kernel_rfl) (fun _ _ _ h => h) hss (fun _ h => r_loadN (m := 2) rfl (by kernel_rfl) rfl (h.imm hb) rfl rfl) rfl ?_
    refine nrmD (vals := [(0, .pointer (some ⟨b, 0, none⟩)), (1, (mV m)), (4, .pointer (some ⟨b5, 0, none⟩)), (5, .pointer none), (14, .bool true), (18, .agg #[kv, xv])]) (.cons rfl (.cons rfl (.cons rfl (.cons rfl (.cons rfl (.cons rfl .nil)))))) fun g23 => ?_
    refine dt 4 rfl (by kernel_rfl) (fun _ _ _ h => h) hss (fun _ h => r_move rfl) rfl ?_
    refine dt 5 rfl (by kernel_rfl) (fun _ _ _ h => h) hss (fun _ h => r_nilCheck rfl rfl) rfl ?_
    refine dt 6 rfl (by kernel_rfl) (fun _ _ _ h => h) hss (fun _ h => (r_fieldAddr (off := 3) rfl (by kernel_rfl) rfl)) rfl ?_
    refine dt 7 rfl (by kernel_rfl) (fun _ _ _ h => h) hss (fun _ h => r_load rfl (by kernel_rfl) rfl (h.imm hb) rfl) rfl ?_
    have hs24 : St w0 I (ids (mX m (v) (c))) I (⟨b5, #[.slice none 0 0, .slice none 0 0], 56⟩ :: (mX m (v + 1) (c) ++ [])) (w13.drew) := hs22.perm (List.Perm.trans ((List.Perm.refl _).append_left _) (List.perm_middle (l₁ := (mX m (v + 1) (c) : List Bx)) (a := (⟨b5, #[.slice none 0 0, .slice none 0 0], 56⟩ : Bx)) (l₂ := []))); clear hs22
    refine dro 8 (by kernel_rfl) rfl (ow_store (vs := [kv, xv]) hs24 rfl rfl (by kernel_rfl) rfl rfl (.cons (hk).one (.cons (hx).one .nil)) rfl ?_)
    rintro w25 (hs26 : St w0 I (ids (mX m (v) (c))) I (⟨b5, #[kv, xv], 56⟩ :: (mX m (v + 1) (c) ++ [])) w25)
    clear hs24
    replace hss := hs26.ss (I := I) (GH.le.refl _) (SubL.sub .nil)
    refine ⟨hss, ?_⟩
    refine dt 9 rfl (by kernel_rfl) (fun _ _ _ h => h) hss (fun _ h => r_assign rfl) rfl ?_
    refine draw_done (by kernel_rfl) ?_
    refine hK21 _ _ ?_; clear hK21 K20
    refine wp_ret ?_
    have hs27 : St w0 I (ids (mX m (v) (c))) I (mX m (v + 1) (c) ++ ([⟨b5, #[kv, xv], 56⟩] : List Bx)) w25 := hs26.perm (List.Perm.trans ((List.Perm.refl _).cons _) (List.perm_middle (l₁ := (mX m (v + 1) (c) : List Bx)) (a := (⟨b5, #[kv, xv], 56⟩ : Bx)) (l₂ := [])).symm); clear hs26
    exact leave (X' := mX m (v + 1) (c)) (L := [⟨b5, #[kv, xv], 56⟩]) hs27 (mX_ids _ _ _ _ _) (res_many (vs := [.agg #[kv, xv], .pointer rp]) rfl (.agg (m := 2) rfl rfl (by kernel_rfl) (hs27.box (List.mem_append_right _ (.head _))) rfl rfl (.tmp rfl rfl .nil)) rfl) ⟨_, _, _, rfl, hk, hx, hr, mX_congr (by simp only [T.first]; try omega) rfl⟩
  | node l1 k1 x1 r1 ih =>
    intro I p k x r v c ht hsz hsm
    obtain ⟨b, kv, xv, lp, rp, rfl, hb, hk, hx, hl, hr⟩ := ht
    obtain ⟨sl, s1, s2, sr⟩ := T.Sm.node hsm
    generalize hz0 : (T.node l1 k1 x1 r1).size + 1 + r.size = sz0 at hb
    obtain ⟨lb, hlb⟩ : ∃ lb, lp = some ⟨lb, 0, none⟩ := by obtain ⟨lb, _, _, _, _, e, _⟩ := hl; exact ⟨lb, e⟩
    subst hlb
    refine enter (args := [.pointer (some ⟨b, 0, none⟩), (mV m)]) Tryd.func159 rfl rfl fun w0 hs0 => ?_
    replace hs0 : St w0 I (ids (mX m (v) (c))) I (mX m (v) (c) ++ []) w0 := by simpa using hs0
    refine wp_seq_k fun K1 hK2 => ?_
    refine wl_begin ?_
    refine sqo rfl fun K3 hK4 => ow_newbox (mk := fun b => .pointer (some ⟨b, 0, none⟩)) hs0 (r_alloc (cs := [.slice none 0 0, .slice none 0 0]) (by kernel_rfl)) rfl ?_
    rintro b5 w6 (hs7 : St w0 I (ids (mX m (v) (c))) I (⟨b5, #[.slice none 0 0, .slice none 0 0], 56⟩ :: (mX m (v) (c) ++ [])) w6)
    clear hs0
    refine hK4 _ _ ?_; clear hK4 K3
    refine sq (r_assign rfl) rfl ?_
    refine wl_nil ?_
    refine hK2 _ _ ?_; clear hK2 K1
    refine wp_seq_k fun K8 hK9 => ?_
    refine wl_begin ?_
    refine sq (r_move rfl) rfl ?_
    have hs12 : St w0 I (ids (mX m (v) (c))) I (mX m (v) (c) ++ ([⟨b5, #[.slice none 0 0, .slice none 0 0], 56⟩] : List Bx)) w6 := hs7.perm (List.Perm.trans ((List.Perm.refl _).cons _) (List.perm_middle (l₁ := (mX m (v) (c) : List Bx)) (a := (⟨b5, #[.slice none 0 0, .slice none 0 0], 56⟩ : Bx)) (l₂ := [])).symm); clear hs7
    refine sqo rfl fun K10 hK11 => ow_call (X := mX m (v) (c)) (L := [⟨b5, #[.slice none 0 0, .slice none 0 0], 56⟩]) (lb := []) hs12 (visit_ok) (by kernel_rfl) rfl rfl rfl rfl rfl ?_
    rintro _ _ X1 w13 ⟨rfl, rfl⟩ - hs14 hid15
    replace hs14 : St w0 I (ids (mX m (v) (c))) I (mX m (v + 1) (c) ++ ([⟨b5, #[.slice none 0 0, .slice none 0 0], 56⟩] : List Bx)) w13 := hs14
    clear hs12 hid15
    refine hK11 _ _ ?_; clear hK11 K10
    refine wl_nil ?_
    refine hK9 _ _ ?_; clear hK9 K8
    refine wp_seq_k fun K16 hK17 => ?_
    refine wp_seq_k fun K18 hK19 => ?_
    refine wl_begin ?_
    refine sq (r_move rfl) rfl ?_
    refine sq (r_nilCheck rfl rfl) rfl ?_
    refine sq (r_fieldAddr (off := 2) rfl (by kernel_rfl) rfl) rfl ?_
    refine sq (r_load rfl (by kernel_rfl) rfl (hs14.imm hb) rfl) rfl ?_
    refine sq (r_eqp rfl rfl (by kernel_rfl) rfl rfl) rfl ?_
    refine wl_nil ?_
    refine hK19 _ _ ?_; clear hK19 K18
    refine condF rfl rfl ?_
    refine wp_skip ?_
    refine hK17 _ _ ?_; clear hK17 K16
    refine wp_seq_k fun K20 hK21 => ?_
    refine wl_begin ?_
    refine sq (r_move rfl) rfl ?_
    refine sq (r_nilCheck rfl rfl) rfl ?_
    refine sq (r_fieldAddr (off := 2) rfl (by kernel_rfl) rfl) rfl ?_
    refine sq (r_load rfl (by kernel_rfl) rfl (hs14.imm hb) rfl) rfl ?_
    refine sq (r_move rfl) rfl ?_
    refine sqo rfl fun K22 hK23 => ow_call (X := mX m (v + 1) (c)) (L := [⟨b5, #[.slice none 0 0, .slice none 0 0], 56⟩]) (lb := []) hs14 (ih hl (by simp only [T.size] at *; omega) sl) (by kernel_rfl) rfl rfl rfl rfl rfl ?_
    rintro _ G1 X1 w30 ⟨kv24, xv25, q26, rfl, hk27, hx28, ht29, rfl⟩ le33 hs31 hid32
    replace hs31 : St w0 I (ids (mX m (v) (c))) G1 (mX m (v + 1 + (T.first l1 k1 x1 r1).2.2.2) (c) ++ ([⟨b5, #[.slice none 0 0, .slice none 0 0], 56⟩] : List Bx)) w30 := hs31
    clear hs14 hid32
    refine hK23 _ _ ?_; clear hK23 K22
    refine sq (r_move rfl) rfl ?_
    refine sq (r_extract rfl rfl rfl) rfl ?_
    refine sq (r_extract rfl rfl rfl) rfl ?_
    refine sqo rfl fun K34 hK35 => ow_newbox (mk := fun b => .pointer (some ⟨b, 0, none⟩)) hs31 (r_alloc (cs := [.slice none 0 0, .slice none 0 0]) (by kernel_rfl)) rfl ?_
    rintro b36 w37 (hs38 : St w0 I (ids (mX m (v) (c))) G1 (⟨b36, #[.slice none 0 0, .slice none 0 0], 56⟩ :: (mX m (v + 1 + (T.first l1 k1 x1 r1).2.2.2) (c) ++ ([⟨b5, #[.slice none 0 0, .slice none 0 0], 56⟩] : List Bx))) w37)
    clear hs31
    refine hK35 _ _ ?_; clear hK35 K34
    refine sqo rfl fun K39 hK40 => ow_store (vs := [kv24, xv25]) hs38 rfl rfl (by kernel_rfl) rfl rfl (.cons (hk27).one (.cons (hx28).one .nil)) rfl ?_
    rintro w41 (hs42 : St w0 I (ids (mX m (v) (c))) G1 (⟨b36, #[kv24, xv25], 56⟩ :: (mX m (v + 1 + (T.first l1 k1 x1 r1).2.2.2) (c) ++ ([⟨b5, #[.slice none 0 0, .slice none 0 0], 56⟩] : List Bx))) w41)
    clear hs38
    refine hK40 _ _ ?_; clear hK40 K39
    refine sq (r_assign rfl) rfl ?_
    refine wl_nil ?_
    refine hK21 _ _ ?_; clear hK21 K20
    refine wp_seq_k fun K43 hK44 => ?_
    refine nrm (vals := [(0, .pointer (some ⟨b, 0, none⟩)), (1, (mV m)), (4, .pointer (some ⟨b5, 0, none⟩)), (5, .pointer none), (6, .pointer (some ⟨b36, 0, none⟩)), (7, .pointer q26), (14, .bool false)]) (.cons rfl (.cons rfl (.cons rfl (.cons rfl (.cons rfl (.cons rfl (.cons rfl .nil))))))) fun g45 => ?_
    refine draw_begin (S := SS G1 [⟨b36, #[kv24, xv25], 56⟩]) (by kernel_rfl) ?_
    have hs46 := hs42.drew; clear hs42
    have hss := hs46.ss (I := G1) (GH.le.refl _) (SubL.sub (.cons (.head _) .nil))
    refine dt 0 rfl (by kernel_rfl) (fun _ _ _ h => h) hss (fun _ h => r_loadN (m := 2) rfl (by kernel_rfl) rfl (h.box (.head _)) rfl rfl) rfl ?_
    refine dt 1 rfl (by kernel_rfl) (fun _ _ _ h => h) hss (fun _ h => r_move rfl) rfl ?_
    refine dt 2 rfl (by kernel_rfl) (fun _ _ _ h => h) hss (fun _ h => r_move rfl) rfl ?_
    refine dt 3 rfl (by kernel_rfl) (fun _ _ _ h => h) hss (fun _ h => r_nilCheck rfl rfl) rfl ?_
    refine dt 4 rfl (by kernel_rfl) (fun _ _ _ h => h) hss (fun _ h => (r_fieldAddr (off := 0) rfl (by kernel_rfl) rfl)) rfl ?_
    refine dt 5 rfl (by kernel_rfl) (fun _ _ _ h => h) hss (fun _ h => r_loadN (m := 2) rfl (by kernel_rfl) rfl (h.imm (le33 _ _ hb)) rfl rfl) rfl ?_
    refine dt 6 rfl (by kernel_rfl) (fun _ _ _ h => h) hss (fun _ h => r_move rfl) rfl ?_
    refine dt 7 rfl (by kernel_rfl) (fun _ _ _ h => h) hss (fun _ h => r_nilCheck rfl rfl) rfl ?_
    refine dt 8 rfl (by kernel_rfl) (fun _ _ _ h => h) hss (fun _ h => (r_fieldAddr (off := 3) rfl (by kernel_rfl) rfl)) rfl ?_
    refine dt 9 rfl (by kernel_rfl) (fun _ _ _ h => h) hss (fun _ h => r_load rfl (by kernel_rfl) rfl (h.imm (le33 _ _ hb)) rfl) rfl ?_
    refine dro 10 (by kernel_rfl) rfl (ow_call (X := []) (L := (⟨b36, #[kv24, xv25], 56⟩ :: (mX m (v + 1 + (T.first l1 k1 x1 r1).2.2.2) (c) ++ ([⟨b5, #[.slice none 0 0, .slice none 0 0], 56⟩] : List Bx)))) (lb := []) hs46 (even_ok ht29 (hr.up le33) (hk.up le33) (hx.up le33) (by rw [T.size_first]; simp only [T.size] at hsz; omega) (T.Sm.first sl).2.2 sr s1 s2) (by kernel_rfl) rfl rfl rfl rfl rfl ?_)
    rintro _ G2 X1 w49 ⟨p47, rfl, ht48⟩ le52 hs50 hid51
    obtain rfl : X1 = [] := List.map_eq_nil_iff.1 hid51
    replace hs50 : St w0 I (ids (mX m (v) (c))) G2 (⟨b36, #[kv24, xv25], 56⟩ :: (mX m (v + 1 + (T.first l1 k1 x1 r1).2.2.2) (c) ++ ([⟨b5, #[.slice none 0 0, .slice none 0 0], 56⟩] : List Bx))) w49 := hs50
    clear hs46 hid51
    replace hss := hs50.ss (I := G1) le52 (SubL.sub (.cons (.head _) .nil))
    refine ⟨hss, ?_⟩
    have hs53 : St w0 I (ids (mX m (v) (c))) G2 (⟨b5, #[.slice none 0 0, .slice none 0 0], 56⟩ :: (⟨b36, #[kv24, xv25], 56⟩ :: (mX m (v + 1 + (T.first l1 k1 x1 r1).2.2.2) (c) ++ []))) w49 := hs50.perm (List.Perm.trans ((List.Perm.trans ((List.Perm.refl _).append_left _) (List.perm_middle (l₁ := (mX m (v + 1 + (T.first l1 k1 x1 r1).2.2.2) (c) : List Bx)) (a := (⟨b5, #[.slice none 0 0, .slice none 0 0], 56⟩ : Bx)) (l₂ := []))).cons _) (List.Perm.swap _ _ _)); clear hs50
    refine dro 11 (by kernel_rfl) rfl (ow_store (vs := [kv24, xv25]) hs53 rfl rfl (by kernel_rfl) rfl rfl (.cons (hk27).one (.cons (hx28).one .nil)) rfl ?_)
    rintro w54 (hs55 : St w0 I (ids (mX m (v) (c))) G2 (⟨b5, #[kv24, xv25], 56⟩ :: (⟨b36, #[kv24, xv25], 56⟩ :: (mX m (v + 1 + (T.first l1 k1 x1 r1).2.2.2) (c) ++ []))) w54)
    clear hs53
    replace hss := hs55.ss (I := G1) le52 (SubL.sub (.cons (.tail _ (.head _)) .nil))
    refine ⟨hss, ?_⟩
    refine dt 12 rfl (by kernel_rfl) (fun _ _ _ h => h) hss (fun _ h => r_assign rfl) rfl ?_
    refine draw_done (by kernel_rfl) ?_
    refine hK44 _ _ ?_; clear hK44 K43
    refine wp_ret ?_
    have hs56 : St w0 I (ids (mX m (v) (c))) G2 (mX m (v + 1 + (T.first l1 k1 x1 r1).2.2.2) (c) ++ ([⟨b5, #[kv24, xv25], 56⟩, ⟨b36, #[kv24, xv25], 56⟩] : List Bx)) w54 := hs55.perm (List.Perm.trans ((List.Perm.trans ((List.Perm.refl _).cons _) (List.perm_middle (l₁ := (mX m (v + 1 + (T.first l1 k1 x1 r1).2.2.2) (c) : List Bx)) (a := (⟨b36, #[kv24, xv25], 56⟩ : Bx)) (l₂ := [])).symm).cons _) (List.perm_middle (l₁ := (mX m (v + 1 + (T.first l1 k1 x1 r1).2.2.2) (c) : List Bx)) (a := (⟨b5, #[kv24, xv25], 56⟩ : Bx)) (l₂ := [⟨b36, #[kv24, xv25], 56⟩])).symm); clear hs55
    exact leave (X' := mX m (v + 1 + (T.first l1 k1 x1 r1).2.2.2) (c)) (L := [⟨b5, #[kv24, xv25], 56⟩, ⟨b36, #[kv24, xv25], 56⟩]) hs56 (mX_ids _ _ _ _ _) (res_many (vs := [.agg #[kv24, xv25], .pointer p47]) rfl (.agg (m := 2) rfl rfl (by kernel_rfl) (hs56.box (List.mem_append_right _ (.head _))) rfl rfl (.tmp rfl rfl .nil)) rfl) ⟨_, _, _, rfl, (hk27.up le52), (hx28.up le52), ht48, mX_congr (by simp only [T.first]; try omega) rfl⟩
set_option maxRecDepth 100000 in
theorem pair_ok {I : GH} {m : Option Nat} {lp rp : Option Addr} {l r : T} {v c : Nat} (hl : TreeAt I lp l) (hr : TreeAt I rp r) (hsz : l.size + r.size ≤ 999999) (sl : Sm l.toList) (sr : Sm r.toList) :
    Fn Tryd.prog 153 #[.pointer lp, .pointer rp, mV m] I (mX m v c) (fun u J X => ∃ p, u = .pointer p ∧ TreeAt J p (T.pair l r).1 ∧ X = mX m (v + (T.pair l r).2) c) := by
  cases l with
  | nil =>
    obtain rfl : lp = none := hl
    refine enter (args := [.pointer none, .pointer rp, (mV m)]) Tryd.func153 rfl rfl fun w0 hs0 => ?_
    replace hs0 : St w0 I (ids (mX m (v) (c))) I (mX m (v) (c) ++ []) w0 := by simpa using hs0
    refine wp_seq_k fun K1 hK2 => ?_
    refine wl_begin ?_
    refine sq (r_assign rfl) rfl ?_
    refine wl_nil ?_
    refine hK2 _ _ ?_; clear hK2 K1
    refine wp_seq_k fun K3 hK4 => ?_
    refine wp_block ?_
    refine wp_seq_k fun K5 hK6 => ?_
    refine wl_begin ?_
    refine sq (r_move rfl) rfl ?_
    refine sq (r_eqp rfl rfl (by kernel_rfl) rfl rfl) rfl ?_
    refine sq (r_assign rfl) rfl ?_
    refine wl_nil ?_
    refine hK6 _ _ ?_; clear hK6 K5
    refine condT rfl rfl ?_
    refine wp_seq_k fun K7 hK8 => ?_
    refine wl_begin ?_
    refine sq (r_move rfl) rfl ?_
    refine sq (r_assign rfl) rfl ?_
    refine wl_nil ?_
    refine hK8 _ _ ?_; clear hK8 K7
    refine wp_ret ?_
    exact leave (X' := mX m (v) (c)) (L := []) hs0 (mX_ids _ _ _ _ _) (res_one (v := .pointer rp) rfl (.tmp rfl rfl .nil)) ⟨_, rfl, hr, mX_congr (by simp only [T.pair]; try omega) rfl⟩
  | node ll lk lx lr =>
    obtain ⟨lb, hlb⟩ : ∃ lb, lp = some ⟨lb, 0, none⟩ := by obtain ⟨lb, _, _, _, _, e, _⟩ := hl; exact ⟨lb, e⟩
    subst hlb
    cases r with
    | nil =>
      obtain rfl : rp = none := hr
      refine enter (args := [.pointer (some ⟨lb, 0, none⟩), .pointer none, (mV m)]) Tryd.func153 rfl rfl fun w0 hs0 => ?_
      replace hs0 : St w0 I (ids (mX m (v) (c))) I (mX m (v) (c) ++ []) w0 := by simpa using hs0
      refine wp_seq_k fun K1 hK2 => ?_
      refine wl_begin ?_
      refine sq (r_assign rfl) rfl ?_
      refine wl_nil ?_
      refine hK2 _ _ ?_; clear hK2 K1
      refine wp_seq_k fun K3 hK4 => ?_
      refine wp_block ?_
      refine wp_seq_k fun K5 hK6 => ?_
      refine wl_begin ?_
      refine sq (r_move rfl) rfl ?_
      refine sq (r_eqp rfl rfl (by kernel_rfl) rfl rfl) rfl ?_
      refine sq (r_assign rfl) rfl ?_
      refine wl_nil ?_
      refine hK6 _ _ ?_; clear hK6 K5
      refine condF rfl rfl ?_
      refine wp_seq_k fun K7 hK8 => ?_
      refine wl_begin ?_
      refine sq (r_move rfl) rfl ?_
      refine sq (r_eqp rfl rfl (by kernel_rfl) rfl rfl) rfl ?_
      refine sq (r_assign rfl) rfl ?_
      refine wl_nil ?_
      refine hK8 _ _ ?_; clear hK8 K7
      refine condT rfl rfl ?_
      refine wp_seq_k fun K9 hK10 => ?_
      refine wl_begin ?_
      refine sq (r_move rfl) rfl ?_
      refine sq (r_assign rfl) rfl ?_
      refine wl_nil ?_
      refine hK10 _ _ ?_; clear hK10 K9
      refine wp_ret ?_
      exact leave (X' := mX m (v) (c)) (L := []) hs0 (mX_ids _ _ _ _ _) (res_one (v := .pointer (some ⟨lb, 0, none⟩)) rfl (.tmp rfl rfl .nil)) ⟨_, rfl, hl, mX_congr (by simp only [T.pair]; try omega) rfl⟩
    | node rl rk rx rr =>
      obtain ⟨rb, hrb⟩ : ∃ rb, rp = some ⟨rb, 0, none⟩ := by obtain ⟨rb, _, _, _, _, e, _⟩ := hr; exact ⟨rb, e⟩
      subst hrb
      refine enter (args := [.pointer (some ⟨lb, 0, none⟩), .pointer (some ⟨rb, 0, none⟩), (mV m)]) Tryd.func153 rfl rfl fun w0 hs0 => ?_
      replace hs0 : St w0 I (ids (mX m (v) (c))) I (mX m (v) (c) ++ []) w0 := by simpa using hs0
      refine wp_seq_k fun K1 hK2 => ?_
      refine wl_begin ?_
      refine sq (r_assign rfl) rfl ?_
      refine wl_nil ?_
      refine hK2 _ _ ?_; clear hK2 K1
      refine wp_seq_k fun K3 hK4 => ?_
      refine wp_block ?_
      refine wp_seq_k fun K5 hK6 => ?_
      refine wl_begin ?_
      refine sq (r_move rfl) rfl ?_
      refine sq (r_eqp rfl rfl (by kernel_rfl) rfl rfl) rfl ?_
      refine sq (r_assign rfl) rfl ?_
      refine wl_nil ?_
      refine hK6 _ _ ?_; clear hK6 K5
      refine condF rfl rfl ?_
      refine wp_seq_k fun K7 hK8 => ?_
      refine wl_begin ?_
      refine sq (r_move rfl) rfl ?_
      refine sq (r_eqp rfl rfl (by kernel_rfl) rfl rfl) rfl ?_
      refine sq (r_assign rfl) rfl ?_
      refine wl_nil ?_
      refine hK8 _ _ ?_; clear hK8 K7
      refine condF rfl rfl ?_
      refine wp_skip ?_
      refine hK4 _ _ ?_; clear hK4 K3
      refine wp_seq_k fun K9 hK10 => ?_
      refine wl_begin ?_
      refine sq (r_move rfl) rfl ?_
      refine sq (r_move rfl) rfl ?_
      refine sqo rfl fun K11 hK12 => ow_call (X := mX m (v) (c)) (L := []) (lb := []) hs0 (first_ok hr (by simp only [T.size] at *; omega) sr) (by kernel_rfl) rfl rfl rfl rfl rfl ?_
      rintro _ G1 X1 w19 ⟨kv13, xv14, q15, rfl, hk16, hx17, ht18, rfl⟩ le22 hs20 hid21
      replace hs20 : St w0 I (ids (mX m (v) (c))) G1 (mX m (v + (T.first rl rk rx rr).2.2.2) (c) ++ []) w19 := hs20
      clear hs0 hid21
      refine hK12 _ _ ?_; clear hK12 K11
      refine sq (r_move rfl) rfl ?_
      refine sq (r_extract rfl rfl rfl) rfl ?_
      refine sq (r_extract rfl rfl rfl) rfl ?_
      refine sqo rfl fun K23 hK24 => ow_newbox (mk := fun b => .pointer (some ⟨b, 0, none⟩)) hs20 (r_alloc (cs := [.slice none 0 0, .slice none 0 0]) (by kernel_rfl)) rfl ?_
      rintro b25 w26 (hs27 : St w0 I (ids (mX m (v) (c))) G1 (⟨b25, #[.slice none 0 0, .slice none 0 0], 56⟩ :: (mX m (v + (T.first rl rk rx rr).2.2.2) (c) ++ [])) w26)
      clear hs20
      refine hK24 _ _ ?_; clear hK24 K23
      refine sqo rfl fun K28 hK29 => ow_store (vs := [kv13, xv14]) hs27 rfl rfl (by kernel_rfl) rfl rfl (.cons (hk16).one (.cons (hx17).one .nil)) rfl ?_
      rintro w30 (hs31 : St w0 I (ids (mX m (v) (c))) G1 (⟨b25, #[kv13, xv14], 56⟩ :: (mX m (v + (T.first rl rk rx rr).2.2.2) (c) ++ [])) w30)
      clear hs27
      refine hK29 _ _ ?_; clear hK29 K28
      refine sq (r_assign rfl) rfl ?_
      refine wl_nil ?_
      refine hK10 _ _ ?_; clear hK10 K9
      refine wp_seq_k fun K32 hK33 => ?_
      refine nrm (vals := [(0, .pointer (some ⟨lb, 0, none⟩)), (1, .pointer (some ⟨rb, 0, none⟩)), (2, (mV m)), (6, .pointer none), (7, .pointer (some ⟨b25, 0, none⟩)), (8, .pointer q15), (9, .bool false), (13, .bool false)]) (.cons rfl (.cons rfl (.cons rfl (.cons rfl (.cons rfl (.cons rfl (.cons rfl (.cons rfl .nil)))))))) fun g34 => ?_
      refine wl_begin ?_
      refine sq (r_move rfl) rfl ?_
      refine sq (r_loadN (m := 2) rfl (by kernel_rfl) rfl (hs31.box (.head _)) rfl rfl) rfl ?_
      refine sq (r_move rfl) rfl ?_
      refine sqo rfl fun K35 hK36 => ow_call (X := []) (L := (⟨b25, #[kv13, xv14], 56⟩ :: (mX m (v + (T.first rl rk rx rr).2.2.2) (c) ++ []))) (lb := []) hs31 (join_ok (hl.up le22) ht18 hk16 hx17 (by rw [T.size_first]; simp only [T.size] at *; omega) sl (T.Sm.first sr).2.2 (T.Sm.first sr).1 (T.Sm.first sr).2.1) (by kernel_rfl) rfl rfl rfl rfl rfl ?_
      rintro _ G2 X1 w39 ⟨p37, rfl, ht38⟩ le42 hs40 hid41
      obtain rfl : X1 = [] := List.map_eq_nil_iff.1 hid41
      replace hs40 : St w0 I (ids (mX m (v) (c))) G2 (⟨b25, #[kv13, xv14], 56⟩ :: (mX m (v + (T.first rl rk rx rr).2.2.2) (c) ++ [])) w39 := hs40
      clear hs31 hid41
      refine hK36 _ _ ?_; clear hK36 K35
      refine sq (r_assign rfl) rfl ?_
      refine wl_nil ?_
      refine hK33 _ _ ?_; clear hK33 K32
      refine wp_ret ?_
      have hs43 : St w0 I (ids (mX m (v) (c))) G2 (mX m (v + (T.first rl rk rx rr).2.2.2) (c) ++ ([⟨b25, #[kv13, xv14], 56⟩] : List Bx)) w39 := hs40.perm (List.Perm.trans ((List.Perm.refl _).cons _) (List.perm_middle (l₁ := (mX m (v + (T.first rl rk rx rr).2.2.2) (c) : List Bx)) (a := (⟨b25, #[kv13, xv14], 56⟩ : Bx)) (l₂ := [])).symm); clear hs40
      exact leave (X' := mX m (v + (T.first rl rk rx rr).2.2.2) (c)) (L := [⟨b25, #[kv13, xv14], 56⟩]) hs43 (mX_ids _ _ _ _ _) (res_one (v := .pointer p37) rfl (.tmp rfl rfl .nil)) ⟨_, rfl, ht38, mX_congr (by simp only [T.pair]; try omega) rfl⟩
set_option maxRecDepth 100000 in
theorem put_ok {m : Option Nat} {t : T} {kv xv : Value} {k x : Bs} : ∀ {I : GH} {p : Option Addr} {v c : Nat}, TreeAt I p t → BytesAt I kv k → BytesAt I xv x → t.size ≤ 999999 → Sm t.toList → k.length ≤ 1000000 → x.length ≤ 1000000 →
    Fn Tryd.prog 148 #[.pointer p, .agg #[kv, xv], mV m] I (mX m v c) (fun u J X => ∃ q, u = .pointer q ∧ TreeAt J q (t.put k x) ∧ X = mX m (v + t.path k) (c + t.path k)) := by
  induction t with
  | nil =>
    intro I p v c ht hk hx hsz hsm h1 h2
    obtain rfl : p = none := ht
    refine enter (args := [.pointer none, .agg #[kv, xv], (mV m)]) Tryd.func148 rfl rfl fun w0 hs0 => ?_
    replace hs0 : St w0 I (ids (mX m (v) (c))) I (mX m (v) (c) ++ []) w0 := by simpa using hs0
    refine wp_seq_k fun K1 hK2 => ?_
    refine wl_begin ?_
    refine sqo rfl fun K3 hK4 => ow_newbox (mk := fun b => .pointer (some ⟨b, 0, none⟩)) hs0 (r_box rfl rfl) rfl ?_
    rintro b5 w6 (hs7 : St w0 I (ids (mX m (v) (c))) I (⟨b5, #[kv, xv], 56⟩ :: (mX m (v) (c) ++ [])) w6)
    clear hs0
    refine hK4 _ _ ?_; clear hK4 K3
    refine sq (r_assign rfl) rfl ?_
    refine wl_nil ?_
    refine hK2 _ _ ?_; clear hK2 K1
    refine wp_seq_k fun K8 hK9 => ?_
    refine wp_seq_k fun K10 hK11 => ?_
    refine wl_begin ?_
    refine sq (r_move rfl) rfl ?_
    refine sq (r_eqp rfl rfl (by kernel_rfl) rfl rfl) rfl ?_
    refine wl_nil ?_
    refine hK11 _ _ ?_; clear hK11 K10
    refine condT rfl rfl ?_
    refine wp_seq_k fun K12 hK13 => ?_
    refine wl_begin ?_
    refine sq (r_loadN (m := 2) rfl (by kernel_rfl) rfl (hs7.box (.head _)) rfl rfl) rfl ?_
    refine sqo rfl fun K14 hK15 => ow_call (X := []) (L := (⟨b5, #[kv, xv], 56⟩ :: (mX m (v) (c) ++ []))) (lb := []) hs7 (node_ok (TreeAt.nil _) (TreeAt.nil _) hk hx (by (try simp only [T.size] at *); omega)) (by kernel_rfl) rfl rfl rfl rfl rfl ?_
    rintro _ G1 X1 w18 ⟨p16, rfl, ht17⟩ le21 hs19 hid20
    obtain rfl : X1 = [] := List.map_eq_nil_iff.1 hid20
    replace hs19 : St w0 I (ids (mX m (v) (c))) G1 (⟨b5, #[kv, xv], 56⟩ :: (mX m (v) (c) ++ [])) w18 := hs19
    clear hs7 hid20
    refine hK15 _ _ ?_; clear hK15 K14
    refine sq (r_assign rfl) rfl ?_
    refine wl_nil ?_
    refine hK13 _ _ ?_; clear hK13 K12
    refine wp_ret ?_
    have hs22 : St w0 I (ids (mX m (v) (c))) G1 (mX m (v) (c) ++ ([⟨b5, #[kv, xv], 56⟩] : List Bx)) w18 := hs19.perm (List.Perm.trans ((List.Perm.refl _).cons _) (List.perm_middle (l₁ := (mX m (v) (c) : List Bx)) (a := (⟨b5, #[kv, xv], 56⟩ : Bx)) (l₂ := [])).symm); clear hs19
    exact leave (X' := mX m (v) (c)) (L := [⟨b5, #[kv, xv], 56⟩]) hs22 (mX_ids _ _ _ _ _) (res_one (v := .pointer p16) rfl (.tmp rfl rfl .nil)) ⟨_, rfl, by rw [show T.put T.nil k x = (T.node T.nil k x T.nil) from (by simp [T.put])]; exact ht17, mX_congr (by simp [T.path]; try omega) (by simp [T.path]; try omega)⟩
  | node l tk tx r ihl ihr =>
    intro I p v c ht hk hx hsz hsm h1 h2
    obtain ⟨b, tkv, txv, lp, rp, rfl, hb, htk, htx, hl, hr⟩ := ht
    obtain ⟨sl, s1, s2, sr⟩ := T.Sm.node hsm
    generalize hz0 : l.size + 1 + r.size = sz0 at hb
    refine enter (args := [.pointer (some ⟨b, 0, none⟩), .agg #[kv, xv], (mV m)]) Tryd.func148 rfl rfl fun w0 hs0 => ?_
    replace hs0 : St w0 I (ids (mX m (v) (c))) I (mX m (v) (c) ++ []) w0 := by simpa using hs0
    refine wp_seq_k fun K1 hK2 => ?_
    refine wl_begin ?_
    refine sqo rfl fun K3 hK4 => ow_newbox (mk := fun b => .pointer (some ⟨b, 0, none⟩)) hs0 (r_box rfl rfl) rfl ?_
    rintro b5 w6 (hs7 : St w0 I (ids (mX m (v) (c))) I (⟨b5, #[kv, xv], 56⟩ :: (mX m (v) (c) ++ [])) w6)
    clear hs0
    refine hK4 _ _ ?_; clear hK4 K3
    refine sq (r_assign rfl) rfl ?_
    refine wl_nil ?_
    refine hK2 _ _ ?_; clear hK2 K1
    refine wp_seq_k fun K8 hK9 => ?_
    refine wp_seq_k fun K10 hK11 => ?_
    refine wl_begin ?_
    refine sq (r_move rfl) rfl ?_
    refine sq (r_eqp rfl rfl (by kernel_rfl) rfl rfl) rfl ?_
    refine wl_nil ?_
    refine hK11 _ _ ?_; clear hK11 K10
    refine condF rfl rfl ?_
    refine wp_skip ?_
    refine hK9 _ _ ?_; clear hK9 K8
    refine wp_seq_k fun K12 hK13 => ?_
    refine wl_begin ?_
    refine sq (r_move rfl) rfl ?_
    have hs16 : St w0 I (ids (mX m (v) (c))) I (mX m (v) (c) ++ ([⟨b5, #[kv, xv], 56⟩] : List Bx)) w6 := hs7.perm (List.Perm.trans ((List.Perm.refl _).cons _) (List.perm_middle (l₁ := (mX m (v) (c) : List Bx)) (a := (⟨b5, #[kv, xv], 56⟩ : Bx)) (l₂ := [])).symm); clear hs7
    refine sqo rfl fun K14 hK15 => ow_call (X := mX m (v) (c)) (L := [⟨b5, #[kv, xv], 56⟩]) (lb := []) hs16 (visit_ok) (by kernel_rfl) rfl rfl rfl rfl rfl ?_
    rintro _ _ X1 w17 ⟨rfl, rfl⟩ - hs18 hid19
    replace hs18 : St w0 I (ids (mX m (v) (c))) I (mX m (v + 1) (c) ++ ([⟨b5, #[kv, xv], 56⟩] : List Bx)) w17 := hs18
    clear hs16 hid19
    refine hK15 _ _ ?_; clear hK15 K14
    refine wl_nil ?_
    refine hK13 _ _ ?_; clear hK13 K12
    refine wp_seq_k fun K20 hK21 => ?_
    refine wp_seq_k fun K22 hK23 => ?_
    refine draw_begin (S := SS I [⟨b5, #[kv, xv], 56⟩]) (by kernel_rfl) ?_
    have hs24 := hs18.drew; clear hs18
    have hss := hs24.ss (I := I) (GH.le.refl _) (SubL.sub (.cons (List.mem_append_right _ (.head _)) .nil))
    refine dt 0 rfl (by kernel_rfl) (fun _ _ _ h => h) hss (fun _ h => r_move rfl) rfl ?_
    refine dt 1 rfl (by kernel_rfl) (fun _ _ _ h => h) hss (fun _ h => (r_fieldAddr (off := 0) rfl (by kernel_rfl) rfl)) rfl ?_
    refine dt 2 rfl (by kernel_rfl) (fun _ _ _ h => h) hss (fun _ h => r_load rfl (by kernel_rfl) rfl (h.box (.head _)) rfl) rfl ?_
    refine dt 3 rfl (by kernel_rfl) (fun _ _ _ h => h) hss (fun _ h => r_move rfl) rfl ?_
    refine dt 4 rfl (by kernel_rfl) (fun _ _ _ h => h) hss (fun _ h => r_nilCheck rfl rfl) rfl ?_
    refine dt 5 rfl (by kernel_rfl) (fun _ _ _ h => h) hss (fun _ h => (r_fieldAddr (off := 0) rfl (by kernel_rfl) rfl)) rfl ?_
    refine dt 6 rfl (by kernel_rfl) (fun _ _ _ h => h) hss (fun _ h => (r_fieldAddr (off := 0) rfl (by kernel_rfl) rfl)) rfl ?_
    refine nrmD (vals := [(0, .pointer (some ⟨b, 0, none⟩)), (1, .agg #[kv, xv]), (2, (mV m)), (4, .pointer (some ⟨b5, 0, none⟩)), (6, .pointer none), (8, .bool false), (13, (mV m)), (15, kv), (19, .pointer (some ⟨b, 0, none⟩))]) (.cons rfl (.cons rfl (.cons rfl (.cons rfl (.cons rfl (.cons rfl (.cons rfl (.cons rfl (.cons rfl .nil))))))))) fun g25 => ?_
    refine dt 7 rfl (by kernel_rfl) (fun _ _ _ h => h) hss (fun _ h => r_load rfl (by kernel_rfl) rfl (h.imm hb) rfl) rfl ?_
    refine dro 8 (by kernel_rfl) rfl (ow_call (X := mX m (v + 1) (c)) (L := [⟨b5, #[kv, xv], 56⟩]) (lb := []) hs24 (mcmp_ok hk htk) (by kernel_rfl) rfl rfl rfl rfl rfl ?_)
    rintro _ _ X1 w26 ⟨rfl, rfl, rfl⟩ - hs27 hid28
    replace hs27 : St w0 I (ids (mX m (v) (c))) I (mX m (v + 1) (c + 1) ++ ([⟨b5, #[kv, xv], 56⟩] : List Bx)) w26 := hs27
    clear hs24 hid28
    replace hss := hs27.ss (I := I) (GH.le.refl _) (SubL.sub (.cons (List.mem_append_right _ (.head _)) .nil))
    refine ⟨hss, ?_⟩
    refine draw_done (by kernel_rfl) ?_
    refine hK23 _ _ ?_; clear hK23 K22
    refine wp_block ?_
    refine wp_seq_k fun K29 hK30 => ?_
    refine wl_begin ?_
    refine sq (r_eqi rfl rfl rfl rfl) rfl ?_
    refine sq (r_assign rfl) rfl ?_
    refine wl_nil ?_
    refine hK30 _ _ ?_; clear hK30 K29
    refine condS rfl rfl (fun h31 => ?_) (fun h31 => ?_)
    ·
      have p32 := of_decide_eq_true h31
      have hc1 : cmpB k tk = 0 := by simpa using h31
      refine wp_seq_k fun K33 hK34 => ?_
      refine draw_begin (S := SS I [⟨b5, #[kv, xv], 56⟩]) (by kernel_rfl) ?_
      have hs35 := hs27.drew; clear hs27
      have hss := hs35.ss (I := I) (GH.le.refl _) (SubL.sub (.cons (List.mem_append_right _ (.head _)) .nil))
      refine dt 0 rfl (by kernel_rfl) (fun _ _ _ h => h) hss (fun _ h => r_move rfl) rfl ?_
      refine dt 1 rfl (by kernel_rfl) (fun _ _ _ h => h) hss (fun _ h => r_nilCheck rfl rfl) rfl ?_
      refine dt 2 rfl (by kernel_rfl) (fun _ _ _ h => h) hss (fun _ h => (r_fieldAddr (off := 2) rfl (by kernel_rfl) rfl)) rfl ?_
      refine dt 3 rfl (by kernel_rfl) (fun _ _ _ h => h) hss (fun _ h => r_load rfl (by kernel_rfl) rfl (h.imm hb) rfl) rfl ?_
      refine dt 4 rfl (by kernel_rfl) (fun _ _ _ h => h) hss (fun _ h => r_loadN (m := 2) rfl (by kernel_rfl) rfl (h.box (.head _)) rfl rfl) rfl ?_
      refine dt 5 rfl (by kernel_rfl) (fun _ _ _ h => h) hss (fun _ h => r_move rfl) rfl ?_
      refine dt 6 rfl (by kernel_rfl) (fun _ _ _ h => h) hss (fun _ h => r_nilCheck rfl rfl) rfl ?_
      refine dt 7 rfl (by kernel_rfl) (fun _ _ _ h => h) hss (fun _ h => (r_fieldAddr (off := 3) rfl (by kernel_rfl) rfl)) rfl ?_
      refine dt 8 rfl (by kernel_rfl) (fun _ _ _ h => h) hss (fun _ h => r_load rfl (by kernel_rfl) rfl (h.imm hb) rfl) rfl ?_
      refine nrmD (vals := [(0, .pointer (some ⟨b, 0, none⟩)), (1, .agg #[kv, xv]), (2, (mV m)), (4, .pointer (some ⟨b5, 0, none⟩)), (6, .pointer none), (8, .bool false), (21, .int .i64 (cmpB k tk)), (22, .bool (decide ((cmpB k tk) = 0))), (27, .pointer lp), (28, .agg #[kv, xv]), (32, .pointer rp)]) (.cons rfl (.cons rfl (.cons rfl (.cons rfl (.cons rfl (.cons rfl (.cons rfl (.cons rfl (.cons rfl (.cons rfl (.cons rfl .nil))))))))))) fun g36 => ?_
      refine dro 9 (by kernel_rfl) rfl (ow_call (X := []) (L := (mX m (v + 1) (c + 1) ++ ([⟨b5, #[kv, xv], 56⟩] : List Bx))) (lb := []) hs35 (node_ok hl hr hk hx (by (try simp only [T.size] at *); omega)) (by kernel_rfl) rfl rfl rfl rfl rfl ?_)
      rintro _ G1 X1 w39 ⟨p37, rfl, ht38⟩ le42 hs40 hid41
      obtain rfl : X1 = [] := List.map_eq_nil_iff.1 hid41
      replace hs40 : St w0 I (ids (mX m (v) (c))) G1 (mX m (v + 1) (c + 1) ++ ([⟨b5, #[kv, xv], 56⟩] : List Bx)) w39 := hs40
      clear hs35 hid41
      replace hss := hs40.ss (I := I) le42 (SubL.sub (.cons (List.mem_append_right _ (.head _)) .nil))
      refine ⟨hss, ?_⟩
      refine dt 10 rfl (by kernel_rfl) (fun _ _ _ h => h) hss (fun _ h => r_assign rfl) rfl ?_
      refine draw_done (by kernel_rfl) ?_
      refine hK34 _ _ ?_; clear hK34 K33
      refine wp_ret ?_
      exact leave (X' := mX m (v + 1) (c + 1)) (L := [⟨b5, #[kv, xv], 56⟩]) hs40 (mX_ids _ _ _ _ _) (res_one (v := .pointer p37) rfl (.tmp rfl rfl .nil)) ⟨_, rfl, by rw [show T.put (T.node l tk tx r) k x = (T.node l k x r) from (by simp [T.put, hc1])]; exact ht38, mX_congr (by simp [T.path, hc1]; try omega) (by simp [T.path, hc1]; try omega)⟩
    ·
      have p43 := of_decide_eq_false h31
      have hc1 : ¬ cmpB k tk = 0 := by simpa using h31
      refine wp_seq_k fun K44 hK45 => ?_
      refine wl_begin ?_
      refine sq (r_eqi rfl rfl rfl rfl) rfl ?_
      refine sq (r_assign rfl) rfl ?_
      refine wl_nil ?_
      refine hK45 _ _ ?_; clear hK45 K44
      refine condS rfl rfl (fun h46 => ?_) (fun h46 => ?_)
      ·
        have p47 := of_decide_eq_true h46
        have hc2 : cmpB k tk = 1 := by simpa using h46
        refine wp_seq_k fun K48 hK49 => ?_
        refine draw_begin (S := SS I [⟨b5, #[kv, xv], 56⟩]) (by kernel_rfl) ?_
        have hs50 := hs27.drew; clear hs27
        have hss := hs50.ss (I := I) (GH.le.refl _) (SubL.sub (.cons (List.mem_append_right _ (.head _)) .nil))
        refine dt 0 rfl (by kernel_rfl) (fun _ _ _ h => h) hss (fun _ h => r_move rfl) rfl ?_
        refine dt 1 rfl (by kernel_rfl) (fun _ _ _ h => h) hss (fun _ h => r_nilCheck rfl rfl) rfl ?_
        refine dt 2 rfl (by kernel_rfl) (fun _ _ _ h => h) hss (fun _ h => (r_fieldAddr (off := 2) rfl (by kernel_rfl) rfl)) rfl ?_
        refine dt 3 rfl (by kernel_rfl) (fun _ _ _ h => h) hss (fun _ h => r_load rfl (by kernel_rfl) rfl (h.imm hb) rfl) rfl ?_
        refine dt 4 rfl (by kernel_rfl) (fun _ _ _ h => h) hss (fun _ h => r_move rfl) rfl ?_
        refine dt 5 rfl (by kernel_rfl) (fun _ _ _ h => h) hss (fun _ h => r_nilCheck rfl rfl) rfl ?_
        refine dt 6 rfl (by kernel_rfl) (fun _ _ _ h => h) hss (fun _ h => (r_fieldAddr (off := 0) rfl (by kernel_rfl) rfl)) rfl ?_
        refine nrmD (vals := [(0, .pointer (some ⟨b, 0, none⟩)), (1, .agg #[kv, xv]), (2, (mV m)), (4, .pointer (some ⟨b5, 0, none⟩)), (6, .pointer none), (8, .bool false), (21, .int .i64 (cmpB k tk)), (22, .bool (decide ((cmpB k tk) = 0))), (34, .bool (decide ((cmpB k tk) = 1))), (39, .pointer lp), (42, .pointer (some ⟨b, 0, none⟩))]) (.cons rfl (.cons rfl (.cons rfl (.cons rfl (.cons rfl (.cons rfl (.cons rfl (.cons rfl (.cons rfl (.cons rfl (.cons rfl .nil))))))))))) fun g51 => ?_
        refine dt 7 rfl (by kernel_rfl) (fun _ _ _ h => h) hss (fun _ h => r_loadN (m := 2) rfl (by kernel_rfl) rfl (h.imm hb) rfl rfl) rfl ?_
        refine dt 8 rfl (by kernel_rfl) (fun _ _ _ h => h) hss (fun _ h => r_move rfl) rfl ?_
        refine dt 9 rfl (by kernel_rfl) (fun _ _ _ h => h) hss (fun _ h => r_nilCheck rfl rfl) rfl ?_
        refine dt 10 rfl (by kernel_rfl) (fun _ _ _ h => h) hss (fun _ h => (r_fieldAddr (off := 3) rfl (by kernel_rfl) rfl)) rfl ?_
        refine dt 11 rfl (by kernel_rfl) (fun _ _ _ h => h) hss (fun _ h => r_load rfl (by kernel_rfl) rfl (h.imm hb) rfl) rfl ?_
        refine dt 12 rfl (by kernel_rfl) (fun _ _ _ h => h) hss (fun _ h => r_loadN (m := 2) rfl (by kernel_rfl) rfl (h.box (.head _)) rfl rfl) rfl ?_
        refine dt 13 rfl (by kernel_rfl) (fun _ _ _ h => h) hss (fun _ h => r_move rfl) rfl ?_
        refine dro 14 (by kernel_rfl) rfl (ow_call (X := mX m (v + 1) (c + 1)) (L := [⟨b5, #[kv, xv], 56⟩]) (lb := []) hs50 (ihr hr hk hx (by simp only [T.size] at *; omega) sr h1 h2) (by kernel_rfl) rfl rfl rfl rfl rfl ?_)
        rintro _ G2 X1 w54 ⟨q52, rfl, ht53, rfl⟩ le57 hs55 hid56
        replace hs55 : St w0 I (ids (mX m (v) (c))) G2 (mX m (v + 1 + T.path r k) (c + 1 + T.path r k) ++ ([⟨b5, #[kv, xv], 56⟩] : List Bx)) w54 := hs55
        clear hs50 hid56
        replace hss := hs55.ss (I := I) le57 (SubL.sub (.cons (List.mem_append_right _ (.head _)) .nil))
        refine ⟨hss, ?_⟩
        refine dro 15 (by kernel_rfl) rfl (ow_call (X := []) (L := (mX m (v + 1 + T.path r k) (c + 1 + T.path r k) ++ ([⟨b5, #[kv, xv], 56⟩] : List Bx))) (lb := []) hs55 (even_ok (hl.up le57) ht53 (htk.up le57) (htx.up le57) (by have z1 := T.size_put l k x; have z2 := T.size_put r k x; simp only [T.size] at hsz; omega) sl (T.Sm.put sr h1 h2) s1 s2) (by kernel_rfl) rfl rfl rfl rfl rfl ?_)
        rintro _ G3 X1 w60 ⟨p58, rfl, ht59⟩ le63 hs61 hid62
        obtain rfl : X1 = [] := List.map_eq_nil_iff.1 hid62
        replace hs61 : St w0 I (ids (mX m (v) (c))) G3 (mX m (v + 1 + T.path r k) (c + 1 + T.path r k) ++ ([⟨b5, #[kv, xv], 56⟩] : List Bx)) w60 := hs61
        clear hs55 hid62
        replace hss := hs61.ss (I := I) (le57.trans le63) (SubL.sub (.cons (List.mem_append_right _ (.head _)) .nil))
        refine ⟨hss, ?_⟩
        refine dt 16 rfl (by kernel_rfl) (fun _ _ _ h => h) hss (fun _ h => r_assign rfl) rfl ?_
        refine draw_done (by kernel_rfl) ?_
        refine hK49 _ _ ?_; clear hK49 K48
        refine wp_ret ?_
        exact leave (X' := mX m (v + 1 + T.path r k) (c + 1 + T.path r k)) (L := [⟨b5, #[kv, xv], 56⟩]) hs61 (mX_ids _ _ _ _ _) (res_one (v := .pointer p58) rfl (.tmp rfl rfl .nil)) ⟨_, rfl, by rw [show T.put (T.node l tk tx r) k x = (T.even l tk tx (T.put r k x)) from (by simp [T.put, hc1, hc2])]; exact ht59, mX_congr (by simp [T.path, hc1, hc2]; try omega) (by simp [T.path, hc1, hc2]; try omega)⟩
      ·
        have p64 := of_decide_eq_false h46
        have hc2 : ¬ cmpB k tk = 1 := by simpa using h46
        refine wp_skip ?_
        refine hK21 _ _ ?_; clear hK21 K20
        refine wp_seq_k fun K65 hK66 => ?_
        refine draw_begin (S := SS I [⟨b5, #[kv, xv], 56⟩]) (by kernel_rfl) ?_
        have hs67 := hs27.drew; clear hs27
        have hss := hs67.ss (I := I) (GH.le.refl _) (SubL.sub (.cons (List.mem_append_right _ (.head _)) .nil))
        refine dt 0 rfl (by kernel_rfl) (fun _ _ _ h => h) hss (fun _ h => r_move rfl) rfl ?_
        refine dt 1 rfl (by kernel_rfl) (fun _ _ _ h => h) hss (fun _ h => r_nilCheck rfl rfl) rfl ?_
        refine dt 2 rfl (by kernel_rfl) (fun _ _ _ h => h) hss (fun _ h => (r_fieldAddr (off := 2) rfl (by kernel_rfl) rfl)) rfl ?_
        refine dt 3 rfl (by kernel_rfl) (fun _ _ _ h => h) hss (fun _ h => r_load rfl (by kernel_rfl) rfl (h.imm hb) rfl) rfl ?_
        refine dt 4 rfl (by kernel_rfl) (fun _ _ _ h => h) hss (fun _ h => r_loadN (m := 2) rfl (by kernel_rfl) rfl (h.box (.head _)) rfl rfl) rfl ?_
        refine dt 5 rfl (by kernel_rfl) (fun _ _ _ h => h) hss (fun _ h => r_move rfl) rfl ?_
        refine dt 7 rfl (by kernel_rfl) (fun _ _ _ h => h) hss (fun _ h => r_move rfl) rfl ?_
        refine nrmD (vals := [(0, .pointer (some ⟨b, 0, none⟩)), (1, .agg #[kv, xv]), (2, (mV m)), (4, .pointer (some ⟨b5, 0, none⟩)), (6, .pointer none), (8, .bool false), (21, .int .i64 (cmpB k tk)), (22, .bool (decide ((cmpB k tk) = 0))), (34, .bool (decide ((cmpB k tk) = 1))), (55, .pointer lp), (56, .agg #[kv, xv]), (57, (mV m)), (59, .pointer (some ⟨b, 0, none⟩))]) (.cons rfl (.cons rfl (.cons rfl (.cons rfl (.cons rfl (.cons rfl (.cons rfl (.cons rfl (.cons rfl (.cons rfl (.cons rfl (.cons rfl (.cons rfl .nil))))))))))))) fun g68 => ?_
        refine dt 8 rfl (by kernel_rfl) (fun _ _ _ h => h) hss (fun _ h => r_nilCheck rfl rfl) rfl ?_
        refine dt 9 rfl (by kernel_rfl) (fun _ _ _ h => h) hss (fun _ h => (r_fieldAddr (off := 0) rfl (by kernel_rfl) rfl)) rfl ?_
        refine dt 10 rfl (by kernel_rfl) (fun _ _ _ h => h) hss (fun _ h => r_loadN (m := 2) rfl (by kernel_rfl) rfl (h.imm hb) rfl rfl) rfl ?_
        refine dt 11 rfl (by kernel_rfl) (fun _ _ _ h => h) hss (fun _ h => r_move rfl) rfl ?_
        refine dt 12 rfl (by kernel_rfl) (fun _ _ _ h => h) hss (fun _ h => r_nilCheck rfl rfl) rfl ?_
        refine dt 13 rfl (by kernel_rfl) (fun _ _ _ h => h) hss (fun _ h => (r_fieldAddr (off := 3) rfl (by kernel_rfl) rfl)) rfl ?_
        refine dt 14 rfl (by kernel_rfl) (fun _ _ _ h => h) hss (fun _ h => r_load rfl (by kernel_rfl) rfl (h.imm hb) rfl) rfl ?_
        refine dro 6 (by kernel_rfl) rfl (ow_call (X := mX m (v + 1) (c + 1)) (L := [⟨b5, #[kv, xv], 56⟩]) (lb := []) hs67 (ihl hl hk hx (by simp only [T.size] at *; omega) sl h1 h2) (by kernel_rfl) rfl rfl rfl rfl rfl ?_)
        rintro _ G4 X1 w71 ⟨q69, rfl, ht70, rfl⟩ le74 hs72 hid73
        replace hs72 : St w0 I (ids (mX m (v) (c))) G4 (mX m (v + 1 + T.path l k) (c + 1 + T.path l k) ++ ([⟨b5, #[kv, xv], 56⟩] : List Bx)) w71 := hs72
        clear hs67 hid73
        replace hss := hs72.ss (I := I) le74 (SubL.sub (.cons (List.mem_append_right _ (.head _)) .nil))
        refine ⟨hss, ?_⟩
        refine dro 15 (by kernel_rfl) rfl (ow_call (X := []) (L := (mX m (v + 1 + T.path l k) (c + 1 + T.path l k) ++ ([⟨b5, #[kv, xv], 56⟩] : List Bx))) (lb := []) hs72 (even_ok ht70 (hr.up le74) (htk.up le74) (htx.up le74) (by have z1 := T.size_put l k x; have z2 := T.size_put r k x; simp only [T.size] at hsz; omega) (T.Sm.put sl h1 h2) sr s1 s2) (by kernel_rfl) rfl rfl rfl rfl rfl ?_)
        rintro _ G5 X1 w77 ⟨p75, rfl, ht76⟩ le80 hs78 hid79
        obtain rfl : X1 = [] := List.map_eq_nil_iff.1 hid79
        replace hs78 : St w0 I (ids (mX m (v) (c))) G5 (mX m (v + 1 + T.path l k) (c + 1 + T.path l k) ++ ([⟨b5, #[kv, xv], 56⟩] : List Bx)) w77 := hs78
        clear hs72 hid79
        replace hss := hs78.ss (I := I) (le74.trans le80) (SubL.sub (.cons (List.mem_append_right _ (.head _)) .nil))
        refine ⟨hss, ?_⟩
        refine dt 16 rfl (by kernel_rfl) (fun _ _ _ h => h) hss (fun _ h => r_assign rfl) rfl ?_
        refine draw_done (by kernel_rfl) ?_
        refine hK66 _ _ ?_; clear hK66 K65
        refine wp_ret ?_
        exact leave (X' := mX m (v + 1 + T.path l k) (c + 1 + T.path l k)) (L := [⟨b5, #[kv, xv], 56⟩]) hs78 (mX_ids _ _ _ _ _) (res_one (v := .pointer p75) rfl (.tmp rfl rfl .nil)) ⟨_, rfl, by rw [show T.put (T.node l tk tx r) k x = (T.even (T.put l k x) tk tx r) from (by simp [T.put, hc1, hc2])]; exact ht76, mX_congr (by simp [T.path, hc1, hc2]; try omega) (by simp [T.path, hc1, hc2]; try omega)⟩
set_option maxRecDepth 100000 in
theorem putU_ok {I : GH} {m : Option Nat} {t : T} {p : Option Addr} {kv xv : Value} {k x : Bs} {v c : Nat} (ht : TreeAt I p t) (hk : BytesAt I kv k) (hx : BytesAt I xv x) (hsz : t.size ≤ 999999) (hsm : Sm t.toList) (h1 : k.length ≤ 1000000) (h2 : x.length ≤ 1000000) :
    Fn Tryd.prog 136 #[.pointer p, .agg #[kv, xv], mV m] I (mX m v c) (fun u J X => ∃ q, u = .pointer q ∧ TreeAt J q (t.put k x) ∧ X = mX m (v + t.path k) (c + t.path k)) := by
  refine enter (args := [.pointer p, .agg #[kv, xv], (mV m)]) Tryd.func136 rfl rfl fun w0 hs0 => ?_
  replace hs0 : St w0 I (ids (mX m (v) (c))) I (mX m (v) (c) ++ []) w0 := by simpa using hs0
  refine wp_seq_k fun K1 hK2 => ?_
  refine wl_begin ?_
  refine sqo rfl fun K3 hK4 => ow_newbox (mk := fun b => .pointer (some ⟨b, 0, none⟩)) hs0 (r_box rfl rfl) rfl ?_
  rintro b5 w6 (hs7 : St w0 I (ids (mX m (v) (c))) I (⟨b5, #[kv, xv], 56⟩ :: (mX m (v) (c) ++ [])) w6)
  clear hs0
  refine hK4 _ _ ?_; clear hK4 K3
  refine sq (r_assign rfl) rfl ?_
  refine wl_nil ?_
  refine hK2 _ _ ?_; clear hK2 K1
  refine wp_seq_k fun K8 hK9 => ?_
  refine wl_begin ?_
  refine sq (r_move rfl) rfl ?_
  refine sq (r_loadN (m := 2) rfl (by kernel_rfl) rfl (hs7.box (.head _)) rfl rfl) rfl ?_
  refine sqo rfl fun K10 hK11 => ow_call (X := []) (L := (⟨b5, #[kv, xv], 56⟩ :: (mX m (v) (c) ++ []))) (lb := []) hs7 (own_ok hk hx (by omega) (by omega)) (by kernel_rfl) rfl rfl rfl rfl rfl ?_
  rintro _ G1 X1 w16 ⟨kv12, xv13, rfl, hk14, hx15⟩ le19 hs17 hid18
  obtain rfl : X1 = [] := List.map_eq_nil_iff.1 hid18
  replace hs17 : St w0 I (ids (mX m (v) (c))) G1 (⟨b5, #[kv, xv], 56⟩ :: (mX m (v) (c) ++ [])) w16 := hs17
  clear hs7 hid18
  refine hK11 _ _ ?_; clear hK11 K10
  refine sq (r_move rfl) rfl ?_
  have hs24 : St w0 I (ids (mX m (v) (c))) G1 (mX m (v) (c) ++ ([⟨b5, #[kv, xv], 56⟩] : List Bx)) w16 := hs17.perm (List.Perm.trans ((List.Perm.refl _).cons _) (List.perm_middle (l₁ := (mX m (v) (c) : List Bx)) (a := (⟨b5, #[kv, xv], 56⟩ : Bx)) (l₂ := [])).symm); clear hs17
  refine sqo rfl fun K20 hK21 => ow_call (X := mX m (v) (c)) (L := [⟨b5, #[kv, xv], 56⟩]) (lb := []) hs24 (put_ok (ht.up le19) hk14 hx15 hsz hsm h1 h2) (by kernel_rfl) rfl rfl rfl rfl rfl ?_
  rintro _ G2 X1 w25 ⟨q22, rfl, ht23, rfl⟩ le28 hs26 hid27
  replace hs26 : St w0 I (ids (mX m (v) (c))) G2 (mX m (v + T.path t k) (c + T.path t k) ++ ([⟨b5, #[kv, xv], 56⟩] : List Bx)) w25 := hs26
  clear hs24 hid27
  refine hK21 _ _ ?_; clear hK21 K20
  refine sq (r_assign rfl) rfl ?_
  refine wl_nil ?_
  refine hK9 _ _ ?_; clear hK9 K8
  refine wp_ret ?_
  exact leave (X' := mX m (v + T.path t k) (c + T.path t k)) (L := [⟨b5, #[kv, xv], 56⟩]) hs26 (mX_ids _ _ _ _ _) (res_one (v := .pointer q22) rfl (.tmp rfl rfl .nil)) ⟨_, rfl, ht23, rfl⟩
end Go.Proofs.YtlnlodfnplkckaaDoor
