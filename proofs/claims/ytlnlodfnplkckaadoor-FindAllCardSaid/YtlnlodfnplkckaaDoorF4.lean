/- Texts of the walk, laid together. Each theorem's conditions stand in it. -/
import Derived.Test.YtlnlodfnplkckaaDoorF3
/- The contracts of math/bits.OnesCount64 (of less than 2^32), Map.Place. -/
namespace Go.Proofs.YtlnlodfnplkckaaDoor
set_option linter.unusedVariables false
set_option linter.unusedSimpArgs false
set_option maxRecDepth 100000 in
theorem ones64_ok {I : GH} {x : Nat} (hx : x < 2 ^ 32) : Fn Tryd.prog 133 #[.int .u64 ((x : Nat) : Int)] I [] (fun v J _ => v = .int .i64 ((cntB x 32 : Nat) : Int) ∧ I = J) := by
  have hx64 : x < 2 ^ 64 := Nat.lt_trans hx (by decide)
  refine enter (args := [.int .u64 ((x : Nat) : Int)]) Tryd.func133 rfl rfl fun w0 hs0 => ?_
  refine wp_seq_k fun K1 hK2 => ?_
  refine wl_begin ?_
  refine sq (r_assign rfl) rfl ?_
  refine wl_nil ?_
  refine hK2 _ _ ?_; (try clear hK2 K1)
  refine wp_seq_k fun K3 hK4 => ?_
  refine wl_begin ?_
  refine sq (r_move rfl) rfl ?_
  refine sq (r_shrN (a := x) (b := 1) (m := 64) (by kernel_rfl) rfl rfl rfl rfl (by omega)) rfl ?_
  refine sq (r_andN (a := (x / 2 ^ 1)) (b := 6148914691236517205) (m := 64) (by kernel_rfl) rfl rfl rfl rfl (Nat.lt_of_le_of_lt (Nat.div_le_self _ _) hx64) (by decide)) rfl ?_
  refine sq (r_move rfl) rfl ?_
  refine sq (r_andN (a := x) (b := 6148914691236517205) (m := 64) (by kernel_rfl) rfl rfl rfl rfl hx64 (by decide)) rfl ?_
  refine sq (r_addN (a := ((x / 2 ^ 1) &&& 6148914691236517205)) (b := (x &&& 6148914691236517205)) (m := 64) (by kernel_rfl) rfl rfl rfl rfl) rfl ?_
  refine sq (r_assign rfl) rfl ?_
  refine wl_nil ?_
  obtain ⟨y1, hy1⟩ : ∃ y, y = ((((x / 2 ^ 1) &&& 6148914691236517205) + (x &&& 6148914691236517205)) % 2 ^ 64) := ⟨_, rfl⟩
  rw [← hy1]
  have hby1 : y1 < 2 ^ 64 := by rw [hy1]; exact (Nat.mod_lt _ (by decide))
  refine hK4 _ _ ?_; (try clear hK4 K3)
  refine wp_seq_k fun K5 hK6 => ?_
  refine wl_begin ?_
  refine sq (r_move rfl) rfl ?_
  refine sq (r_shrN (a := y1) (b := 2) (m := 64) (by kernel_rfl) rfl rfl rfl rfl (by omega)) rfl ?_
  refine sq (r_andN (a := (y1 / 2 ^ 2)) (b := 3689348814741910323) (m := 64) (by kernel_rfl) rfl rfl rfl rfl (Nat.lt_of_le_of_lt (Nat.div_le_self _ _) hby1) (by decide)) rfl ?_
  refine sq (r_move rfl) rfl ?_
  refine sq (r_andN (a := y1) (b := 3689348814741910323) (m := 64) (by kernel_rfl) rfl rfl rfl rfl hby1 (by decide)) rfl ?_
  refine sq (r_addN (a := ((y1 / 2 ^ 2) &&& 3689348814741910323)) (b := (y1 &&& 3689348814741910323)) (m := 64) (by kernel_rfl) rfl rfl rfl rfl) rfl ?_
  refine sq (r_assign rfl) rfl ?_
  refine wl_nil ?_
  obtain ⟨y2, hy2⟩ : ∃ y, y = ((((y1 / 2 ^ 2) &&& 3689348814741910323) + (y1 &&& 3689348814741910323)) % 2 ^ 64) := ⟨_, rfl⟩
  rw [← hy2]
  have hby2 : y2 < 2 ^ 64 := by rw [hy2]; exact (Nat.mod_lt _ (by decide))
  refine hK6 _ _ ?_; (try clear hK6 K5)
  refine wp_seq_k fun K7 hK8 => ?_
  refine nrm (vals := [(0, .int .u64 ((y2 : Nat) : Int)), (2, .int .i64 0)]) (.cons rfl (.cons rfl .nil)) fun g9 => ?_
  refine wl_begin ?_
  refine sq (r_move rfl) rfl ?_
  refine sq (r_shrN (a := y2) (b := 4) (m := 64) (by kernel_rfl) rfl rfl rfl rfl (by omega)) rfl ?_
  refine sq (r_move rfl) rfl ?_
  refine sq (r_addN (a := (y2 / 2 ^ 4)) (b := y2) (m := 64) (by kernel_rfl) rfl rfl rfl rfl) rfl ?_
  refine sq (r_andN (a := (((y2 / 2 ^ 4) + y2) % 2 ^ 64)) (b := 1085102592571150095) (m := 64) (by kernel_rfl) rfl rfl rfl rfl (Nat.mod_lt _ (by decide)) (by decide)) rfl ?_
  refine sq (r_assign rfl) rfl ?_
  refine wl_nil ?_
  obtain ⟨y3, hy3⟩ : ∃ y, y = ((((y2 / 2 ^ 4) + y2) % 2 ^ 64) &&& 1085102592571150095) := ⟨_, rfl⟩
  rw [← hy3]
  have hby3 : y3 < 2 ^ 64 := by rw [hy3]; exact (Nat.and_lt_two_pow _ (by decide))
  refine hK8 _ _ ?_; (try clear hK8 K7)
  refine wp_seq_k fun K10 hK11 => ?_
  refine wl_begin ?_
  refine sq (r_move rfl) rfl ?_
  refine sq (r_move rfl) rfl ?_
  refine sq (r_shrN (a := y3) (b := 8) (m := 64) (by kernel_rfl) rfl rfl rfl rfl (by omega)) rfl ?_
  refine sq (r_addN (a := y3) (b := (y3 / 2 ^ 8)) (m := 64) (by kernel_rfl) rfl rfl rfl rfl) rfl ?_
  refine sq (r_assign rfl) rfl ?_
  refine wl_nil ?_
  obtain ⟨y4, hy4⟩ : ∃ y, y = ((y3 + (y3 / 2 ^ 8)) % 2 ^ 64) := ⟨_, rfl⟩
  rw [← hy4]
  have hby4 : y4 < 2 ^ 64 := by rw [hy4]; exact (Nat.mod_lt _ (by decide))
  refine hK11 _ _ ?_; (try clear hK11 K10)
  refine wp_seq_k fun K12 hK13 => ?_
  refine wl_begin ?_
  refine sq (r_move rfl) rfl ?_
  refine sq (r_move rfl) rfl ?_
  refine sq (r_shrN (a := y4) (b := 16) (m := 64) (by kernel_rfl) rfl rfl rfl rfl (by omega)) rfl ?_
  refine sq (r_addN (a := y4) (b := (y4 / 2 ^ 16)) (m := 64) (by kernel_rfl) rfl rfl rfl rfl) rfl ?_
  refine sq (r_assign rfl) rfl ?_
  refine wl_nil ?_
  obtain ⟨y5, hy5⟩ : ∃ y, y = ((y4 + (y4 / 2 ^ 16)) % 2 ^ 64) := ⟨_, rfl⟩
  rw [← hy5]
  have hby5 : y5 < 2 ^ 64 := by rw [hy5]; exact (Nat.mod_lt _ (by decide))
  refine hK13 _ _ ?_; (try clear hK13 K12)
  refine wp_seq_k fun K14 hK15 => ?_
  refine nrm (vals := [(0, .int .u64 ((y5 : Nat) : Int)), (2, .int .i64 0)]) (.cons rfl (.cons rfl .nil)) fun g16 => ?_
  refine wl_begin ?_
  refine sq (r_move rfl) rfl ?_
  refine sq (r_move rfl) rfl ?_
  refine sq (r_shrN (a := y5) (b := 32) (m := 64) (by kernel_rfl) rfl rfl rfl rfl (by omega)) rfl ?_
  refine sq (r_addN (a := y5) (b := (y5 / 2 ^ 32)) (m := 64) (by kernel_rfl) rfl rfl rfl rfl) rfl ?_
  refine sq (r_assign rfl) rfl ?_
  refine wl_nil ?_
  obtain ⟨y6, hy6⟩ : ∃ y, y = ((y5 + (y5 / 2 ^ 32)) % 2 ^ 64) := ⟨_, rfl⟩
  rw [← hy6]
  have hby6 : y6 < 2 ^ 64 := by rw [hy6]; exact (Nat.mod_lt _ (by decide))
  refine hK15 _ _ ?_; (try clear hK15 K14)
  refine wp_seq_k fun K17 hK18 => ?_
  have hb63 : y6 < 2 ^ 63 := (pop64_eq hx hy1 hy2 hy3 hy4 hy5 hy6).2
  refine wl_begin ?_
  refine sq (r_move rfl) rfl ?_
  refine sq (r_convI (a := y6) (r_convInt rfl (by kernel_rfl) (by kernel_rfl) rfl) hb63) rfl ?_
  refine sq (r_andI (a := y6) (b := 127) rfl rfl rfl rfl hb63 (by decide)) rfl ?_
  refine sq (r_assign rfl) rfl ?_
  refine wl_nil ?_
  refine hK18 _ _ ?_; (try clear hK18 K17)
  refine wp_ret ?_
  exact leave (X' := []) (L := []) hs0 rfl (res_one (v := .int .i64 (((y6 &&& 127) : Nat) : Int)) rfl (.tmp rfl rfl .nil)) ⟨by rw [(pop64_eq hx hy1 hy2 hy3 hy4 hy5 hy6).1], rfl⟩
theorem shl_one {j : Nat} (h : j ≤ 32) : (1 * 2 ^ j % 2 ^ 64 + (2 ^ 64 - 1)) % 2 ^ 64 = 2 ^ j - 1 := by
  have h1 : 2 ^ j ≤ 2 ^ 32 := Nat.pow_le_pow_right (by decide) h
  have h2 := Nat.two_pow_pos j
  omega
set_option maxRecDepth 100000 in
theorem place_ok {I : GH} {m : Nat} (hm : m < 2 ^ 32) (i : Int) : Fn Tryd.prog 103 #[.int .u32 ((m : Nat) : Int), .int .i64 i] I [] (fun v J _ => v = .int .i64 ((cntB m (min (max i 0) 32).toNat : Nat) : Int) ∧ I = J) := by
  obtain ⟨j, hjd⟩ : ∃ j, j = (min (max i 0) 32).toNat := ⟨_, rfl⟩
  rw [← hjd]
  have hj32 : j ≤ 32 := by omega
  refine enter (args := [.int .u32 ((m : Nat) : Int), .int .i64 i]) Tryd.func103 rfl rfl fun w0 hs0 => ?_
  refine wp_seq_k fun K1 hK2 => ?_
  refine wl_begin ?_
  refine sq (r_assign rfl) rfl ?_
  refine wl_nil ?_
  refine hK2 _ _ ?_; (try clear hK2 K1)
  refine wp_seq_k fun K3 hK4 => ?_
  refine wl_begin ?_
  refine sq (r_move rfl) rfl ?_
  refine sq (r_max rfl rfl rfl rfl) rfl ?_
  refine sq (r_min rfl rfl rfl rfl) rfl ?_
  refine sq (r_assign rfl) rfl ?_
  refine wl_nil ?_
  refine hK4 _ _ ?_; (try clear hK4 K3)
  refine wp_seq_k fun K5 hK6 => ?_
  refine nrm (vals := [(0, .int .u32 ((m : Nat) : Int)), (1, .int .i64 ((j : Nat) : Int)), (4, .int .i64 0)]) (.cons rfl (.cons (congrArg (Value.int .i64) (show (min (max i 0) 32 : Int) = ((j : Nat) : Int) by omega)) (.cons rfl .nil))) fun g7 => ?_
  refine wl_begin ?_
  refine sq (r_move rfl) rfl ?_
  refine sq (r_convN (j := .u64) (a := m) (m := 64) (r_convInt rfl (by kernel_rfl) (by kernel_rfl) rfl) (by kernel_rfl) (Nat.lt_of_lt_of_le hm (by decide))) rfl ?_
  refine sq (r_move rfl) rfl ?_
  refine sq (r_shlN (a := 1) (b := j) (m := 64) (by kernel_rfl) rfl rfl rfl rfl (by omega)) rfl ?_
  refine sq (r_subN (a := (1 * 2 ^ j % 2 ^ 64)) (b := 1) (m := 64) (by kernel_rfl) rfl rfl rfl rfl (by decide)) rfl ?_
  refine sq (r_andN (a := m) (b := (((1 * 2 ^ j % 2 ^ 64) + (2 ^ 64 - 1)) % 2 ^ 64)) (m := 64) (by kernel_rfl) rfl rfl rfl rfl (Nat.lt_of_lt_of_le hm (by decide)) (Nat.mod_lt _ (by decide))) rfl ?_
  have hxe : (m &&& (((1 * 2 ^ j % 2 ^ 64) + (2 ^ 64 - 1)) % 2 ^ 64)) = m &&& (2 ^ j - 1) := by rw [shl_one hj32]
  refine sqo rfl fun K8 hK9 => ow_call (X := []) (L := []) (lb := []) hs0 (ones64_ok (x := (m &&& (((1 * 2 ^ j % 2 ^ 64) + (2 ^ 64 - 1)) % 2 ^ 64))) (by rw [hxe]; exact Nat.lt_of_le_of_lt Nat.and_le_left hm)) (by kernel_rfl) rfl rfl rfl rfl rfl ?_
  rintro _ _ X1 w10 ⟨rfl, rfl⟩ - hs11 hid12
  obtain rfl : X1 = [] := List.map_eq_nil_iff.1 hid12
  replace hs11 : St w0 I (ids []) I [] w10 := hs11
  clear hs0 hid12
  refine hK9 _ _ ?_; clear hK9 K8
  refine sq (r_assign rfl) rfl ?_
  refine wl_nil ?_
  refine hK6 _ _ ?_; (try clear hK6 K5)
  refine wp_ret ?_
  exact leave (X' := []) (L := []) hs11 rfl (res_one (v := .int .i64 (((cntB (m &&& (((1 * 2 ^ j % 2 ^ 64) + (2 ^ 64 - 1)) % 2 ^ 64)) 32) : Nat) : Int)) rfl (.tmp rfl rfl .nil)) ⟨by rw [hxe, cntB_low hj32], rfl⟩
end Go.Proofs.YtlnlodfnplkckaaDoor
/- The iterator of a set: bits.Map.All. -/
namespace Go.Proofs.YtlnlodfnplkckaaDoor
set_option linter.unusedVariables false
set_option linter.unusedSimpArgs false
def encF (i : Fin 32) : Value := .int .i64 ((i.val : Nat) : Int)
def AllIt (I : GH) (v : Value) (m : Nat) : Prop := ∃ b, v = .func (.func 117) #[] #[.pointer (some ⟨b, 0, none⟩)] ∧
  SeqI Tryd.prog 117 [.pointer (some ⟨b, 0, none⟩)] encF (bitsF m) 32 I
set_option maxRecDepth 100000 in
theorem all1_seq {I : GH} (ht : TabG I) {m b : Nat} (hm : m < 2 ^ 32) {T : TypeId} (hb : I b = some (.cells #[.int .u32 ((m : Nat) : Int)] T (0, 0))) :
    SeqI Tryd.prog 117 [.pointer (some ⟨b, 0, none⟩)] encF (bitsF m) 32 I := by
  intro w hsat l J Jx W hbel hJ hJx hY h0
  have hsW := hsat.below hbel
  rw [show #[Value.func (.yield l) #[] #[]] ++ [Value.pointer (some ⟨b, 0, none⟩)].toArray = [Value.func (.yield l) #[] #[], .pointer (some ⟨b, 0, none⟩)].toArray by simp]
  refine enterI Tryd.func117 rfl rfl ?_
  refine seqR fun K hK => ?_
  refine wli_begin ?_
  refine wli_sq rfl (r_load rfl (by kernel_rfl) rfl (hsW.blk b _ hb) rfl) rfl ?_
  refine wli_sq rfl (r_assign rfl) rfl ?_
  refine wli_nil ?_
  refine hK _ _ ?_
  clear hK K
  refine blockR ?_
  refine lpR (fun (r : Nat × List (Fin 32) × List (Fin 32)) f w => ∃ g : Nat → Value, f = updL g [(0, .func (.yield l) #[] #[]), (3, .int .u32 ((r.1 : Nat) : Int))] ∧ r.1 < 2 ^ 32 ∧ bitsF m = r.2.1 ++ r.2.2 ∧ bitsL r.1 = r.2.2.map (·.val) ∧ J r.2.1 w ∧ Sat I w) (fun r => r.2.2.length)
    (m, [], bitsF m) ⟨_, updL_self (.cons rfl (.cons rfl .nil)), hm, rfl, (bitsF_val m).symm, h0, hsW⟩ ?_
  rintro ⟨left, pre, rest⟩ f W1 ⟨g, rfl, hl, hcut, hrest, hJ1, hs1⟩
  simp only at hl hcut hrest hJ1
  refine seqR fun K2 hK2 => ?_
  refine seqR fun K3 hK3 => ?_
  refine wli_begin ?_
  refine wli_sq rfl (r_move rfl) rfl ?_
  refine wli_sq rfl (r_neN (a := left) (b := 0) rfl rfl rfl rfl) rfl ?_
  refine wli_nil ?_
  refine hK3 _ _ ?_
  clear hK3 K3
  refine condSR (t := !(decide (left = 0))) rfl rfl (fun h => ?_) (fun h => ?_)
  · have hne : left ≠ 0 := by simpa using h
    refine skipR ?_
    refine hK2 _ _ ?_
    clear hK2 K2
    refine seqR fun K4 hK4 => ?_
    refine blockR ?_
    refine seqR fun K5 hK5 => ?_
    refine wli_begin ?_
    refine wli_sq rfl (r_move rfl) rfl ?_
    refine wli_sq rfl (r_move rfl) rfl ?_
    have hst : St W1 I (ids []) I [] W1 := ⟨hs1, GH.le.refl _, fun _ _ => rfl, FrBut.refl _ _, (fun x h => by cases h), (fun x h => by cases h), List.nodup_nil⟩
    refine wli_o rfl (by kernel_rfl) fun K6 hK6 => ow_call (X := []) (L := []) (lb := []) hst (tz32_ok ht hl hne) (by kernel_rfl) rfl rfl rfl rfl rfl ?_
    rintro _ _ X1 W2 ⟨rfl, rfl⟩ - hs2 hid
    obtain rfl : X1 = [] := List.map_eq_nil_iff.1 hid
    refine hK6 _ _ ?_
    clear hK6 K6
    obtain ⟨x, rest', rfl⟩ : ∃ x rest', rest = x :: rest' := by
      cases rest with
      | nil => exact absurd hrest (by simpa using bitsL_ne hne hl)
      | cons x r => exact ⟨x, r, rfl⟩
    have hx := bitsL_ctz hne hl
    rw [hrest, List.map_cons] at hx
    have hx1 : Go.Lib.ctz 32 left = x.val := (List.cons.inj hx).1.symm
    have hx2 : bitsL (left &&& (left - 1)) = rest'.map (·.val) := (List.cons.inj hx).2.symm
    have hJ2 : J pre W2 := hJ pre W1 W2 none hJ1 hs2.fr.grown (fun r h => by cases h)
    have hlen : pre.length < 32 := by
      have h1 := congrArg List.length hcut
      have h2 := bitsL_le m
      rw [bitsF_length, List.length_append, List.length_cons] at h1
      omega
    have hy := hY pre x W2 hJ2 hlen
    refine wli_yield (vl := [.int .i64 ((Go.Lib.ctz 32 left : Nat) : Int)]) rfl rfl rfl rfl (by rw [hx1]; exact hy) rfl ?_
    rintro e W3 (⟨rfl, hJ3, hk⟩ | ⟨rfl, hJ3⟩)
    · refine ⟨_, rfl, ?_⟩
      refine wli_sq rfl (r_not rfl rfl) rfl ?_
      refine wli_nil ?_
      refine hK5 _ _ ?_
      refine condFR rfl rfl ?_
      refine skipR ?_
      refine hK4 _ _ ?_
      refine wli_begin ?_
      refine wli_sq rfl (r_move rfl) rfl ?_
      refine wli_sq rfl (r_move rfl) rfl ?_
      refine wli_sq rfl (r_subN (a := left) (b := 1) (m := 32) (by kernel_rfl) rfl rfl rfl rfl (by decide)) rfl ?_
      refine wli_sq rfl (r_andN (a := left) (b := (left + (2 ^ 32 - 1)) % 2 ^ 32) (m := 32) (by kernel_rfl) rfl rfl rfl rfl hl (Nat.mod_lt _ (by decide))) rfl ?_
      refine wli_sq rfl (r_assign rfl) rfl ?_
      refine wli_nil ?_
      have hsub : (left + (2 ^ 32 - 1)) % 2 ^ 32 = left - 1 := by omega
      refine ⟨(left &&& (left - 1), pre ++ [x], rest'), _, rfl, ⟨_, updL_self (.cons rfl (.cons (congrArg (fun z : Nat => Value.int .u32 ((left &&& z : Nat) : Int)) hsub) .nil)), Nat.lt_of_le_of_lt Nat.and_le_left hl, ?_, hx2, hJ3, hk hs2.sat⟩, ?_⟩
      · simp [hcut]
      · simp
    · refine ⟨_, rfl, ?_⟩
      refine wli_sq rfl (r_not rfl rfl) rfl ?_
      refine wli_nil ?_
      refine hK5 _ _ ?_
      refine condTR rfl rfl ?_
      refine retR ?_
      exact ⟨rfl, _, res_many (vs := []) rfl .nil rfl, ⟨_, rfl⟩, .inr ⟨pre ++ [x], ⟨rest', by simp [hcut]⟩, hJ3⟩⟩
  · have he : left = 0 := by simpa using h
    refine exitR ?_
    subst he
    have hnil : rest = [] := by
      rw [bitsL_zero] at hrest
      exact List.map_eq_nil_iff.1 hrest.symm
    subst hnil
    exact ⟨rfl, _, res_many (vs := []) rfl .nil rfl, ⟨_, rfl⟩, .inl ⟨pre, by simpa using hcut.symm, hJ1⟩⟩
set_option maxRecDepth 100000 in
theorem all_ok {I : GH} (ht : TabG I) {m : Nat} (hm : m < 2 ^ 32) : Fn Tryd.prog 86 #[.int .u32 ((m : Nat) : Int)] I [] (fun v J _ => AllIt J v m) := by
  refine enter (args := [.int .u32 ((m : Nat) : Int)]) Tryd.func86 rfl rfl fun w0 hs0 => ?_
  refine wp_seq_k fun K1 hK2 => ?_
  refine wl_begin ?_
  refine sqo rfl fun K3 hK4 => ow_newimm (mk := fun b => .pointer (some ⟨b, 0, none⟩)) hs0 (r_box rfl rfl) rfl ?_
  rintro b5 G1 w6 hb7 le8 hs9 ge10
  clear hs0
  replace hb7 : G1 b5 = some (.cells #[.int .u32 ((m : Nat) : Int)] 64 (0, 0)) := hb7
  refine hK4 _ _ ?_; clear hK4 K3
  refine sq (r_assign rfl) rfl ?_
  refine wl_nil ?_
  refine hK2 _ _ ?_; (try clear hK2 K1)
  refine wp_seq_k fun K11 hK12 => ?_
  refine wl_begin ?_
  refine sq (r_makeFunc (l := []) (m := [.pointer (some ⟨b5, 0, none⟩)]) rfl rfl rfl rfl) rfl ?_
  refine sq (r_assign rfl) rfl ?_
  refine wl_nil ?_
  refine hK12 _ _ ?_; (try clear hK12 K11)
  refine wp_ret ?_
  exact leave (X' := []) (L := []) hs9 rfl (res_one (v := .func (.func 117) #[] #[.pointer (some ⟨b5, 0, none⟩)]) rfl (.tmp rfl rfl .nil)) ⟨b5, rfl, all1_seq (ht.up le8) hm hb7⟩
end Go.Proofs.YtlnlodfnplkckaaDoor
/- The contracts of node.Kid. -/
namespace Go.Proofs.YtlnlodfnplkckaaDoor
set_option linter.unusedVariables false
set_option linter.unusedSimpArgs false
theorem bitN_and (m : Nat) (c : Int) : (m &&& bitN c = 0) ↔ ¬ (0 ≤ c ∧ c < 32 ∧ m.testBit c.toNat = true) := by
  unfold bitN
  split
  · rename_i h
    simp only [Nat.and_zero, true_iff]
    omega
  · rename_i h
    have h2 : 0 ≤ c ∧ c < 32 := by omega
    simp only [h2, true_and, Bool.not_eq_true]
    constructor
    · intro h3
      have h4 := congrArg (fun x => x.testBit c.toNat) h3
      simpa [Nat.testBit_and, Nat.testBit_two_pow] using h4
    · intro h3
      apply Nat.eq_of_testBit_eq
      intro j
      rw [Nat.testBit_and, Nat.testBit_two_pow]
      by_cases e : c.toNat = j
      · subst e; simp [h3]
      · simp [e]
namespace N
/-- A branch has as many children as its map says. -/
def fit : N → Prop
  | .branch m kids => kids.length = (bitsL m).length
  | _ => True
def has : N → Int → Bool
  | .branch m _, c => !decide (m &&& bitN c = 0)
  | _, _ => false
def kid : N → Int → N
  | .branch m kids, c => if m &&& bitN c = 0 then .none else kids.getD (cntB m c.toNat) .none
  | _, _ => .none
end N
theorem NodeAt.nil (I : GH) : NodeAt I .nilIface .none := rfl
theorem nodes_at {I : GH} {sv : Value} {kids : List N} {vs : List Value} {i : Nat} (hs : SliceAt I sv kids.length 1 vs) (hk : NodesAt I vs kids) (hi : i < kids.length) :
    ∃ b off cap cs T fz u, sv = .slice (some ⟨b, off, none⟩) kids.length cap ∧ I b = some (.cells cs T fz) ∧ cs[off + i * 1]? = some u ∧ NodeAt I u kids[i] := by
  obtain ⟨u, h1, h2⟩ := hk.get hi
  have hne : vs ≠ [] := fun e => by rw [e] at h1; cases h1
  obtain ⟨a, cap, rfl, _⟩ := id hs
  obtain ⟨b, off, cs, T, fz, rfl, hb, hc⟩ := hs.open hne
  refine ⟨b, off, cap, cs, T, fz, u, rfl, hb, ?_, h2⟩
  rw [← hc, List.getElem?_take, List.getElem?_drop, if_pos (by omega)] at h1
  rw [Nat.mul_one]
  simpa using h1
set_option maxRecDepth 100000 in
theorem kid_ok {I : GH} {v : Value} {n : N} (hn : NodeAt I v n) (hfit : n.fit) (c : Int) :
    Fn Tryd.prog 71 #[v, .int .i64 c] I [] (fun r J _ => ∃ u, r = .tuple #[u, .bool (n.has c)] ∧ NodeAt J u (n.kid c) ∧ I = J) := by
  cases n with
  | none =>
    obtain rfl : v = .nilIface := hn
    refine enter (args := [.nilIface, .int .i64 c]) Tryd.func71 rfl rfl fun w0 hs0 => ?_
    refine wp_seq_k fun K1 hK2 => ?_
    refine wl_begin ?_
    refine sq (r_assign rfl) rfl ?_
    refine sq (r_assign rfl) rfl ?_
    refine wl_nil ?_
    refine hK2 _ _ ?_; (try clear hK2 K1)
    refine wp_seq_k fun K3 hK4 => ?_
    refine wp_seq_k fun K5 hK6 => ?_
    refine wl_begin ?_
    refine sq (r_move rfl) rfl ?_
    refine sq (r_taNil (z := (.pointer none)) rfl (by kernel_rfl) (by kernel_rfl) rfl) rfl ?_
    refine sq (r_move rfl) rfl ?_
    refine sq (r_extract rfl rfl rfl) rfl ?_
    refine sq (r_extract rfl rfl rfl) rfl ?_
    refine sq (r_assign rfl) rfl ?_
    refine sq (r_assign rfl) rfl ?_
    refine wl_nil ?_
    refine hK6 _ _ ?_; (try clear hK6 K5)
    refine wp_seq_k fun K7 hK8 => ?_
    refine wl_begin ?_
    refine sq (r_move rfl) rfl ?_
    refine sq (r_move rfl) rfl ?_
    refine sqN (wantedF rfl rfl rfl rfl) rfl ?_
    refine sqN (wantedF rfl rfl rfl rfl) rfl ?_
    refine sqN (wantedF rfl rfl rfl rfl) rfl ?_
    refine sqN (wantedF rfl rfl rfl rfl) rfl ?_
    refine sqN (wantedF rfl rfl rfl rfl) rfl ?_
    refine sqN (wantedF rfl rfl rfl rfl) rfl ?_
    refine sq (r_pick rfl rfl rfl rfl) rfl ?_
    refine wl_nil ?_
    refine hK8 _ _ ?_; (try clear hK8 K7)
    refine condF rfl rfl ?_
    refine wp_skip ?_
    refine hK4 _ _ ?_; (try clear hK4 K3)
    refine wp_seq_k fun K9 hK10 => ?_
    refine nrm (vals := [(0, .nilIface), (1, .int .i64 c), (4, .nilIface), (5, .bool false), (6, .pointer none), (7, .bool false), (21, .bool false)]) (.cons rfl (.cons rfl (.cons rfl (.cons rfl (.cons rfl (.cons rfl (.cons rfl .nil))))))) fun g11 => ?_
    refine wl_begin ?_
    refine sq (r_assign rfl) rfl ?_
    refine sq (r_assign rfl) rfl ?_
    refine wl_nil ?_
    refine hK10 _ _ ?_; (try clear hK10 K9)
    refine wp_ret ?_
    exact leave (X' := []) (L := []) hs0 rfl (res_many (vs := [.nilIface, .bool false]) rfl (.tmp rfl rfl (.tmp rfl rfl .nil)) rfl) ⟨_, rfl, rfl, rfl⟩
  | leaf h k x =>
    have hn0 := hn
    obtain ⟨b, kv, xv, rfl, hb, hk, hx, hh⟩ := hn0
    refine enter (args := [.iface 157 (.pointer (some ⟨b, 0, none⟩)), .int .i64 c]) Tryd.func71 rfl rfl fun w0 hs0 => ?_
    refine wp_seq_k fun K1 hK2 => ?_
    refine wl_begin ?_
    refine sq (r_assign rfl) rfl ?_
    refine sq (r_assign rfl) rfl ?_
    refine wl_nil ?_
    refine hK2 _ _ ?_; (try clear hK2 K1)
    refine wp_seq_k fun K3 hK4 => ?_
    refine wp_seq_k fun K5 hK6 => ?_
    refine wl_begin ?_
    refine sq (r_move rfl) rfl ?_
    refine sq (r_taNo (z := (.pointer none)) rfl (by kernel_rfl) (by kernel_rfl) rfl rfl) rfl ?_
    refine sq (r_move rfl) rfl ?_
    refine sq (r_extract rfl rfl rfl) rfl ?_
    refine sq (r_extract rfl rfl rfl) rfl ?_
    refine sq (r_assign rfl) rfl ?_
    refine sq (r_assign rfl) rfl ?_
    refine wl_nil ?_
    refine hK6 _ _ ?_; (try clear hK6 K5)
    refine wp_seq_k fun K7 hK8 => ?_
    refine wl_begin ?_
    refine sq (r_move rfl) rfl ?_
    refine sq (r_move rfl) rfl ?_
    refine sqN (wantedF rfl rfl rfl rfl) rfl ?_
    refine sqN (wantedF rfl rfl rfl rfl) rfl ?_
    refine sqN (wantedF rfl rfl rfl rfl) rfl ?_
    refine sqN (wantedF rfl rfl rfl rfl) rfl ?_
    refine sqN (wantedF rfl rfl rfl rfl) rfl ?_
    refine sqN (wantedF rfl rfl rfl rfl) rfl ?_
    refine sq (r_pick rfl rfl rfl rfl) rfl ?_
    refine wl_nil ?_
    refine hK8 _ _ ?_; (try clear hK8 K7)
    refine condF rfl rfl ?_
    refine wp_skip ?_
    refine hK4 _ _ ?_; (try clear hK4 K3)
    refine wp_seq_k fun K9 hK10 => ?_
    refine nrm (vals := [(0, .iface 157 (.pointer (some ⟨b, 0, none⟩))), (1, .int .i64 c), (4, .nilIface), (5, .bool false), (6, .pointer none), (7, .bool false), (21, .bool false)]) (.cons rfl (.cons rfl (.cons rfl (.cons rfl (.cons rfl (.cons rfl (.cons rfl .nil))))))) fun g11 => ?_
    refine wl_begin ?_
    refine sq (r_assign rfl) rfl ?_
    refine sq (r_assign rfl) rfl ?_
    refine wl_nil ?_
    refine hK10 _ _ ?_; (try clear hK10 K9)
    refine wp_ret ?_
    exact leave (X' := []) (L := []) hs0 rfl (res_many (vs := [.nilIface, .bool false]) rfl (.tmp rfl rfl (.tmp rfl rfl .nil)) rfl) ⟨_, rfl, rfl, rfl⟩
  | bucket h t =>
    have hn0 := hn
    obtain ⟨b, p, rfl, hb, ht, hh⟩ := hn0
    refine enter (args := [.iface 160 (.pointer (some ⟨b, 0, none⟩)), .int .i64 c]) Tryd.func71 rfl rfl fun w0 hs0 => ?_
    refine wp_seq_k fun K1 hK2 => ?_
    refine wl_begin ?_
    refine sq (r_assign rfl) rfl ?_
    refine sq (r_assign rfl) rfl ?_
    refine wl_nil ?_
    refine hK2 _ _ ?_; (try clear hK2 K1)
    refine wp_seq_k fun K3 hK4 => ?_
    refine wp_seq_k fun K5 hK6 => ?_
    refine wl_begin ?_
    refine sq (r_move rfl) rfl ?_
    refine sq (r_taNo (z := (.pointer none)) rfl (by kernel_rfl) (by kernel_rfl) rfl rfl) rfl ?_
    refine sq (r_move rfl) rfl ?_
    refine sq (r_extract rfl rfl rfl) rfl ?_
    refine sq (r_extract rfl rfl rfl) rfl ?_
    refine sq (r_assign rfl) rfl ?_
    refine sq (r_assign rfl) rfl ?_
    refine wl_nil ?_
    refine hK6 _ _ ?_; (try clear hK6 K5)
    refine wp_seq_k fun K7 hK8 => ?_
    refine wl_begin ?_
    refine sq (r_move rfl) rfl ?_
    refine sq (r_move rfl) rfl ?_
    refine sqN (wantedF rfl rfl rfl rfl) rfl ?_
    refine sqN (wantedF rfl rfl rfl rfl) rfl ?_
    refine sqN (wantedF rfl rfl rfl rfl) rfl ?_
    refine sqN (wantedF rfl rfl rfl rfl) rfl ?_
    refine sqN (wantedF rfl rfl rfl rfl) rfl ?_
    refine sqN (wantedF rfl rfl rfl rfl) rfl ?_
    refine sq (r_pick rfl rfl rfl rfl) rfl ?_
    refine wl_nil ?_
    refine hK8 _ _ ?_; (try clear hK8 K7)
    refine condF rfl rfl ?_
    refine wp_skip ?_
    refine hK4 _ _ ?_; (try clear hK4 K3)
    refine wp_seq_k fun K9 hK10 => ?_
    refine nrm (vals := [(0, .iface 160 (.pointer (some ⟨b, 0, none⟩))), (1, .int .i64 c), (4, .nilIface), (5, .bool false), (6, .pointer none), (7, .bool false), (21, .bool false)]) (.cons rfl (.cons rfl (.cons rfl (.cons rfl (.cons rfl (.cons rfl (.cons rfl .nil))))))) fun g11 => ?_
    refine wl_begin ?_
    refine sq (r_assign rfl) rfl ?_
    refine sq (r_assign rfl) rfl ?_
    refine wl_nil ?_
    refine hK10 _ _ ?_; (try clear hK10 K9)
    refine wp_ret ?_
    exact leave (X' := []) (L := []) hs0 rfl (res_many (vs := [.nilIface, .bool false]) rfl (.tmp rfl rfl (.tmp rfl rfl .nil)) rfl) ⟨_, rfl, rfl, rfl⟩
  | branch m kids =>
    have hn0 := hn
    obtain ⟨b, sv, vs, rfl, hb, hs, hks, hm⟩ := hn0
    refine enter (args := [.iface 133 (.pointer (some ⟨b, 0, none⟩)), .int .i64 c]) Tryd.func71 rfl rfl fun w0 hs0 => ?_
    refine wp_seq_k fun K1 hK2 => ?_
    refine wl_begin ?_
    refine sq (r_assign rfl) rfl ?_
    refine sq (r_assign rfl) rfl ?_
    refine wl_nil ?_
    refine hK2 _ _ ?_; (try clear hK2 K1)
    refine wp_seq_k fun K3 hK4 => ?_
    refine wp_seq_k fun K5 hK6 => ?_
    refine wl_begin ?_
    refine sq (r_move rfl) rfl ?_
    refine sq (r_taYes rfl (by kernel_rfl) rfl) rfl ?_
    refine sq (r_move rfl) rfl ?_
    refine sq (r_extract rfl rfl rfl) rfl ?_
    refine sq (r_extract rfl rfl rfl) rfl ?_
    refine sq (r_assign rfl) rfl ?_
    refine sq (r_assign rfl) rfl ?_
    refine wl_nil ?_
    refine hK6 _ _ ?_; (try clear hK6 K5)
    refine wp_seq_k fun K7 hK8 => ?_
    refine wl_begin ?_
    refine sq (r_move rfl) rfl ?_
    refine sq (r_move rfl) rfl ?_
    refine sqG (wantedT rfl rfl rfl rfl) (r_move rfl) rfl ?_
    refine sqG (wantedT rfl rfl rfl rfl) (r_nilCheck rfl rfl) rfl ?_
    refine sqG (wantedT rfl rfl rfl rfl) (r_fieldAddr (off := 0) rfl (by kernel_rfl) rfl) rfl ?_
    refine sqG (wantedT rfl rfl rfl rfl) (r_load rfl (by kernel_rfl) rfl (hs0.imm hb) rfl) rfl ?_
    refine sqG (wantedT rfl rfl rfl rfl) (r_move rfl) rfl ?_
    refine sqoG (wantedT rfl rfl rfl rfl) fun K9 hK10 => ow_call (X := []) (L := []) (lb := []) hs0 (has_ok hm c) (by kernel_rfl) rfl rfl rfl rfl rfl ?_
    rintro _ _ X1 w11 ⟨rfl, rfl⟩ - hs12 hid13
    obtain rfl : X1 = [] := List.map_eq_nil_iff.1 hid13
    replace hs12 : St w0 I (ids []) I [] w11 := hs12
    clear hs0 hid13
    refine hK10 _ _ ?_; clear hK10 K9
    refine sq (r_pick rfl rfl rfl rfl) rfl ?_
    refine wl_nil ?_
    refine hK8 _ _ ?_; (try clear hK8 K7)
    refine condS rfl rfl (fun h14 => ?_) (fun h14 => ?_)
    ·
      have h15 : (decide (m &&& bitN c = 0)) = false := by simpa using h14
      have p16 := of_decide_eq_false h15
      have hc : ¬ (m &&& bitN c = 0) := by assumption
      have hc2 := hc; rw [bitN_and, Classical.not_not] at hc2; obtain ⟨hc0, hc1, hct⟩ := hc2
      have hce : (min (max c 0) 32).toNat = c.toNat := by omega
      have hlt : cntB m (min (max c 0) 32).toNat < kids.length := by rw [hce, hfit]; exact cntB_lt (by omega) hct
      obtain ⟨kb, ko, kc, cs, KT, kfz, u, rfl, hkb, hu, hun⟩ := nodes_at hs hks hlt
      replace hb : I b = some (.cells #[.int .u32 ((m : Nat) : Int), .slice (some ⟨kb, ko, none⟩) kids.length kc, .int .i64 ((N.sizes kids : Nat) : Int)] 137 (0, 0)) := hb
      refine wp_seq_k fun K17 hK18 => ?_
      refine nrm (vals := [(0, .iface 133 (.pointer (some ⟨b, 0, none⟩))), (1, .int .i64 c), (4, .nilIface), (5, .bool false), (6, .pointer (some ⟨b, 0, none⟩)), (7, .bool true), (21, .bool (!(decide (m &&& bitN c = 0))))]) (.cons rfl (.cons rfl (.cons rfl (.cons rfl (.cons rfl (.cons rfl (.cons rfl .nil))))))) fun g19 => ?_
      refine draw_begin (S := SS I []) (by kernel_rfl) ?_
      have hs20 := hs12.drew; clear hs12
      have hss := hs20.ss (I := I) (GH.le.refl _) (fun _ h => h)
      refine dt 0 rfl (by kernel_rfl) (fun _ _ _ h => h) hss (fun _ h => r_move rfl) rfl ?_
      refine dt 1 rfl (by kernel_rfl) (fun _ _ _ h => h) hss (fun _ h => r_nilCheck rfl rfl) rfl ?_
      refine dt 2 rfl (by kernel_rfl) (fun _ _ _ h => h) hss (fun _ h => (r_fieldAddr (off := 1) rfl (by kernel_rfl) rfl)) rfl ?_
      refine dt 3 rfl (by kernel_rfl) (fun _ _ _ h => h) hss (fun _ h => r_load rfl (by kernel_rfl) rfl (h.imm hb) rfl) rfl ?_
      refine dt 4 rfl (by kernel_rfl) (fun _ _ _ h => h) hss (fun _ h => r_move rfl) rfl ?_
      refine dt 5 rfl (by kernel_rfl) (fun _ _ _ h => h) hss (fun _ h => r_nilCheck rfl rfl) rfl ?_
      refine dt 6 rfl (by kernel_rfl) (fun _ _ _ h => h) hss (fun _ h => (r_fieldAddr (off := 0) rfl (by kernel_rfl) rfl)) rfl ?_
      refine dt 7 rfl (by kernel_rfl) (fun _ _ _ h => h) hss (fun _ h => r_load rfl (by kernel_rfl) rfl (h.imm hb) rfl) rfl ?_
      refine dt 8 rfl (by kernel_rfl) (fun _ _ _ h => h) hss (fun _ h => r_move rfl) rfl ?_
      refine dro 9 (by kernel_rfl) rfl (ow_call (X := []) (L := []) (lb := []) hs20 (place_ok hm c) (by kernel_rfl) rfl rfl rfl rfl rfl ?_)
      rintro _ _ X1 w21 ⟨rfl, rfl⟩ - hs22 hid23
      obtain rfl : X1 = [] := List.map_eq_nil_iff.1 hid23
      replace hs22 : St w0 I (ids []) I [] w21 := hs22
      clear hs20 hid23
      replace hss := hs22.ss (I := I) (GH.le.refl _) (fun _ h => h)
      refine ⟨hss, ?_⟩
      refine dt 10 rfl (by kernel_rfl) (fun _ _ _ h => h) hss (fun _ h => (r_index (e := 28) (sz := 1) (i := cntB m (min (max c 0) 32).toNat) rfl rfl (by kernel_rfl) rfl rfl hlt)) rfl ?_
      refine dt 11 rfl (by kernel_rfl) (fun _ _ _ h => h) hss (fun _ h => (r_load rfl (by kernel_rfl) rfl (h.imm hkb) hu)) rfl ?_
      refine dt 12 rfl (by kernel_rfl) (fun _ _ _ h => h) hss (fun _ h => r_assign rfl) rfl ?_
      refine nrmD (vals := [(0, .iface 133 (.pointer (some ⟨b, 0, none⟩))), (1, .int .i64 c), (4, u), (5, .bool false), (6, .pointer (some ⟨b, 0, none⟩)), (7, .bool true), (21, .bool (!(decide (m &&& bitN c = 0))))]) (.cons rfl (.cons rfl (.cons rfl (.cons rfl (.cons rfl (.cons rfl (.cons rfl .nil))))))) fun g24 => ?_
      refine dt 13 rfl (by kernel_rfl) (fun _ _ _ h => h) hss (fun _ h => r_assign rfl) rfl ?_
      refine draw_done (by kernel_rfl) ?_
      refine hK18 _ _ ?_; (try clear hK18 K17)
      refine wp_ret ?_
      exact leave (X' := []) (L := []) hs22 rfl (res_many (vs := [u, .bool true]) rfl (.tmp rfl rfl (.tmp rfl rfl .nil)) rfl) ⟨_, by simp only [N.has, hc]; rfl, by simp only [N.kid, hc, if_false]; rw [← hce, List.getD_eq_getElem?_getD, List.getElem?_eq_getElem hlt]; exact hun, rfl⟩
    ·
      have h25 : (decide (m &&& bitN c = 0)) = true := by simpa using h14
      have p26 := of_decide_eq_true h25
      refine wp_skip ?_
      refine hK4 _ _ ?_; (try clear hK4 K3)
      refine wp_seq_k fun K27 hK28 => ?_
      refine nrm (vals := [(0, .iface 133 (.pointer (some ⟨b, 0, none⟩))), (1, .int .i64 c), (4, .nilIface), (5, .bool false), (6, .pointer (some ⟨b, 0, none⟩)), (7, .bool true), (21, .bool (!(decide (m &&& bitN c = 0))))]) (.cons rfl (.cons rfl (.cons rfl (.cons rfl (.cons rfl (.cons rfl (.cons rfl .nil))))))) fun g29 => ?_
      refine wl_begin ?_
      refine sq (r_assign rfl) rfl ?_
      refine sq (r_assign rfl) rfl ?_
      refine wl_nil ?_
      refine hK28 _ _ ?_; (try clear hK28 K27)
      refine wp_ret ?_
      exact leave (X' := []) (L := []) hs12 rfl (res_many (vs := [.nilIface, .bool false]) rfl (.tmp rfl rfl (.tmp rfl rfl .nil)) rfl) (by have hc : m &&& bitN c = 0 := (by assumption); exact ⟨_, by simp only [N.has, hc]; rfl, by simp only [N.kid, hc, if_true]; rfl, rfl⟩)
end Go.Proofs.YtlnlodfnplkckaaDoor
/- Methods of nodes; slices.Clone of nodes; the contract of node.Branch. -/
namespace Go.Proofs.YtlnlodfnplkckaaDoor
set_option linter.unusedVariables false
set_option linter.unusedSimpArgs false
section
variable {Q : Exit → Act → World → Prop} {K : Act → World → Prop} {f : Nat → Value} {n : Fr} {w : World}
  {d : Nat} {ty : TypeId} {pos : String} {af : Array Edge} {g : Option (Nat × Bool)} {w0 : World} {I0 I : GH} {X0 : List Nat} {L : List Bx} {x : Operand} {ats : Array TypeId} {v : Value} {nd : N}
theorem ow_count (hs : St w0 I0 X0 I ([] ++ L) w) (hn : NodeAt I v nd) (hne : nd ≠ .none) (hx : okO n x = true) (hxv : ev f x = v) (hd : Nat.blt d n.k = true)
    (k : ∀ v J X' w', (v = .int .i64 ((nd.size : Nat) : Int) ∧ I = J) → I.le J → St w0 I0 X0 J (X' ++ L) w' → ids X' = ids [] → K (FA (upd f d v) n) w') :
    OW Tryd.prog ⟨some d, .call ⟨.invoke x "Count", #[], ats⟩, ty, pos, af, g⟩ f n w K Q := by
  cases nd with
  | none => exact absurd rfl hne
  | leaf h k x =>
    obtain ⟨b, kv, xv, rfl, hb, hk, hx, hh⟩ := hn
    exact ow_invoke (X := []) (L := L) hs (count1_ok (a := some ⟨b, 0, none⟩)) (by kernel_rfl) (by assumption) hxv (fun _ => by kernel_rfl) rfl rfl hd k
  | bucket h t =>
    obtain ⟨b, p, rfl, hb, ht, hh⟩ := hn
    exact ow_invoke (X := []) (L := L) hs (count2_ok hb ht) (by kernel_rfl) (by assumption) hxv (fun _ => by kernel_rfl) rfl rfl hd k
  | branch m kids =>
    obtain ⟨b, sv, vs, rfl, hb, hs', hks, hm⟩ := hn
    exact ow_invoke (X := []) (L := L) hs (count3_ok hb) (by kernel_rfl) (by assumption) hxv (fun _ => by kernel_rfl) rfl rfl hd k
end
theorem NodesAt.one' {I : GH} : ∀ {l : List N} {vs : List Value}, NodesAt I vs l → ∀ u ∈ vs, u.oneCell' = true
  | [], _, h, u, hu => by rw [show _ = [] from h] at hu; cases hu
  | _ :: _, _, ⟨v, us, h1, h2, h3⟩, u, hu => by
    subst h1
    cases hu with
    | head => rcases h2.pif with rfl | ⟨_, _, rfl⟩ <;> rfl
    | tail _ hu => exact NodesAt.one' h3 u hu
theorem clonen_nil {I : GH} : Fn Tryd.prog 119 #[.slice none 0 0] I [] (fun v J _ => v = .slice none 0 0 ∧ I = J) := by
  refine enter (args := [.slice none 0 0]) Tryd.func119 rfl rfl fun w0 hs0 => ?_
  refine wp_seq_k fun K1 hK2 => ?_
  refine wl_begin ?_
  refine sq (r_assign rfl) rfl ?_
  refine wl_nil ?_
  refine hK2 _ _ ?_; (try clear hK2 K1)
  refine wp_seq_k fun K3 hK4 => ?_
  refine wp_seq_k fun K5 hK6 => ?_
  refine wl_begin ?_
  refine sq (r_move rfl) rfl ?_
  refine sq (r_eqs rfl rfl (by kernel_rfl) rfl rfl) rfl ?_
  refine wl_nil ?_
  refine hK6 _ _ ?_; (try clear hK6 K5)
  refine condT rfl rfl ?_
  refine wp_seq_k fun K7 hK8 => ?_
  refine wl_begin ?_
  refine sq (r_assign rfl) rfl ?_
  refine wl_nil ?_
  refine hK8 _ _ ?_; (try clear hK8 K7)
  refine wp_ret ?_
  exact leave (X' := []) (L := []) hs0 rfl (res_one (v := .slice none 0 0) rfl (.tmp rfl rfl .nil)) ⟨rfl, rfl⟩
set_option maxRecDepth 100000 in
theorem clonen_ok {I : GH} {v : Value} {k : List N} {vs : List Value} (h : SliceAt I v k.length 1 vs) (hk : NodesAt I vs k) (hl : k.length ≤ 1000000) : Fn Tryd.prog 119 #[v] I [] (fun x J _ => SliceAt J x k.length 1 vs) := by
  obtain ⟨a, cap, rfl, hnc, hna, hlen, ho⟩ := h
  by_cases hk0 : k = []
  · subst hk0
    obtain rfl : vs = [] := hk
    cases a with
    | none =>
      have : cap = 0 := hna rfl
      subst this
      exact clonen_nil.mono fun x J _ h => by rw [h.1]; exact SliceAt.nil J 1
    | some ad =>
      refine enter (args := [.slice (some ad) 0 cap]) Tryd.func119 rfl rfl fun w0 hs0 => ?_
      refine wp_seq_k fun K1 hK2 => ?_
      refine wl_begin ?_
      refine sq (r_assign rfl) rfl ?_
      refine wl_nil ?_
      refine hK2 _ _ ?_; (try clear hK2 K1)
      refine wp_seq_k fun K3 hK4 => ?_
      refine wp_seq_k fun K5 hK6 => ?_
      refine wl_begin ?_
      refine sq (r_move rfl) rfl ?_
      refine sq (r_eqs rfl rfl (by kernel_rfl) rfl rfl) rfl ?_
      refine wl_nil ?_
      refine hK6 _ _ ?_; (try clear hK6 K5)
      refine condF rfl rfl ?_
      refine wp_skip ?_
      refine hK4 _ _ ?_; (try clear hK4 K3)
      refine wp_seq_k fun K7 hK8 => ?_
      refine wl_begin ?_
      refine sqo rfl fun K9 hK10 => ow_empty (E := 28) (sz := 1) (bytes := 16) hs0 (by kernel_rfl) rfl ?_
      rintro v11 R12 w13 hr14 hs15 hf16
      replace hs15 : St w0 I (ids []) I (R12 ++ []) w13 := hs15; clear hs0 hf16
      refine hK10 _ _ ?_; clear hK10 K9
      refine sq (r_move rfl) rfl ?_
      refine sqo rfl fun K17 hK18 => ow_append (R := R12) (L := []) (E := 28) (sz := 1) (bytes := 16) (news := []) hs15 hr14 (by kernel_rfl) rfl rfl rfl rfl rfl (by simp) (fun _ _ h => by cases h) (by simp) (by simp only [maxLen]; omega) (by omega) rfl ?_
      rintro v19 R20 w21 hr22 hs23 hf24
      replace hs23 : St w0 I (ids []) I (R20 ++ []) w21 := hs23; clear hs15 hf24
      refine hK18 _ _ ?_; clear hK18 K17
      refine sq (r_assign rfl) rfl ?_
      refine wl_nil ?_
      refine hK8 _ _ ?_; (try clear hK8 K7)
      refine wp_ret ?_
      obtain ⟨G1, le25, hs26, hz27⟩ := hs23.freezeRow (R := R20) (L := []) hr22 (fun _ h => by cases h); clear hs23
      replace hs26 : St w0 I (ids []) G1 [] w21 := hs26
      exact leave (X' := []) (L := []) hs26 rfl (res_one (v := v19) rfl (.tmp rfl rfl .nil)) (by simpa using hz27)
  · have hv0 : vs ≠ [] := fun e => hk0 (List.length_eq_zero_iff.1 (by rw [← hk.length, e]; rfl))
    obtain ⟨b, off, cs, T, fz, rfl, hb, ht⟩ := ho hv0
    have ht : (cs.toList.drop off).take vs.length = vs := by rw [hlen]; exact ht
    refine enter (args := [.slice (some ⟨b, off, none⟩) k.length cap]) Tryd.func119 rfl rfl fun w0 hs0 => ?_
    refine wp_seq_k fun K1 hK2 => ?_
    refine wl_begin ?_
    refine sq (r_assign rfl) rfl ?_
    refine wl_nil ?_
    refine hK2 _ _ ?_; (try clear hK2 K1)
    refine wp_seq_k fun K3 hK4 => ?_
    refine wp_seq_k fun K5 hK6 => ?_
    refine wl_begin ?_
    refine sq (r_move rfl) rfl ?_
    refine sq (r_eqs rfl rfl (by kernel_rfl) rfl rfl) rfl ?_
    refine wl_nil ?_
    refine hK6 _ _ ?_; (try clear hK6 K5)
    refine condF rfl rfl ?_
    refine wp_skip ?_
    refine hK4 _ _ ?_; (try clear hK4 K3)
    refine wp_seq_k fun K7 hK8 => ?_
    refine wl_begin ?_
    refine sqo rfl fun K9 hK10 => ow_empty (E := 28) (sz := 1) (bytes := 16) hs0 (by kernel_rfl) rfl ?_
    rintro v11 R12 w13 hr14 hs15 hf16
    replace hs15 : St w0 I (ids []) I (R12 ++ []) w13 := hs15; clear hs0 hf16
    refine hK10 _ _ ?_; clear hK10 K9
    refine sq (r_move rfl) rfl ?_
    refine sqo rfl fun K17 hK18 => ow_append (R := R12) (L := []) (E := 28) (sz := 1) (bytes := 16) (news := vs) hs15 hr14 (by kernel_rfl) rfl rfl rfl rfl rfl (by simpa using hlen) (SliceAt.news (hs15.imm hb) ht) hk.one' (by simp only [maxLen]; omega) (by omega) rfl ?_
    rintro v19 R20 w21 hr22 hs23 hf24
    replace hs23 : St w0 I (ids []) I (R20 ++ []) w21 := hs23; clear hs15 hf24
    refine hK18 _ _ ?_; clear hK18 K17
    refine sq (r_assign rfl) rfl ?_
    refine wl_nil ?_
    refine hK8 _ _ ?_; (try clear hK8 K7)
    refine wp_ret ?_
    obtain ⟨G1, le25, hs26, hz27⟩ := hs23.freezeRow (R := R20) (L := []) hr22 (fun _ h => by cases h); clear hs23
    replace hs26 : St w0 I (ids []) G1 [] w21 := hs26
    exact leave (X' := []) (L := []) hs26 rfl (res_one (v := v19) rfl (.tmp rfl rfl .nil)) (by simpa using hz27)
end Go.Proofs.YtlnlodfnplkckaaDoor
/- The contract of node.Branch. -/
namespace Go.Proofs.YtlnlodfnplkckaaDoor
set_option linter.unusedVariables false
set_option linter.unusedSimpArgs false
theorem St.freezeB {w0 w : World} {I0 I : GH} {L : List Bx} {x : Bx} (h : St w0 I0 (ids []) I (x :: L) w) : ∃ J, I.le J ∧ St w0 I0 (ids []) J L w ∧ J x.b = some (.cells x.cs x.T (0, 0)) := by
  obtain ⟨h1, h2⟩ := h.freeze (St.own_ge h)
  exact ⟨_, h2, h1, GH.add_same _ _ _⟩
namespace N
def isN : N → Bool
  | .none => true
  | _ => false
/-- What node.Branch makes. -/
def mk (m : Nat) (kids : List N) : N := if kids.length = 0 ∨ kids.length ≠ (bitsL m).length ∨ kids.any isN = true then .none else .branch m kids
end N
theorem NodeAt.isN {I : GH} {v : Value} {n : N} (h : NodeAt I v n) : isNilIf v = n.isN := by
  cases n with
  | none => rw [show v = .nilIface from h]; rfl
  | leaf h k x => obtain ⟨b, kv, xv, rfl, _⟩ := h; rfl
  | bucket h t => obtain ⟨b, p, rfl, _⟩ := h; rfl
  | branch m kids => obtain ⟨b, sv, vs, rfl, _⟩ := h; rfl
theorem N.ne_of {n : N} (h : n.isN = false) : n ≠ .none := fun e => by rw [e] at h; cases h
theorem N.sizes_take {kids : List N} {k : Nat} (h : k < kids.length) : N.sizes (kids.take (k + 1)) = N.sizes (kids.take k) + kids[k].size := by
  induction kids generalizing k with
  | nil => simp at h
  | cons n l ih =>
    cases k with
    | zero => simp [N.sizes]
    | succ k =>
      have := ih (k := k) (by simpa using h)
      simp only [List.take_succ_cons, N.sizes, List.getElem_cons_succ]
      omega
theorem N.sizes_le {kids : List N} (k : Nat) : N.sizes (kids.take k) ≤ N.sizes kids := by
  induction kids generalizing k with
  | nil => simp
  | cons n l ih =>
    cases k with
    | zero => simp [N.sizes]
    | succ k =>
      have := ih k
      simp only [List.take_succ_cons, N.sizes]
      omega
/-- Each element of a slice of nodes. -/
theorem nodes_all {I : GH} {sv : Value} {kids : List N} {vs : List Value} (hs : SliceAt I sv kids.length 1 vs) (hk : NodesAt I vs kids) (h0 : kids.length ≠ 0) :
    ∃ b off cap cs T fz, sv = .slice (some ⟨b, off, none⟩) kids.length cap ∧ I b = some (.cells cs T fz) ∧ ∀ i, (hi : i < kids.length) → ∃ u, cs[off + i * 1]? = some u ∧ NodeAt I u kids[i] := by
  obtain ⟨b, off, cap, cs, T, fz, u, rfl, hb, _, _⟩ := nodes_at hs hk (i := 0) (by omega)
  refine ⟨b, off, cap, cs, T, fz, rfl, hb, fun i hi => ?_⟩
  obtain ⟨b', off', cap', cs', T', fz', u', e, hb', hu, hn⟩ := nodes_at hs hk hi
  cases e
  rw [hb] at hb'
  cases hb'
  exact ⟨u', hu, hn⟩
set_option maxRecDepth 100000 in
theorem branch_ok {I : GH} {m : Nat} (hm : m < 2 ^ 32) {sv : Value} {kids : List N} {vs : List Value} (hs : SliceAt I sv kids.length 1 vs) (hks : NodesAt I vs kids) (hlen : kids.length ≤ 1000) (hsz : N.sizes kids ≤ 1000000) :
    Fn Tryd.prog 87 #[.int .u32 ((m : Nat) : Int), sv] I [] (fun v J _ => NodeAt J v (N.mk m kids)) := by
  have hszle : ∀ k, N.sizes (kids.take k) ≤ 1000000 := fun k => Nat.le_trans (N.sizes_le k) hsz
  obtain ⟨sa, sc, rfl, _⟩ := id hs
  refine enter (args := [.int .u32 ((m : Nat) : Int), .slice sa kids.length sc]) Tryd.func87 rfl rfl fun w0 hs0 => ?_
  refine wp_seq_k fun K1 hK2 => ?_
  refine wl_begin ?_
  refine sq (r_assign rfl) rfl ?_
  refine wl_nil ?_
  refine hK2 _ _ ?_; (try clear hK2 K1)
  refine wp_seq_k fun K3 hK4 => ?_
  refine wp_seq_k fun K5 hK6 => ?_
  refine wl_begin ?_
  refine sq (r_move rfl) rfl ?_
  refine sq (r_lens rfl (by kernel_rfl) rfl) rfl ?_
  refine sq (r_eqi rfl rfl rfl rfl) rfl ?_
  refine sq (r_move rfl) rfl ?_
  refine bsplit (decide (((kids.length : Nat) : Int) = 0)) (fun h7 => ?_) (fun h7 => ?_)
  ·
    have p8 := of_decide_eq_true h7
    refine sqN (wantedF rfl rfl rfl (congrArg Value.bool h7)) rfl ?_
    refine sqN (wantedF rfl rfl rfl (congrArg Value.bool h7)) rfl ?_
    refine sqN (wantedF rfl rfl rfl (congrArg Value.bool h7)) rfl ?_
    refine sqN (wantedF rfl rfl rfl (congrArg Value.bool h7)) rfl ?_
    refine sqN (wantedF rfl rfl rfl (congrArg Value.bool h7)) rfl ?_
    refine sq (r_pick rfl rfl rfl (congrArg Value.bool h7)) rfl ?_
    refine wl_nil ?_
    refine hK6 _ _ ?_; (try clear hK6 K5)
    refine condT rfl rfl ?_
    refine wp_seq_k fun K9 hK10 => ?_
    refine wl_begin ?_
    refine sq (r_assign rfl) rfl ?_
    refine wl_nil ?_
    refine hK10 _ _ ?_; (try clear hK10 K9)
    refine wp_ret ?_
    exact leave (X' := []) (L := []) hs0 rfl (res_one (v := .nilIface) rfl (.tmp rfl rfl .nil)) (by rw [show N.mk m kids = .none from if_pos (by first | exact .inl (by omega) | exact .inr (.inl (by omega)))]; rfl)
  ·
    have p11 := of_decide_eq_false h7
    refine sqG (wantedT rfl rfl rfl (congrArg Value.bool h7)) (r_move rfl) rfl ?_
    refine sqG (wantedT rfl rfl rfl (congrArg Value.bool h7)) (r_lens rfl (by kernel_rfl) rfl) rfl ?_
    refine sqG (wantedT rfl rfl rfl (congrArg Value.bool h7)) (r_move rfl) rfl ?_
    refine sqoG (wantedT rfl rfl rfl (congrArg Value.bool h7)) fun K12 hK13 => ow_call (X := []) (L := []) (lb := []) hs0 (count_ok hm) (by kernel_rfl) rfl rfl rfl rfl rfl ?_
    rintro _ _ X1 w14 ⟨rfl, rfl⟩ - hs15 hid16
    obtain rfl : X1 = [] := List.map_eq_nil_iff.1 hid16
    replace hs15 : St w0 I (ids []) I [] w14 := hs15
    clear hs0 hid16
    refine hK13 _ _ ?_; clear hK13 K12
    refine sqG (wantedT rfl rfl rfl (congrArg Value.bool h7)) (r_nei rfl rfl rfl rfl) rfl ?_
    refine sq (r_pick rfl rfl rfl (congrArg Value.bool h7)) rfl ?_
    refine wl_nil ?_
    refine hK6 _ _ ?_; (try clear hK6 K5)
    refine condS rfl rfl (fun h17 => ?_) (fun h17 => ?_)
    ·
      have h18 : (decide (((kids.length : Nat) : Int) = (((bitsL m).length : Nat) : Int))) = false := by simpa using h17
      have p19 := of_decide_eq_false h18
      refine wp_seq_k fun K20 hK21 => ?_
      refine wl_begin ?_
      refine sq (r_assign rfl) rfl ?_
      refine wl_nil ?_
      refine hK21 _ _ ?_; (try clear hK21 K20)
      refine wp_ret ?_
      exact leave (X' := []) (L := []) hs15 rfl (res_one (v := .nilIface) rfl (.tmp rfl rfl .nil)) (by rw [show N.mk m kids = .none from if_pos (by first | exact .inl (by omega) | exact .inr (.inl (by omega)))]; rfl)
    ·
      have h22 : (decide (((kids.length : Nat) : Int) = (((bitsL m).length : Nat) : Int))) = true := by simpa using h17
      have p23 := of_decide_eq_true h22
      refine wp_skip ?_
      refine hK4 _ _ ?_; (try clear hK4 K3)
      refine wp_seq_k fun K24 hK25 => ?_
      have hne : kids.length ≠ 0 := by omega
      obtain ⟨kb, ko, kc, cs, KT, kfz, hse, hkb, hat⟩ := nodes_all hs hks hne
      cases hse
      refine wl_begin ?_
      refine sq (r_move rfl) rfl ?_
      refine sq (r_move rfl) rfl ?_
      refine sqo rfl fun K26 hK27 => ow_call (X := []) (L := []) (lb := []) hs15 (clonen_ok hs hks (by omega)) (by kernel_rfl) rfl rfl rfl rfl rfl ?_
      rintro cv28 G1 X1 w30 hc29 le33 hs31 hid32
      obtain rfl : X1 = [] := List.map_eq_nil_iff.1 hid32
      replace hs31 : St w0 I (ids []) G1 [] w30 := hs31
      clear hs15 hid32
      refine hK27 _ _ ?_; clear hK27 K26
      refine sq (r_build (.cons rfl rfl (.cons rfl (One.cells hc29.one) (.cons rfl rfl .nil))) (cells := #[.int .u32 ((m : Nat) : Int), cv28, .int .i64 0]) (by kernel_rfl)) rfl ?_
      refine sqo rfl fun K34 hK35 => ow_newbox (mk := fun b => .pointer (some ⟨b, 0, none⟩)) hs31 (r_box rfl rfl) rfl ?_
      rintro b36 w37 (hs38 : St w0 I (ids []) G1 [⟨b36, #[.int .u32 ((m : Nat) : Int), cv28, .int .i64 0], 137⟩] w37)
      clear hs31
      refine hK35 _ _ ?_; clear hK35 K34
      refine sq (r_assign rfl) rfl ?_
      refine wl_nil ?_
      refine hK25 _ _ ?_; (try clear hK25 K24)
      refine wp_seq_k fun K39 hK40 => ?_
      refine wp_seq_k fun K41 hK42 => ?_
      refine nrm (vals := [(0, .int .u32 ((m : Nat) : Int)), (1, .slice (some ⟨kb, ko, none⟩) kids.length sc), (4, .nilIface), (5, .pointer (some ⟨b36, 0, none⟩)), (17, .bool (!(decide (((kids.length : Nat) : Int) = (((bitsL m).length : Nat) : Int)))))]) (.cons rfl (.cons rfl (.cons rfl (.cons rfl (.cons rfl .nil))))) fun g43 => ?_
      refine wl_begin ?_
      refine sq (r_move rfl) rfl ?_
      refine sq (r_lens rfl (by kernel_rfl) rfl) rfl ?_
      refine sq (r_move rfl) rfl ?_
      refine wl_nil ?_
      refine hK42 _ _ ?_; (try clear hK42 K41)
      refine wp_block ?_
      refine lp (σ := Nat) (fun m45 f46 w47 => ∃ (g44 : Nat → Value) (k : Nat), m45 = kids.length - k ∧ f46 = updL g44 [(0, .int .u32 ((m : Nat) : Int)), (1, .slice (some ⟨kb, ko, none⟩) kids.length sc), (5, .pointer (some ⟨b36, 0, none⟩)), (17, .bool (!(decide (((kids.length : Nat) : Int) = (((bitsL m).length : Nat) : Int))))), (23, .slice (some ⟨kb, ko, none⟩) kids.length sc), (24, .int .i64 ((kids.length : Nat) : Int)), (25, .int .i64 ((k : Nat) : Int))] ∧ (k ≤ kids.length) ∧ (∀ i, (hi : i < kids.length) → i < k → (kids[i]'hi).isN = false) ∧ St w0 I (ids []) G1 [⟨b36, #[.int .u32 ((m : Nat) : Int), cv28, .int .i64 ((N.sizes (kids.take k) : Nat) : Int)], 137⟩] w47) (fun m => m) (kids.length) ⟨_, 0, rfl, updL_self (.cons rfl (.cons rfl (.cons rfl (.cons rfl (.cons rfl (.cons rfl (.cons rfl .nil))))))), (Nat.zero_le _), (fun i _ h => by omega), hs38⟩ ?_
      clear hs38
      rintro m45 f46 w47 ⟨g44, k, rfl, rfl, hkl, hnn, hs48⟩
      refine wp_seq_k fun K49 hK50 => ?_
      refine wl_begin ?_
      refine sq (r_lti rfl rfl rfl rfl) rfl ?_
      refine wl_nil ?_
      refine hK50 _ _ ?_; (try clear hK50 K49)
      refine wp_seq_k fun K51 hK52 => ?_
      refine condS rfl rfl (fun h53 => ?_) (fun h53 => ?_)
      ·
        have p54 := of_decide_eq_true h53
        have hlt : k < kids.length := by omega
        obtain ⟨u, hu, hun⟩ := hat k hlt
        have hq1 := N.sizes_take hlt
        have hq2 := hszle (k + 1)
        refine wp_skip ?_
        refine hK52 _ _ ?_; (try clear hK52 K51)
        refine wp_seq_k fun K55 hK56 => ?_
        refine wp_block ?_
        refine wp_seq_k fun K57 hK58 => ?_
        refine wl_begin ?_
        refine sq (r_index (e := 28) (sz := 1) (i := k) rfl rfl (by kernel_rfl) rfl rfl (by omega)) rfl ?_
        refine sq (r_load rfl (by kernel_rfl) rfl (hs48.imm (le33 _ _ hkb)) hu) rfl ?_
        refine sq (r_assign rfl) rfl ?_
        refine wl_nil ?_
        refine hK58 _ _ ?_; (try clear hK58 K57)
        refine wp_seq_k fun K59 hK60 => ?_
        refine wp_seq_k fun K61 hK62 => ?_
        refine wl_begin ?_
        refine sq (r_move rfl) rfl ?_
        refine sq (r_eqf rfl (by kernel_rfl) rfl hun.pif) rfl ?_
        refine wl_nil ?_
        refine hK62 _ _ ?_; (try clear hK62 K61)
        refine condS rfl rfl (fun h63 => ?_) (fun h63 => ?_)
        ·
          refine wp_seq_k fun K64 hK65 => ?_
          refine wl_begin ?_
          refine sq (r_assign rfl) rfl ?_
          refine wl_nil ?_
          refine hK65 _ _ ?_; (try clear hK65 K64)
          refine wp_ret ?_
          exact leave (X' := []) (L := [⟨b36, #[.int .u32 ((m : Nat) : Int), cv28, .int .i64 ((N.sizes (kids.take k) : Nat) : Int)], 137⟩]) hs48 rfl (res_one (v := .nilIface) rfl (.tmp rfl rfl .nil)) (by rw [show N.mk m kids = .none from if_pos (.inr (.inr (List.any_eq_true.2 ⟨_, List.getElem_mem hlt, by rw [← hun.isN]; assumption⟩)))]; rfl)
        ·
          refine wp_skip ?_
          refine hK60 _ _ ?_; (try clear hK60 K59)
          refine draw_begin (S := SS G1 []) (by kernel_rfl) ?_
          have hs66 := hs48.drew; clear hs48
          have hss := hs66.ss (I := G1) (GH.le.refl _) (SubL.sub .nil)
          refine dt 0 rfl (by kernel_rfl) (fun _ _ _ h => h) hss (fun _ h => r_move rfl) rfl ?_
          refine dt 1 rfl (by kernel_rfl) (fun _ _ _ h => h) hss (fun _ h => r_nilCheck rfl rfl) rfl ?_
          refine dt 2 rfl (by kernel_rfl) (fun _ _ _ h => h) hss (fun _ h => (r_fieldAddr (off := 2) rfl (by kernel_rfl) rfl)) rfl ?_
          refine dt 4 rfl (by kernel_rfl) (fun _ _ _ h => h) hss (fun _ h => r_move rfl) rfl ?_
          refine nrmD (vals := [(0, .int .u32 ((m : Nat) : Int)), (1, .slice (some ⟨kb, ko, none⟩) kids.length sc), (5, .pointer (some ⟨b36, 0, none⟩)), (7, u), (17, .bool (!(decide (((kids.length : Nat) : Int) = (((bitsL m).length : Nat) : Int))))), (23, .slice (some ⟨kb, ko, none⟩) kids.length sc), (24, .int .i64 ((kids.length : Nat) : Int)), (25, .int .i64 ((k : Nat) : Int)), (26, .bool (decide (((k : Nat) : Int) < ((kids.length : Nat) : Int)))), (30, .bool (isNilIf u)), (31, .pointer (some ⟨b36, 0, none⟩)), (33, .pointer (some ⟨b36, 2, none⟩)), (35, u)]) (.cons rfl (.cons rfl (.cons rfl (.cons rfl (.cons rfl (.cons rfl (.cons rfl (.cons rfl (.cons rfl (.cons rfl (.cons rfl (.cons rfl (.cons rfl .nil))))))))))))) fun g67 => ?_
          refine draw_all [3, 5] (by kernel_rfl) rfl (forall_2 ?_ ?_)
          ·
            refine dmo rfl (ow_val (r_load rfl (by kernel_rfl) rfl (hs66.box (.head _)) rfl) rfl ?_)
            replace hss := hs66.ss (I := G1) (GH.le.refl _) (SubL.sub .nil)
            refine ⟨hss, ?_⟩
            refine dro 5 (by kernel_rfl) rfl (ow_count (L := [⟨b36, #[.int .u32 ((m : Nat) : Int), cv28, .int .i64 ((N.sizes (kids.take k) : Nat) : Int)], 137⟩]) hs66 (hun.up le33) (N.ne_of (by rw [← hun.isN]; assumption)) rfl rfl rfl ?_)
            rintro _ _ X1 w68 ⟨rfl, rfl⟩ - hs69 hid70
            obtain rfl : X1 = [] := List.map_eq_nil_iff.1 hid70
            replace hs69 : St w0 I (ids []) G1 [⟨b36, #[.int .u32 ((m : Nat) : Int), cv28, .int .i64 ((N.sizes (kids.take k) : Nat) : Int)], 137⟩] w68 := hs69
            clear hs66 hid70
            replace hss := hs69.ss (I := G1) (GH.le.refl _) (SubL.sub .nil)
            refine ⟨hss, ?_⟩
            refine dt 6 rfl (by kernel_rfl) (fun _ _ _ h => h) hss (fun _ h => (r_addi rfl rfl rfl rfl (by omega))) rfl ?_
            refine dt 7 rfl (by kernel_rfl) (fun _ _ _ h => h) hss (fun _ h => r_nilCheck rfl rfl) rfl ?_
            refine dt 8 rfl (by kernel_rfl) (fun _ _ _ h => h) hss (fun _ h => (r_fieldAddr (off := 2) rfl (by kernel_rfl) rfl)) rfl ?_
            refine dro 9 (by kernel_rfl) rfl (ow_store (vs := [.int .i64 (((N.sizes (kids.take k) : Nat) : Int) + (((N.size (kids[k]'hlt)) : Nat) : Int))]) hs69 rfl rfl (by kernel_rfl) rfl rfl (.cons trivial .nil) rfl ?_)
            rintro w71 (hs72 : St w0 I (ids []) G1 [⟨b36, #[.int .u32 ((m : Nat) : Int), cv28, .int .i64 (((N.sizes (kids.take k) : Nat) : Int) + (((N.size (kids[k]'hlt)) : Nat) : Int))], 137⟩] w71)
            clear hs69
            replace hss := hs72.ss (I := G1) (GH.le.refl _) (SubL.sub .nil)
            refine ⟨hss, ?_⟩
            refine draw_done (by kernel_rfl) ?_
            refine hK56 _ _ ?_; (try clear hK56 K55)
            refine wl_begin ?_
            refine sq (r_addi rfl rfl rfl rfl (by omega)) rfl ?_
            refine sq (r_move rfl) rfl ?_
            refine wl_nil ?_
            have hsz2 : N.sizes (kids.take (k + 1)) = N.sizes (kids.take k) + N.size (kids[k]'hlt) := N.sizes_take hlt
            have hcell : Value.int .i64 ((((N.sizes (kids.take k) : Nat) : Int) + (((N.size (kids[k]'hlt)) : Nat) : Int))) = .int .i64 ((N.sizes (kids.take (k + 1)) : Nat) : Int) := by rw [hsz2]; rfl
            rw [hcell] at hs72
            exact ⟨_, _, rfl, ⟨_, (k + 1), rfl, updL_self (.cons rfl (.cons rfl (.cons rfl (.cons rfl (.cons rfl (.cons rfl (.cons rfl .nil))))))), hlt, (fun i hi hik => if h : i < k then hnn i hi h else by obtain rfl : i = k := (by omega); rw [← hun.isN]; assumption), hs72⟩, (by omega)⟩
          ·
            refine dmo rfl (ow_count (L := [⟨b36, #[.int .u32 ((m : Nat) : Int), cv28, .int .i64 ((N.sizes (kids.take k) : Nat) : Int)], 137⟩]) hs66 (hun.up le33) (N.ne_of (by rw [← hun.isN]; assumption)) rfl rfl rfl ?_)
            rintro _ _ X1 w74 ⟨rfl, rfl⟩ - hs75 hid76
            obtain rfl : X1 = [] := List.map_eq_nil_iff.1 hid76
            replace hs75 : St w0 I (ids []) G1 [⟨b36, #[.int .u32 ((m : Nat) : Int), cv28, .int .i64 ((N.sizes (kids.take k) : Nat) : Int)], 137⟩] w74 := hs75
            clear hs66 hid76
            replace hss := hs75.ss (I := G1) (GH.le.refl _) (SubL.sub .nil)
            refine ⟨hss, ?_⟩
            refine dro 3 (by kernel_rfl) rfl (ow_val (r_load rfl (by kernel_rfl) rfl (hs75.box (.head _)) rfl) rfl ?_)
            replace hss := hs75.ss (I := G1) (GH.le.refl _) (SubL.sub .nil)
            refine ⟨hss, ?_⟩
            refine dt 6 rfl (by kernel_rfl) (fun _ _ _ h => h) hss (fun _ h => (r_addi rfl rfl rfl rfl (by omega))) rfl ?_
            refine dt 7 rfl (by kernel_rfl) (fun _ _ _ h => h) hss (fun _ h => r_nilCheck rfl rfl) rfl ?_
            refine dt 8 rfl (by kernel_rfl) (fun _ _ _ h => h) hss (fun _ h => (r_fieldAddr (off := 2) rfl (by kernel_rfl) rfl)) rfl ?_
            refine dro 9 (by kernel_rfl) rfl (ow_store (vs := [.int .i64 (((N.sizes (kids.take k) : Nat) : Int) + (((N.size (kids[k]'hlt)) : Nat) : Int))]) hs75 rfl rfl (by kernel_rfl) rfl rfl (.cons trivial .nil) rfl ?_)
            rintro w77 (hs78 : St w0 I (ids []) G1 [⟨b36, #[.int .u32 ((m : Nat) : Int), cv28, .int .i64 (((N.sizes (kids.take k) : Nat) : Int) + (((N.size (kids[k]'hlt)) : Nat) : Int))], 137⟩] w77)
            clear hs75
            replace hss := hs78.ss (I := G1) (GH.le.refl _) (SubL.sub .nil)
            refine ⟨hss, ?_⟩
            refine draw_done (by kernel_rfl) ?_
            refine hK56 _ _ ?_; (try clear hK56 K55)
            refine wl_begin ?_
            refine sq (r_addi rfl rfl rfl rfl (by omega)) rfl ?_
            refine sq (r_move rfl) rfl ?_
            refine wl_nil ?_
            have hsz2 : N.sizes (kids.take (k + 1)) = N.sizes (kids.take k) + N.size (kids[k]'hlt) := N.sizes_take hlt
            have hcell : Value.int .i64 ((((N.sizes (kids.take k) : Nat) : Int) + (((N.size (kids[k]'hlt)) : Nat) : Int))) = .int .i64 ((N.sizes (kids.take (k + 1)) : Nat) : Int) := by rw [hsz2]; rfl
            rw [hcell] at hs78
            exact ⟨_, _, rfl, ⟨_, (k + 1), rfl, updL_self (.cons rfl (.cons rfl (.cons rfl (.cons rfl (.cons rfl (.cons rfl (.cons rfl .nil))))))), hlt, (fun i hi hik => if h : i < k then hnn i hi h else by obtain rfl : i = k := (by omega); rw [← hun.isN]; assumption), hs78⟩, (by omega)⟩
      ·
        have p80 := of_decide_eq_false h53
        obtain rfl : k = kids.length := by omega
        rw [List.take_length] at hs48
        have hgood : ¬ (kids.length = 0 ∨ kids.length ≠ (bitsL m).length ∨ kids.any N.isN = true) := by
          rintro (h | h | h)
          · omega
          · omega
          · obtain ⟨x, hx, hx2⟩ := List.any_eq_true.1 h
            obtain ⟨i, hi, rfl⟩ := List.getElem_of_mem hx
            rw [hnn i hi hi] at hx2; cases hx2
        refine wp_exit ?_
        refine hK40 _ _ ?_; (try clear hK40 K39)
        refine wp_seq_k fun K81 hK82 => ?_
        refine wl_begin ?_
        refine sq (r_move rfl) rfl ?_
        refine sq (r_makeIf rfl (by kernel_rfl)) rfl ?_
        refine sq (r_assign rfl) rfl ?_
        refine wl_nil ?_
        refine hK82 _ _ ?_; (try clear hK82 K81)
        refine wp_ret ?_
        obtain ⟨G2, le83, hs84, hb85⟩ := hs48.freezeB; clear hs48
        replace hs84 : St w0 I (ids []) G2 [] w47 := hs84
        replace hb85 : G2 b36 = some (.cells #[.int .u32 ((m : Nat) : Int), cv28, .int .i64 ((N.sizes kids : Nat) : Int)] 137 (0, 0)) := hb85
        exact leave (X' := []) (L := []) hs84 rfl (res_one (v := .iface 133 (.pointer (some ⟨b36, 0, none⟩))) rfl (.tmp rfl rfl .nil)) (by rw [show N.mk m kids = .branch m kids from if_neg hgood]; exact ⟨b36, cv28, vs, rfl, hb85, (hc29.up le83), (hks.up (le33.trans le83)), hm⟩)
end Go.Proofs.YtlnlodfnplkckaaDoor
/- The contracts of graft.With, prune.pick. -/
namespace Go.Proofs.YtlnlodfnplkckaaDoor
set_option linter.unusedVariables false
set_option linter.unusedSimpArgs false
theorem NodesAt.snoc {I : GH} : ∀ {l : List N} {vs : List Value} {u : Value} {n : N}, NodesAt I vs l → NodeAt I u n → NodesAt I (vs ++ [u]) (l ++ [n])
  | [], vs, u, n, h, hn => by rw [show vs = [] from h]; exact ⟨u, [], rfl, hn, rfl⟩
  | _ :: _, _, u, n, ⟨v, us, h1, h2, h3⟩, hn => by subst h1; exact ⟨v, us ++ [u], rfl, h2, NodesAt.snoc h3 hn⟩
namespace N
/-- What prune.pick makes. -/
def pick (n : N) (m : Nat) : N := mk m ((bitsL m).map fun (i : Nat) => n.kid (i : Int))
end N
end Go.Proofs.YtlnlodfnplkckaaDoor
/- Tries as such: the way of a hash, what is put, what is deleted; what trees they are. Each theorem's conditions stand in it. -/
namespace Go.Proofs.YtlnlodfnplkckaaDoor
open T (Sm)
set_option linter.unusedVariables false
/-! ### Sets -/
theorem or_bit {m c j : Nat} (hc : c < 32) : (m ||| bitN (c : Int)).testBit j = (m.testBit j || decide (j = c)) := by
  rw [bitN_of hc, Nat.testBit_or, Nat.testBit_two_pow]
  congr 1
  by_cases e : c = j
  · subst e; simp
  · simp [e, Ne.symm e]
/-! ### Children -/
namespace N
theorem kid_lt (m : Nat) (kids : List N) (c : Int) : SizeOf.sizeOf (kid (.branch m kids) c) < SizeOf.sizeOf (N.branch m kids) := by
  have hn : SizeOf.sizeOf N.none < SizeOf.sizeOf (N.branch m kids) := by
    simp only [N.none.sizeOf_spec, N.branch.sizeOf_spec]
    have : 0 < SizeOf.sizeOf kids := by cases kids <;> simp <;> omega
    omega
  simp only [kid]
  split
  · exact hn
  · rw [List.getD_eq_getElem?_getD]
    by_cases h : cntB m c.toNat < kids.length
    · rw [List.getElem?_eq_getElem h]
      have := List.sizeOf_lt_of_mem (List.getElem_mem h)
      simp only [Option.getD_some, N.branch.sizeOf_spec]
      omega
    · rw [List.getElem?_eq_none (by omega)]
      exact hn
theorem kid_no {m : Nat} {kids : List N} {c : Nat} (h : ¬ m.testBit c = true) : kid (.branch m kids) (c : Int) = .none := by
  simp only [kid]
  rw [if_pos ((bitN_and m (c : Int)).2 fun h3 => h (by simpa using h3.2.2))]
theorem kid_yes {m : Nat} {kids : List N} {c : Nat} (hc : c < 32) (h : m.testBit c = true) : kid (.branch m kids) (c : Int) = kids.getD (cntB m c) .none := by
  simp only [kid]
  rw [if_neg (fun h3 => (bitN_and m (c : Int)).1 h3 ⟨by omega, by omega, by simpa using h⟩)]
  rfl
/-- The children of what Branch makes. -/
theorem kid_map {m : Nat} {F : Nat → N} {c : Nat} (hc : c < 32) : kid (.branch m ((bitsL m).map F)) (c : Int) = if m.testBit c = true then F c else .none := by
  split
  · rename_i h
    rw [kid_yes hc h, List.getD_eq_getElem?_getD, List.getElem?_map, bitsL_at hc h]
    rfl
  · rename_i h; exact kid_no h
theorem mk_yes {m : Nat} {kids : List N} (h0 : kids.length ≠ 0) (h1 : kids.length = (bitsL m).length) (h2 : ∀ n ∈ kids, n.isN = false) : mk m kids = .branch m kids := by
  unfold mk
  rw [if_neg]
  rintro (h | h | h)
  · exact h0 h
  · exact h h1
  · obtain ⟨n, h3, h4⟩ := List.any_eq_true.1 h
    rw [h2 n h3] at h4; cases h4
/-! ### How many pairs -/
def sumL (l : List Nat) : Nat := l.foldr (· + ·) 0
theorem sizes_sum (l : List N) : sizes l = sumL (l.map size) := by
  induction l with
  | nil => rfl
  | cons n l ih => simp only [sizes, List.map_cons, sumL, List.foldr_cons] at ih ⊢; omega
theorem sumL_append (l m : List Nat) : sumL (l ++ m) = sumL l + sumL m := by
  induction l with
  | nil => simp [sumL]
  | cons n l ih => simp only [List.cons_append, sumL, List.foldr_cons] at ih ⊢; omega
theorem sumL_filter {α : Type} (p : α → Bool) (F : α → Nat) (l : List α) : sumL ((l.filter p).map F) = sumL (l.map fun i => if p i = true then F i else 0) := by
  induction l with
  | nil => rfl
  | cons a l ih =>
    by_cases h : p a = true
    · rw [List.filter_cons_of_pos h]
      simp only [List.map_cons, sumL, List.foldr_cons, h, if_true] at ih ⊢; omega
    · rw [List.filter_cons_of_neg h]
      simp only [List.map_cons, sumL, List.foldr_cons, h] at ih ⊢
      simpa using ih
/-- What is summed over a set. -/
theorem sum_bits (m : Nat) (F : Nat → Nat) : sumL ((bitsL m).map F) = sumL ((List.range 32).map fun i => if m.testBit i = true then F i else 0) := sumL_filter _ _ _
theorem sum_one {F G : Nat → Nat} {c n : Nat} (hc : c < n) (h : ∀ i, i ≠ c → F i = G i) : sumL ((List.range n).map F) + G c = sumL ((List.range n).map G) + F c := by
  induction n with
  | zero => omega
  | succ n ih =>
    rw [List.range_succ, List.map_append, List.map_append, sumL_append, sumL_append]
    simp only [List.map_cons, List.map_nil, sumL, List.foldr_cons, List.foldr_nil, Nat.add_zero]
    simp only [sumL] at ih
    by_cases e : c = n
    · subst e
      have : (List.range c).map F = (List.range c).map G := by
        apply List.map_congr_left
        intro i hi
        have := List.mem_range.1 hi
        exact h i (by omega)
      rw [this]; omega
    · have := ih (by omega)
      have h2 := h n (by omega)
      omega
/-! ### What the functions do -/
def way (h : Nat) : N → Nat → N × Nat
  | .branch m kids, l => way h (kid (.branch m kids) ((chunkN h l : Nat) : Int)) (l + 1)
  | n, l => (n, l)
termination_by n => SizeOf.sizeOf n
decreasing_by exact kid_lt _ _ _
/-- What find.Get answers, and what it costs behind the branches. -/
def endGet (h : Nat) (k : Bs) : N → Option Bs
  | .leaf g k0 x0 => if g = h ∧ cmpB k k0 = 0 then some x0 else Option.none
  | .bucket g t => if g = h then t.get k else Option.none
  | _ => Option.none
def endV (h : Nat) (k : Bs) : N → Nat
  | .leaf _ _ _ => 1
  | .bucket g t => if g = h then t.path k else 0
  | _ => 0
def endC (h : Nat) (k : Bs) : N → Nat
  | .leaf g _ _ => if g = h then 1 else 0
  | .bucket g t => if g = h then t.path k else 0
  | _ => 0

/-! ### What tries they are: at a level, below a way -/
inductive WF : Nat → Nat → N → Prop where
  | none {l q : Nat} : WF l q .none
  | leaf {l q h : Nat} {k x : Bs} (hh : h < 2 ^ 64) (hq : h % 32 ^ l = q) (hk : k.length ≤ 1000000) (hx : x.length ≤ 1000000) : WF l q (.leaf h k x)
  | bucket {l q h : Nat} {t : T} (hh : h < 2 ^ 64) (hq : h % 32 ^ l = q) (hs : Sm t.toList) (h2 : 2 ≤ t.size) : WF l q (.bucket h t)
  | branch {l q m : Nat} {kids : List N} (hl : l < 13) (hm : m < 2 ^ 32) (hf : kids.length = (bitsL m).length) (h0 : kids.length ≠ 0) (hn : ∀ n ∈ kids, n.isN = false)
      (hk : ∀ i, i < 32 → m.testBit i = true → WF (l + 1) (q + i * 32 ^ l) (kid (.branch m kids) ((i : Nat) : Int))) : WF l q (.branch m kids)
theorem WF.fit {l q : Nat} {n : N} (h : WF l q n) : n.fit := by
  cases h with
  | branch hl hm hf h0 hn hk => exact hf
  | _ => trivial
theorem WF.map_lt {l q : Nat} {n : N} (h : WF l q n) : n.map.getD 0 < 2 ^ 32 := by
  cases h with
  | branch hl hm hf h0 hn hk => exact hm
  | _ => exact Nat.two_pow_pos 32
theorem WF.hash_lt {l q : Nat} {n : N} (h : WF l q n) : n.hash.getD 0 < 2 ^ 64 := by
  cases h with
  | leaf hh hq hk hx => exact hh
  | bucket hh hq hs h2 => exact hh
  | _ => exact Nat.two_pow_pos 64
theorem WF.kid {l q : Nat} {m : Nat} {kids : List N} (h : WF l q (.branch m kids)) {c : Nat} (hc : c < 32) : WF (l + 1) (q + c * 32 ^ l) (N.kid (.branch m kids) ((c : Nat) : Int)) := by
  cases h with
  | branch hl hm hf h0 hn hk =>
    by_cases hb : m.testBit c = true
    · exact hk c hc hb
    · rw [kid_no hb]; exact .none
theorem chunk_step {h l q : Nat} (hl : l < 13) (hq : h % 32 ^ l = q) : h % 32 ^ (l + 1) = q + chunkN h l * 32 ^ l := by
  have e : chunkN h l = h / 32 ^ l % 32 := by
    unfold chunkN
    rw [Nat.min_eq_left (by omega), Nat.pow_mul]
  rw [e, Nat.pow_succ, Nat.mod_mul, hq, Nat.mul_comm]
end N
end Go.Proofs.YtlnlodfnplkckaaDoor
/- The contracts of graft.fork, prune.collapse, prune.without, find.way. -/
namespace Go.Proofs.YtlnlodfnplkckaaDoor
set_option linter.unusedVariables false
set_option linter.unusedSimpArgs false
theorem N.mk_size (m : Nat) (kids : List N) : (N.mk m kids).size ≤ N.sizes kids := by
  unfold N.mk
  split
  · exact Nat.zero_le _
  · exact Nat.le_refl _
namespace N
end N
end Go.Proofs.YtlnlodfnplkckaaDoor
/- The contracts of find.way, find.Get. -/
namespace Go.Proofs.YtlnlodfnplkckaaDoor
set_option linter.unusedVariables false
set_option linter.unusedSimpArgs false
namespace N
theorem of_map {n : N} (h : n.map.isSome = true) : ∃ m kids, n = .branch m kids := by
  cases n with
  | branch m kids => exact ⟨m, kids, rfl⟩
  | _ => cases h
theorem way_end {n : N} (h : Nat) (l : Nat) (hm : n.map.isSome = false) : way h n l = (n, l) := by
  cases n with
  | branch m kids => cases hm
  | _ => rw [way]; intro _ _ e; cases e
theorem of_kind1 {n : N} (h : n.kind = 1) : ∃ g k x, n = .leaf g k x := by
  cases n with
  | leaf g k x => exact ⟨g, k, x, rfl⟩
  | _ => cases h
theorem way_wf {h : Nat} : ∀ (n : N) {l q : Nat} {e : N} {d : Nat}, WF l q n → way h n l = (e, d) → (∃ q', WF d q' e) ∧ e.map.isSome = false := by
  intro n l q e d hw hwd
  induction n, l using way.induct h generalizing q with
  | case1 l m kids ih =>
    rw [way] at hwd
    exact ih (hw.kid (chunkN_lt _ _)) hwd
  | case2 n l hne =>
    have hm : n.map.isSome = false := by
      cases n with
      | branch m kids => exact absurd rfl (hne m kids)
      | _ => rfl
    rw [way_end h l hm] at hwd
    cases hwd
    exact ⟨⟨_, hw⟩, hm⟩
theorem WF.pair_sm {l q : Nat} {n : N} (h : WF l q n) : n.pair.1.length ≤ 1000000 ∧ n.pair.2.length ≤ 1000000 := by
  cases h with
  | leaf hh hq hk hx => exact ⟨hk, hx⟩
  | _ => exact ⟨Nat.zero_le _, Nat.zero_le _⟩
theorem WF.level {l q m : Nat} {kids : List N} (h : WF l q (.branch m kids)) : l < 13 := by cases h; assumption
theorem WF.tree_sm {l q h : Nat} {t : T} (hw : WF l q (.bucket h t)) : T.Sm t.toList := by cases hw; assumption
theorem end_hit {h : Nat} {k : Bs} {e : N} (h1 : e.kind = 1) (h2 : e.hash.getD 0 = h) (h3 : cmpB k e.pair.1 = 0) : endGet h k e = some e.pair.2 ∧ endV h k e = 1 ∧ endC h k e = 1 := by
  obtain ⟨g, k0, x0, rfl⟩ := of_kind1 h1
  exact ⟨if_pos ⟨h2, h3⟩, rfl, if_pos h2⟩
theorem end_miss {h : Nat} {k : Bs} {e : N} (h1 : e.kind = 1) (h2 : e.hash.getD 0 = h) (h3 : ¬ cmpB k e.pair.1 = 0) : endGet h k e = Option.none ∧ endV h k e = 1 ∧ endC h k e = 1 := by
  obtain ⟨g, k0, x0, rfl⟩ := of_kind1 h1
  exact ⟨if_neg (fun h => h3 h.2), rfl, if_pos h2⟩
theorem end_else {h : Nat} {k : Bs} {e : N} (h1 : e.kind = 1) (h2 : ¬ e.hash.getD 0 = h) : endGet h k e = Option.none ∧ endV h k e = 1 ∧ endC h k e = 0 := by
  obtain ⟨g, k0, x0, rfl⟩ := of_kind1 h1
  exact ⟨if_neg (fun h => h2 h.1), rfl, if_neg h2⟩
theorem end_no {h : Nat} {k : Bs} {e : N} (h1 : ¬ e.kind = 1) (h2 : e.hash.isSome = false ∨ ¬ e.hash.getD 0 = h) : endGet h k e = Option.none ∧ endV h k e = 0 ∧ endC h k e = 0 := by
  cases e with
  | leaf g k0 x0 => exact absurd rfl h1
  | bucket g t =>
    rcases h2 with h2 | h2
    · cases h2
    · exact ⟨if_neg h2, if_neg h2, if_neg h2⟩
  | _ => exact ⟨rfl, rfl, rfl⟩
theorem end_bucket {h : Nat} {k : Bs} {t : T} : endGet h k (.bucket h t) = t.get k ∧ endV h k (.bucket h t) = t.path k ∧ endC h k (.bucket h t) = t.path k := ⟨if_pos rfl, if_pos rfl, if_pos rfl⟩
theorem of_hash {h : Nat} {e : N} (h1 : ¬ e.kind = 1) (h2 : e.hash.isSome = true) (h3 : e.hash.getD 0 = h) : ∃ t, e = .bucket h t := by
  cases e with
  | leaf g k0 x0 => exact absurd rfl h1
  | bucket g t => exact ⟨t, by rw [show g = h from h3]⟩
  | _ => cases h2
end N
set_option maxRecDepth 100000 in
theorem way_ok {I : GH} {m : Option Nat} {v c : Nat} {n : N} {nv : Value} {h : Nat} {e : N} {d : Nat} (hw : N.WF 0 0 n) (hn : NodeAt I nv n) (hh : h < 2 ^ 64) (hwd : N.way h n 0 = (e, d)) :
    Fn Tryd.prog 57 #[nv, .int .u64 ((h : Nat) : Int), mV m] I (mX m v c) (fun r J X => ∃ u, r = .tuple #[u, .int .i64 ((d : Nat) : Int)] ∧ NodeAt J u e ∧ I = J ∧ X = mX m (v + d) c) := by
  refine enter (args := [nv, .int .u64 ((h : Nat) : Int), (mV m)]) Tryd.func57 rfl rfl fun w0 hs0 => ?_
  replace hs0 : St w0 I (ids (mX m (v) (c))) I (mX m (v) (c) ++ []) w0 := by simpa using hs0
  refine wp_seq_k fun K1 hK2 => ?_
  refine wl_begin ?_
  refine sq (r_assign rfl) rfl ?_
  refine sq (r_assign rfl) rfl ?_
  refine wl_nil ?_
  refine hK2 _ _ ?_; (try clear hK2 K1)
  refine wp_seq_k fun K3 hK4 => ?_
  refine wl_begin ?_
  refine sq (r_assign rfl) rfl ?_
  refine wl_nil ?_
  refine hK4 _ _ ?_; (try clear hK4 K3)
  refine wp_block ?_
  refine lp (σ := Nat) (fun m6 f7 w8 => ∃ (g5 : Nat → Value) (nd : N) (dv : Value) (d0 : Nat), m6 = SizeOf.sizeOf nd ∧ f7 = updL g5 [(0, dv), (1, .int .u64 ((h : Nat) : Int)), (2, (mV m)), (8, .int .i64 ((d0 : Nat) : Int))] ∧ (NodeAt I dv nd) ∧ (∃ q, N.WF d0 q nd) ∧ (N.way h n 0 = N.way h nd d0) ∧ St w0 I (ids (mX m (v) (c))) I (mX m (v + d0) (c) ++ []) w8) (fun m => m) (SizeOf.sizeOf n) ⟨_, n, nv, 0, rfl, updL_self (.cons rfl (.cons rfl (.cons rfl (.cons rfl .nil)))), hn, ⟨_, hw⟩, rfl, hs0⟩ ?_
  clear hs0
  rintro m6 f7 w8 ⟨g5, nd, dv, d0, rfl, rfl, hnd, hwf, hway, hs9⟩
  refine wp_block ?_
  refine wp_seq_k fun K10 hK11 => ?_
  refine wp_seq_k fun K12 hK13 => ?_
  have hmlt : (N.map nd).getD 0 < 2 ^ 32 := (hwf.elim fun _ z => z.map_lt)
  refine wl_begin ?_
  refine sq (r_move rfl) rfl ?_
  refine sqo rfl fun K14 hK15 => ow_call (X := []) (L := (mX m (v + d0) (c) ++ [])) (lb := []) hs9 (map_ok hnd) (by kernel_rfl) rfl rfl rfl rfl rfl ?_
  rintro _ _ X1 w16 ⟨rfl, rfl⟩ - hs17 hid18
  obtain rfl : X1 = [] := List.map_eq_nil_iff.1 hid18
  replace hs17 : St w0 I (ids (mX m (v) (c))) I (mX m (v + d0) (c) ++ []) w16 := hs17
  clear hs9 hid18
  refine hK15 _ _ ?_; clear hK15 K14
  refine sq (r_move rfl) rfl ?_
  refine sq (r_extract rfl rfl rfl) rfl ?_
  refine sq (r_extract rfl rfl rfl) rfl ?_
  refine sq (r_assign rfl) rfl ?_
  refine sq (r_assign rfl) rfl ?_
  refine wl_nil ?_
  refine hK13 _ _ ?_; (try clear hK13 K12)
  refine wp_seq_k fun K19 hK20 => ?_
  refine wl_begin ?_
  refine sq (r_move rfl) rfl ?_
  refine sq (r_not rfl rfl) rfl ?_
  refine wl_nil ?_
  refine hK20 _ _ ?_; (try clear hK20 K19)
  refine condS rfl rfl (fun h21 => ?_) (fun h21 => ?_)
  ·
    have h22 : ((N.map nd).isSome) = false := by simpa using h21
    have hno : nd.map.isSome = false := by simpa using h21
    refine wp_seq_k fun K23 hK24 => ?_
    refine wl_begin ?_
    refine sq (r_move rfl) rfl ?_
    refine sq (r_move rfl) rfl ?_
    refine sq (r_assign rfl) rfl ?_
    refine sq (r_assign rfl) rfl ?_
    refine wl_nil ?_
    refine hK24 _ _ ?_; (try clear hK24 K23)
    refine wp_ret ?_
    exact leave (X' := mX m (v + d0) (c)) (L := []) hs17 (mX_ids _ _ _ _ _) (res_many (vs := [dv, .int .i64 ((d0 : Nat) : Int)]) rfl (.tmp rfl rfl (.tmp rfl rfl .nil)) rfl) (by have ew := hway.symm.trans hwd; rw [N.way_end h d0 hno] at ew; cases ew; exact ⟨_, rfl, hnd, rfl, rfl⟩)
  ·
    have h25 : ((N.map nd).isSome) = true := by simpa using h21
    have hsome : nd.map.isSome = true := by simpa using h21
    obtain ⟨bm, bk, hbe⟩ := N.of_map hsome
    have hd12 : d0 < 13 := by obtain ⟨q, hq⟩ := hwf; rw [hbe] at hq; exact hq.level
    refine wp_skip ?_
    refine hK11 _ _ ?_; (try clear hK11 K10)
    refine wp_seq_k fun K26 hK27 => ?_
    refine wl_begin ?_
    refine sq (r_move rfl) rfl ?_
    refine sqo rfl fun K28 hK29 => ow_call (X := mX m (v + d0) (c)) (L := []) (lb := []) hs17 (visit_ok) (by kernel_rfl) rfl rfl rfl rfl rfl ?_
    rintro _ _ X1 w30 ⟨rfl, rfl⟩ - hs31 hid32
    replace hs31 : St w0 I (ids (mX m (v) (c))) I (mX m (v + d0 + 1) (c) ++ []) w30 := hs31
    clear hs17 hid32
    refine hK29 _ _ ?_; clear hK29 K28
    refine wl_nil ?_
    refine hK27 _ _ ?_; (try clear hK27 K26)
    refine wp_seq_k fun K33 hK34 => ?_
    refine nrm (vals := [(0, dv), (1, .int .u64 ((h : Nat) : Int)), (2, (mV m)), (8, .int .i64 ((d0 : Nat) : Int)), (10, .bool ((N.map nd).isSome)), (17, .bool (!((N.map nd).isSome)))]) (.cons rfl (.cons rfl (.cons rfl (.cons rfl (.cons rfl (.cons rfl .nil)))))) fun g35 => ?_
    refine wl_begin ?_
    refine sq (r_move rfl) rfl ?_
    refine sq (r_move rfl) rfl ?_
    refine sq (r_move rfl) rfl ?_
    refine sqo rfl fun K36 hK37 => ow_call (X := []) (L := (mX m (v + d0 + 1) (c) ++ [])) (lb := []) hs31 (chunk_ok (h := h) (l := d0) hh) (by kernel_rfl) rfl rfl rfl rfl rfl ?_
    rintro _ _ X1 w38 ⟨rfl, rfl⟩ - hs39 hid40
    obtain rfl : X1 = [] := List.map_eq_nil_iff.1 hid40
    replace hs39 : St w0 I (ids (mX m (v) (c))) I (mX m (v + d0 + 1) (c) ++ []) w38 := hs39
    clear hs31 hid40
    refine hK37 _ _ ?_; clear hK37 K36
    refine sqo rfl fun K41 hK42 => ow_call (X := []) (L := (mX m (v + d0 + 1) (c) ++ [])) (lb := []) hs39 (kid_ok hnd (hwf.elim fun _ z => z.fit) (((chunkN h d0) : Nat) : Int)) (by kernel_rfl) rfl rfl rfl rfl rfl ?_
    rintro _ _ X1 w45 ⟨u43, rfl, hn44, rfl⟩ - hs46 hid47
    obtain rfl : X1 = [] := List.map_eq_nil_iff.1 hid47
    replace hs46 : St w0 I (ids (mX m (v) (c))) I (mX m (v + d0 + 1) (c) ++ []) w45 := hs46
    clear hs39 hid47
    refine hK42 _ _ ?_; clear hK42 K41
    refine sq (r_move rfl) rfl ?_
    refine sq (r_extract rfl rfl rfl) rfl ?_
    refine sq (r_extract rfl rfl rfl) rfl ?_
    refine sq (r_assign rfl) rfl ?_
    refine wl_nil ?_
    refine hK34 _ _ ?_; (try clear hK34 K33)
    refine wl_begin ?_
    refine sq (r_move rfl) rfl ?_
    refine sq (r_addi rfl rfl rfl rfl (by omega)) rfl ?_
    refine sq (r_assign rfl) rfl ?_
    refine wl_nil ?_
    exact ⟨_, _, rfl, ⟨_, (N.kid nd (((chunkN h d0) : Nat) : Int)), u43, (d0 + 1), rfl, updL_self (.cons rfl (.cons rfl (.cons rfl (.cons rfl .nil)))), hn44, (by obtain ⟨q, hq⟩ := hwf; rw [hbe] at hq ⊢; exact ⟨_, hq.kid (chunkN_lt _ _)⟩), (by rw [hway, hbe, N.way]), hs46⟩, (by rw [hbe]; exact N.kid_lt _ _ _)⟩
set_option maxRecDepth 100000 in
theorem find_get_ok {I : GH} {m : Option Nat} {v c : Nat} {n : N} {nv kv : Value} {h : Nat} {k : Bs} {e : N} {d : Nat} (hw : N.WF 0 0 n) (hn : NodeAt I nv n) (hh : h < 2 ^ 64) (hk : BytesAt I kv k) (hwd : N.way h n 0 = (e, d)) :
    Fn Tryd.prog 27 #[nv, .int .u64 ((h : Nat) : Int), kv, mV m] I (mX m v c) (fun r J X => ∃ xv, r = .tuple #[xv, .bool (N.endGet h k e).isSome] ∧ BytesAt J xv ((N.endGet h k e).getD []) ∧ X = mX m (v + d + N.endV h k e) (c + N.endC h k e)) := by
  have hpsm : (N.pair e).1.length ≤ 1000000 ∧ (N.pair e).2.length ≤ 1000000 := by
    obtain ⟨⟨q, hq⟩, _⟩ := N.way_wf n hw hwd; exact hq.pair_sm
  have hhe : (N.hash e).getD 0 < 2 ^ 64 := by
    obtain ⟨⟨q, hq⟩, _⟩ := N.way_wf n hw hwd; exact hq.hash_lt
  refine enter (args := [nv, .int .u64 ((h : Nat) : Int), kv, (mV m)]) Tryd.func27 rfl rfl fun w0 hs0 => ?_
  replace hs0 : St w0 I (ids (mX m (v) (c))) I (mX m (v) (c) ++ []) w0 := by simpa using hs0
  refine wp_seq_k fun K1 hK2 => ?_
  refine wl_begin ?_
  refine sq (r_assign rfl) rfl ?_
  refine sq (r_assign rfl) rfl ?_
  refine wl_nil ?_
  refine hK2 _ _ ?_; (try clear hK2 K1)
  refine wp_seq_k fun K3 hK4 => ?_
  refine wl_begin ?_
  refine sq (r_move rfl) rfl ?_
  refine sq (r_move rfl) rfl ?_
  refine sq (r_move rfl) rfl ?_
  refine sqo rfl fun K5 hK6 => ow_call (X := mX m (v) (c)) (L := []) (lb := []) hs0 (way_ok hw hn hh hwd) (by kernel_rfl) rfl rfl rfl rfl rfl ?_
  rintro _ _ X1 w9 ⟨u7, rfl, hn8, rfl, rfl⟩ - hs10 hid11
  replace hs10 : St w0 I (ids (mX m (v) (c))) I (mX m (v + d) (c) ++ []) w9 := hs10
  clear hs0 hid11
  refine hK6 _ _ ?_; clear hK6 K5
  refine sq (r_move rfl) rfl ?_
  refine sq (r_extract rfl rfl rfl) rfl ?_
  refine sq (r_extract rfl rfl rfl) rfl ?_
  refine sq (r_assign rfl) rfl ?_
  refine wl_nil ?_
  refine hK4 _ _ ?_; (try clear hK4 K3)
  refine wp_seq_k fun K12 hK13 => ?_
  refine wl_begin ?_
  refine sq (r_move rfl) rfl ?_
  refine sqo rfl fun K14 hK15 => ow_call (X := []) (L := (mX m (v + d) (c) ++ [])) (lb := []) hs10 (hash_ok hn8) (by kernel_rfl) rfl rfl rfl rfl rfl ?_
  rintro _ _ X1 w16 ⟨rfl, rfl⟩ - hs17 hid18
  obtain rfl : X1 = [] := List.map_eq_nil_iff.1 hid18
  replace hs17 : St w0 I (ids (mX m (v) (c))) I (mX m (v + d) (c) ++ []) w16 := hs17
  clear hs10 hid18
  refine hK15 _ _ ?_; clear hK15 K14
  refine sq (r_move rfl) rfl ?_
  refine sq (r_extract rfl rfl rfl) rfl ?_
  refine sq (r_extract rfl rfl rfl) rfl ?_
  refine sq (r_assign rfl) rfl ?_
  refine sq (r_assign rfl) rfl ?_
  refine wl_nil ?_
  refine hK13 _ _ ?_; (try clear hK13 K12)
  refine wp_seq_k fun K19 hK20 => ?_
  refine wp_seq_k fun K21 hK22 => ?_
  refine nrm (vals := [(0, u7), (1, .int .u64 ((h : Nat) : Int)), (2, kv), (3, (mV m)), (8, .slice none 0 0), (9, .bool false), (10, .int .u64 (((N.hash e).getD 0 : Nat) : Int)), (11, .bool ((N.hash e).isSome))]) (.cons rfl (.cons rfl (.cons rfl (.cons rfl (.cons rfl (.cons rfl (.cons rfl (.cons rfl .nil)))))))) fun g23 => ?_
  refine wl_begin ?_
  refine sq (r_move rfl) rfl ?_
  refine sqo rfl fun K24 hK25 => ow_call (X := []) (L := (mX m (v + d) (c) ++ [])) (lb := []) hs17 (pair_of_ok hn8 hpsm) (by kernel_rfl) rfl rfl rfl rfl rfl ?_
  rintro _ G1 X1 w30 ⟨kv26, xv27, rfl, hk28, hx29⟩ le33 hs31 hid32
  obtain rfl : X1 = [] := List.map_eq_nil_iff.1 hid32
  replace hs31 : St w0 I (ids (mX m (v) (c))) G1 (mX m (v + d) (c) ++ []) w30 := hs31
  clear hs17 hid32
  refine hK25 _ _ ?_; clear hK25 K24
  refine sq (r_move rfl) rfl ?_
  refine sq (r_extract rfl rfl rfl) rfl ?_
  refine sq (r_extract rfl rfl rfl) rfl ?_
  refine sqo rfl fun K34 hK35 => ow_newbox (mk := fun b => .pointer (some ⟨b, 0, none⟩)) hs31 (r_alloc (cs := [.slice none 0 0, .slice none 0 0]) (by kernel_rfl)) rfl ?_
  rintro b36 w37 (hs38 : St w0 I (ids (mX m (v) (c))) G1 (⟨b36, #[.slice none 0 0, .slice none 0 0], 56⟩ :: (mX m (v + d) (c) ++ [])) w37)
  clear hs31
  refine hK35 _ _ ?_; clear hK35 K34
  refine sqo rfl fun K39 hK40 => ow_store (vs := [kv26, xv27]) hs38 rfl rfl (by kernel_rfl) rfl rfl (.cons (hk28).one (.cons (hx29).one .nil)) rfl ?_
  rintro w41 (hs42 : St w0 I (ids (mX m (v) (c))) G1 (⟨b36, #[kv26, xv27], 56⟩ :: (mX m (v + d) (c) ++ [])) w41)
  clear hs38
  refine hK40 _ _ ?_; clear hK40 K39
  refine sq (r_assign rfl) rfl ?_
  refine wl_nil ?_
  refine hK22 _ _ ?_; (try clear hK22 K21)
  refine wp_seq_k fun K43 hK44 => ?_
  refine wl_begin ?_
  refine sq (r_move rfl) rfl ?_
  refine wl_nil ?_
  refine hK44 _ _ ?_; (try clear hK44 K43)
  refine condS rfl rfl (fun h45 => ?_) (fun h45 => ?_)
  ·
    have p46 := of_decide_eq_true h45
    refine wp_seq_k fun K47 hK48 => ?_
    refine wl_begin ?_
    refine sq (r_move rfl) rfl ?_
    have hs51 : St w0 I (ids (mX m (v) (c))) G1 (mX m (v + d) (c) ++ ([⟨b36, #[kv26, xv27], 56⟩] : List Bx)) w41 := hs42.perm (List.Perm.trans ((List.Perm.refl _).cons _) (List.perm_middle (l₁ := (mX m (v + d) (c) : List Bx)) (a := (⟨b36, #[kv26, xv27], 56⟩ : Bx)) (l₂ := [])).symm); clear hs42
    refine sqo rfl fun K49 hK50 => ow_call (X := mX m (v + d) (c)) (L := [⟨b36, #[kv26, xv27], 56⟩]) (lb := []) hs51 (visit_ok) (by kernel_rfl) rfl rfl rfl rfl rfl ?_
    rintro _ _ X1 w52 ⟨rfl, rfl⟩ - hs53 hid54
    replace hs53 : St w0 I (ids (mX m (v) (c))) G1 (mX m (v + d + 1) (c) ++ ([⟨b36, #[kv26, xv27], 56⟩] : List Bx)) w52 := hs53
    clear hs51 hid54
    refine hK50 _ _ ?_; clear hK50 K49
    refine wl_nil ?_
    refine hK48 _ _ ?_; (try clear hK48 K47)
    refine wp_seq_k fun K55 hK56 => ?_
    refine wp_seq_k fun K57 hK58 => ?_
    refine wl_begin ?_
    refine sq (r_move rfl) rfl ?_
    refine sq (r_move rfl) rfl ?_
    refine sq (r_eqN (a := (N.hash e).getD 0) (b := h) rfl rfl rfl rfl) rfl ?_
    refine sq (r_move rfl) rfl ?_
    refine bsplit (decide ((N.hash e).getD 0 = h)) (fun h59 => ?_) (fun h59 => ?_)
    ·
      have p60 := of_decide_eq_true h59
      refine sqG (wantedT rfl rfl rfl (congrArg Value.bool h59)) (r_move rfl) rfl ?_
      refine sqG (wantedT rfl rfl rfl (congrArg Value.bool h59)) (r_move rfl) rfl ?_
      refine sqG (wantedT rfl rfl rfl (congrArg Value.bool h59)) (r_fieldAddr (off := 0) rfl (by kernel_rfl) rfl) rfl ?_
      refine sqG (wantedT rfl rfl rfl (congrArg Value.bool h59)) (r_load rfl (by kernel_rfl) rfl (hs53.box (List.mem_append_right _ (.head _))) rfl) rfl ?_
      refine sqoG (wantedT rfl rfl rfl (congrArg Value.bool h59)) fun K61 hK62 => ow_call (X := mX m (v + d + 1) (c)) (L := [⟨b36, #[kv26, xv27], 56⟩]) (lb := []) hs53 (mcmp_ok (hk.up le33) hk28) (by kernel_rfl) rfl rfl rfl rfl rfl ?_
      rintro _ _ X1 w63 ⟨rfl, rfl, rfl⟩ - hs64 hid65
      replace hs64 : St w0 I (ids (mX m (v) (c))) G1 (mX m (v + d + 1) (c + 1) ++ ([⟨b36, #[kv26, xv27], 56⟩] : List Bx)) w63 := hs64
      clear hs53 hid65
      refine hK62 _ _ ?_; clear hK62 K61
      refine sqG (wantedT rfl rfl rfl (congrArg Value.bool h59)) (r_eqi rfl rfl rfl rfl) rfl ?_
      refine sq (r_pick rfl rfl rfl (congrArg Value.bool h59)) rfl ?_
      refine wl_nil ?_
      refine hK58 _ _ ?_; (try clear hK58 K57)
      refine condS rfl rfl (fun h66 => ?_) (fun h66 => ?_)
      ·
        have p67 := of_decide_eq_true h66
        refine wp_seq_k fun K68 hK69 => ?_
        refine nrm (vals := [(0, u7), (1, .int .u64 ((h : Nat) : Int)), (2, kv), (3, (mV m)), (8, .slice none 0 0), (9, .bool false), (10, .int .u64 (((N.hash e).getD 0 : Nat) : Int)), (11, .bool ((N.hash e).isSome)), (12, .pointer (some ⟨b36, 0, none⟩)), (13, .bool (decide (N.kind e = 1))), (33, .bool (decide (N.kind e = 1))), (46, .bool (decide ((cmpB k ((N.pair e).1)) = 0)))]) (.cons rfl (.cons rfl (.cons rfl (.cons rfl (.cons rfl (.cons rfl (.cons rfl (.cons rfl (.cons rfl (.cons rfl (.cons rfl (.cons rfl .nil)))))))))))) fun g70 => ?_
        refine wl_begin ?_
        refine sq (r_fieldAddr (off := 1) rfl (by kernel_rfl) rfl) rfl ?_
        refine sq (r_load rfl (by kernel_rfl) rfl (hs64.box (List.mem_append_right _ (.head _))) rfl) rfl ?_
        refine sq (r_assign rfl) rfl ?_
        refine sq (r_assign rfl) rfl ?_
        refine wl_nil ?_
        refine hK69 _ _ ?_; (try clear hK69 K68)
        refine wp_ret ?_
        exact leave (X' := mX m (v + d + 1) (c + 1)) (L := [⟨b36, #[kv26, xv27], 56⟩]) hs64 (mX_ids _ _ _ _ _) (res_many (vs := [xv27, .bool true]) rfl (.tmp rfl rfl (.tmp rfl rfl .nil)) rfl) (by obtain ⟨q1, q2, q3⟩ := N.end_hit (h := h) (k := k) (e := e) (by assumption) (by assumption) (by assumption); exact ⟨_, by rw [q1]; rfl, by rw [q1]; exact hx29, mX_congr (by rw [q2]) (by rw [q3])⟩)
      ·
        have p71 := of_decide_eq_false h66
        refine wp_skip ?_
        refine hK56 _ _ ?_; (try clear hK56 K55)
        refine wp_seq_k fun K72 hK73 => ?_
        refine nrm (vals := [(0, u7), (1, .int .u64 ((h : Nat) : Int)), (2, kv), (3, (mV m)), (8, .slice none 0 0), (9, .bool false), (10, .int .u64 (((N.hash e).getD 0 : Nat) : Int)), (11, .bool ((N.hash e).isSome)), (12, .pointer (some ⟨b36, 0, none⟩)), (13, .bool (decide (N.kind e = 1))), (33, .bool (decide (N.kind e = 1))), (46, .bool (decide ((cmpB k ((N.pair e).1)) = 0)))]) (.cons rfl (.cons rfl (.cons rfl (.cons rfl (.cons rfl (.cons rfl (.cons rfl (.cons rfl (.cons rfl (.cons rfl (.cons rfl (.cons rfl .nil)))))))))))) fun g74 => ?_
        refine wl_begin ?_
        refine sq (r_assign rfl) rfl ?_
        refine sq (r_assign rfl) rfl ?_
        refine wl_nil ?_
        refine hK73 _ _ ?_; (try clear hK73 K72)
        refine wp_ret ?_
        exact leave (X' := mX m (v + d + 1) (c + 1)) (L := [⟨b36, #[kv26, xv27], 56⟩]) hs64 (mX_ids _ _ _ _ _) (res_many (vs := [.slice none 0 0, .bool false]) rfl (.tmp rfl rfl (.tmp rfl rfl .nil)) rfl) (by obtain ⟨q1, q2, q3⟩ := N.end_miss (h := h) (k := k) (e := e) (by assumption) (by assumption) (by assumption); exact ⟨_, by rw [q1]; rfl, by rw [q1]; exact BytesAt.nil _, mX_congr (by rw [q2]) (by rw [q3])⟩)
    ·
      have p75 := of_decide_eq_false h59
      refine sqN (wantedF rfl rfl rfl (congrArg Value.bool h59)) rfl ?_
      refine sqN (wantedF rfl rfl rfl (congrArg Value.bool h59)) rfl ?_
      refine sqN (wantedF rfl rfl rfl (congrArg Value.bool h59)) rfl ?_
      refine sqN (wantedF rfl rfl rfl (congrArg Value.bool h59)) rfl ?_
      refine sqN (wantedF rfl rfl rfl (congrArg Value.bool h59)) rfl ?_
      refine sqN (wantedF rfl rfl rfl (congrArg Value.bool h59)) rfl ?_
      refine sq (r_pick rfl rfl rfl (congrArg Value.bool h59)) rfl ?_
      refine wl_nil ?_
      refine hK58 _ _ ?_; (try clear hK58 K57)
      refine condF rfl rfl ?_
      refine wp_skip ?_
      refine hK56 _ _ ?_; (try clear hK56 K55)
      refine wp_seq_k fun K76 hK77 => ?_
      refine nrm (vals := [(0, u7), (1, .int .u64 ((h : Nat) : Int)), (2, kv), (3, (mV m)), (8, .slice none 0 0), (9, .bool false), (10, .int .u64 (((N.hash e).getD 0 : Nat) : Int)), (11, .bool ((N.hash e).isSome)), (12, .pointer (some ⟨b36, 0, none⟩)), (13, .bool (decide (N.kind e = 1))), (33, .bool (decide (N.kind e = 1))), (46, .bool false)]) (.cons rfl (.cons rfl (.cons rfl (.cons rfl (.cons rfl (.cons rfl (.cons rfl (.cons rfl (.cons rfl (.cons rfl (.cons rfl (.cons rfl .nil)))))))))))) fun g78 => ?_
      refine wl_begin ?_
      refine sq (r_assign rfl) rfl ?_
      refine sq (r_assign rfl) rfl ?_
      refine wl_nil ?_
      refine hK77 _ _ ?_; (try clear hK77 K76)
      refine wp_ret ?_
      exact leave (X' := mX m (v + d + 1) (c)) (L := [⟨b36, #[kv26, xv27], 56⟩]) hs53 (mX_ids _ _ _ _ _) (res_many (vs := [.slice none 0 0, .bool false]) rfl (.tmp rfl rfl (.tmp rfl rfl .nil)) rfl) (by obtain ⟨q1, q2, q3⟩ := N.end_else (h := h) (k := k) (e := e) (by assumption) (by assumption); exact ⟨_, by rw [q1]; rfl, by rw [q1]; exact BytesAt.nil _, mX_congr (by rw [q2]) (by rw [q3]; rfl)⟩)
  ·
    have p79 := of_decide_eq_false h45
    refine wp_skip ?_
    refine hK20 _ _ ?_; (try clear hK20 K19)
    refine wp_seq_k fun K80 hK81 => ?_
    refine wp_seq_k fun K82 hK83 => ?_
    refine wl_begin ?_
    refine sq (r_move rfl) rfl ?_
    refine sq (r_not rfl rfl) rfl ?_
    refine sq (r_move rfl) rfl ?_
    refine bsplit (!((N.hash e).isSome)) (fun h84 => ?_) (fun h84 => ?_)
    ·
      have h85 : ((N.hash e).isSome) = false := by simpa using h84
      refine sqN (wantedF rfl rfl rfl (congrArg Value.bool h84)) rfl ?_
      refine sqN (wantedF rfl rfl rfl (congrArg Value.bool h84)) rfl ?_
      refine sqN (wantedF rfl rfl rfl (congrArg Value.bool h84)) rfl ?_
      refine sq (r_pick rfl rfl rfl (congrArg Value.bool h84)) rfl ?_
      refine wl_nil ?_
      refine hK83 _ _ ?_; (try clear hK83 K82)
      refine condT rfl rfl ?_
      refine wp_seq_k fun K86 hK87 => ?_
      refine nrm (vals := [(0, u7), (1, .int .u64 ((h : Nat) : Int)), (2, kv), (3, (mV m)), (8, .slice none 0 0), (9, .bool false), (10, .int .u64 (((N.hash e).getD 0 : Nat) : Int)), (11, .bool ((N.hash e).isSome)), (12, .pointer (some ⟨b36, 0, none⟩)), (13, .bool (decide (N.kind e = 1))), (33, .bool (decide (N.kind e = 1))), (55, .bool true)]) (.cons rfl (.cons rfl (.cons rfl (.cons rfl (.cons rfl (.cons rfl (.cons rfl (.cons rfl (.cons rfl (.cons rfl (.cons rfl (.cons rfl .nil)))))))))))) fun g88 => ?_
      refine wl_begin ?_
      refine sq (r_assign rfl) rfl ?_
      refine sq (r_assign rfl) rfl ?_
      refine wl_nil ?_
      refine hK87 _ _ ?_; (try clear hK87 K86)
      refine wp_ret ?_
      have hs89 : St w0 I (ids (mX m (v) (c))) G1 (mX m (v + d) (c) ++ ([⟨b36, #[kv26, xv27], 56⟩] : List Bx)) w41 := hs42.perm (List.Perm.trans ((List.Perm.refl _).cons _) (List.perm_middle (l₁ := (mX m (v + d) (c) : List Bx)) (a := (⟨b36, #[kv26, xv27], 56⟩ : Bx)) (l₂ := [])).symm); clear hs42
      exact leave (X' := mX m (v + d) (c)) (L := [⟨b36, #[kv26, xv27], 56⟩]) hs89 (mX_ids _ _ _ _ _) (res_many (vs := [.slice none 0 0, .bool false]) rfl (.tmp rfl rfl (.tmp rfl rfl .nil)) rfl) (by obtain ⟨q1, q2, q3⟩ := N.end_no (h := h) (k := k) (e := e) (by assumption) (.inl (by assumption)); exact ⟨_, by rw [q1]; rfl, by rw [q1]; exact BytesAt.nil _, mX_congr (by rw [q2]; rfl) (by rw [q3]; rfl)⟩)
    ·
      have h90 : ((N.hash e).isSome) = true := by simpa using h84
      refine sqG (wantedT rfl rfl rfl (congrArg Value.bool h84)) (r_move rfl) rfl ?_
      refine sqG (wantedT rfl rfl rfl (congrArg Value.bool h84)) (r_move rfl) rfl ?_
      refine sqG (wantedT rfl rfl rfl (congrArg Value.bool h84)) (r_neN (a := (N.hash e).getD 0) (b := h) rfl rfl rfl rfl) rfl ?_
      refine sq (r_pick rfl rfl rfl (congrArg Value.bool h84)) rfl ?_
      refine wl_nil ?_
      refine hK83 _ _ ?_; (try clear hK83 K82)
      refine condS rfl rfl (fun h91 => ?_) (fun h91 => ?_)
      ·
        have h92 : (decide ((N.hash e).getD 0 = h)) = false := by simpa using h91
        have p93 := of_decide_eq_false h92
        refine wp_seq_k fun K94 hK95 => ?_
        refine nrm (vals := [(0, u7), (1, .int .u64 ((h : Nat) : Int)), (2, kv), (3, (mV m)), (8, .slice none 0 0), (9, .bool false), (10, .int .u64 (((N.hash e).getD 0 : Nat) : Int)), (11, .bool ((N.hash e).isSome)), (12, .pointer (some ⟨b36, 0, none⟩)), (13, .bool (decide (N.kind e = 1))), (33, .bool (decide (N.kind e = 1))), (55, .bool (!(decide ((N.hash e).getD 0 = h))))]) (.cons rfl (.cons rfl (.cons rfl (.cons rfl (.cons rfl (.cons rfl (.cons rfl (.cons rfl (.cons rfl (.cons rfl (.cons rfl (.cons rfl .nil)))))))))))) fun g96 => ?_
        refine wl_begin ?_
        refine sq (r_assign rfl) rfl ?_
        refine sq (r_assign rfl) rfl ?_
        refine wl_nil ?_
        refine hK95 _ _ ?_; (try clear hK95 K94)
        refine wp_ret ?_
        have hs97 : St w0 I (ids (mX m (v) (c))) G1 (mX m (v + d) (c) ++ ([⟨b36, #[kv26, xv27], 56⟩] : List Bx)) w41 := hs42.perm (List.Perm.trans ((List.Perm.refl _).cons _) (List.perm_middle (l₁ := (mX m (v + d) (c) : List Bx)) (a := (⟨b36, #[kv26, xv27], 56⟩ : Bx)) (l₂ := [])).symm); clear hs42
        exact leave (X' := mX m (v + d) (c)) (L := [⟨b36, #[kv26, xv27], 56⟩]) hs97 (mX_ids _ _ _ _ _) (res_many (vs := [.slice none 0 0, .bool false]) rfl (.tmp rfl rfl (.tmp rfl rfl .nil)) rfl) (by obtain ⟨q1, q2, q3⟩ := N.end_no (h := h) (k := k) (e := e) (by assumption) (.inr (by assumption)); exact ⟨_, by rw [q1]; rfl, by rw [q1]; exact BytesAt.nil _, mX_congr (by rw [q2]; rfl) (by rw [q3]; rfl)⟩)
      ·
        have h98 : (decide ((N.hash e).getD 0 = h)) = true := by simpa using h91
        have p99 := of_decide_eq_true h98
        refine wp_skip ?_
        refine hK81 _ _ ?_; (try clear hK81 K80)
        refine wp_seq_k fun K100 hK101 => ?_
        refine nrm (vals := [(0, u7), (1, .int .u64 ((h : Nat) : Int)), (2, kv), (3, (mV m)), (8, .slice none 0 0), (9, .bool false), (10, .int .u64 (((N.hash e).getD 0 : Nat) : Int)), (11, .bool ((N.hash e).isSome)), (12, .pointer (some ⟨b36, 0, none⟩)), (13, .bool (decide (N.kind e = 1))), (33, .bool (decide (N.kind e = 1))), (55, .bool (!(decide ((N.hash e).getD 0 = h))))]) (.cons rfl (.cons rfl (.cons rfl (.cons rfl (.cons rfl (.cons rfl (.cons rfl (.cons rfl (.cons rfl (.cons rfl (.cons rfl (.cons rfl .nil)))))))))))) fun g102 => ?_
        have hhe2 : (N.hash e).isSome = true := by first | assumption | (simpa using (by assumption : (!(N.hash e).isSome) = false))
        have hhe3 : (N.hash e).getD 0 = h := by assumption
        obtain ⟨t, hbe⟩ := N.of_hash (by assumption) hhe2 hhe3
        have hsm : T.Sm t.toList := by obtain ⟨⟨q, hq⟩, _⟩ := N.way_wf n hw hwd; rw [hbe] at hq; exact hq.tree_sm
        refine wl_begin ?_
        refine sq (r_move rfl) rfl ?_
        refine sqo rfl fun K103 hK104 => ow_call (X := []) (L := (⟨b36, #[kv26, xv27], 56⟩ :: (mX m (v + d) (c) ++ []))) (lb := []) hs42 (tree_ok (hbe ▸ (hn8.up le33))) (by kernel_rfl) rfl rfl rfl rfl rfl ?_
        rintro _ _ X1 w107 ⟨p105, rfl, rfl, ht106⟩ - hs108 hid109
        obtain rfl : X1 = [] := List.map_eq_nil_iff.1 hid109
        replace hs108 : St w0 I (ids (mX m (v) (c))) G1 (⟨b36, #[kv26, xv27], 56⟩ :: (mX m (v + d) (c) ++ [])) w107 := hs108
        clear hs42 hid109
        refine hK104 _ _ ?_; clear hK104 K103
        refine sq (r_move rfl) rfl ?_
        refine sq (r_extract rfl rfl rfl) rfl ?_
        refine sq (r_extract rfl rfl rfl) rfl ?_
        refine sq (r_assign rfl) rfl ?_
        refine sq (r_assign rfl) rfl ?_
        refine wl_nil ?_
        refine hK101 _ _ ?_; (try clear hK101 K100)
        refine wp_seq_k fun K110 hK111 => ?_
        refine wl_begin ?_
        refine sq (r_move rfl) rfl ?_
        refine sq (r_move rfl) rfl ?_
        refine sq (r_move rfl) rfl ?_
        have hs116 : St w0 I (ids (mX m (v) (c))) G1 (mX m (v + d) (c) ++ ([⟨b36, #[kv26, xv27], 56⟩] : List Bx)) w107 := hs108.perm (List.Perm.trans ((List.Perm.refl _).cons _) (List.perm_middle (l₁ := (mX m (v + d) (c) : List Bx)) (a := (⟨b36, #[kv26, xv27], 56⟩ : Bx)) (l₂ := [])).symm); clear hs108
        refine sqo rfl fun K112 hK113 => ow_call (X := mX m (v + d) (c)) (L := [⟨b36, #[kv26, xv27], 56⟩]) (lb := []) hs116 (get_ok ht106 (hk.up le33) hsm) (by kernel_rfl) rfl rfl rfl rfl rfl ?_
        rintro _ G2 X1 w117 ⟨xv114, rfl, hx115, rfl⟩ le120 hs118 hid119
        replace hs118 : St w0 I (ids (mX m (v) (c))) G2 (mX m (v + d + T.path t k) (c + T.path t k) ++ ([⟨b36, #[kv26, xv27], 56⟩] : List Bx)) w117 := hs118
        clear hs116 hid119
        refine hK113 _ _ ?_; clear hK113 K112
        refine sq (r_extract rfl rfl rfl) rfl ?_
        refine sq (r_extract rfl rfl rfl) rfl ?_
        refine sq (r_assign rfl) rfl ?_
        refine sq (r_assign rfl) rfl ?_
        refine wl_nil ?_
        refine hK111 _ _ ?_; (try clear hK111 K110)
        refine wp_ret ?_
        exact leave (X' := mX m (v + d + T.path t k) (c + T.path t k)) (L := [⟨b36, #[kv26, xv27], 56⟩]) hs118 (mX_ids _ _ _ _ _) (res_many (vs := [xv114, .bool ((T.get t k).isSome)]) rfl (.tmp rfl rfl (.tmp rfl rfl .nil)) rfl) (by subst hbe; obtain ⟨q1, q2, q3⟩ := N.end_bucket (h := h) (k := k) (t := t); exact ⟨_, by rw [q1], by rw [q1]; exact hx115, mX_congr (by rw [q2]) (by rw [q3])⟩)
end Go.Proofs.YtlnlodfnplkckaaDoor
/- The contracts of graft.Put and what it calls. -/
namespace Go.Proofs.YtlnlodfnplkckaaDoor
set_option linter.unusedVariables false
set_option linter.unusedSimpArgs false
namespace N
theorem ofTree_size (h : Nat) (t : T) : (ofTree h t).size = t.size := by
  by_cases h0 : t.size = 0
  · rw [T.size_zero h0]; rfl
  · by_cases h1 : t.size = 1
    · obtain ⟨k, x, rfl⟩ := T.size_one h1; rfl
    · rw [ofTree_big h0 h1]; rfl
theorem mk_size_le (m : Nat) (kids : List N) : (mk m kids).size ≤ sizes kids := mk_size m kids
end N
end Go.Proofs.YtlnlodfnplkckaaDoor
/- The engine: remainders, slices of arrays, elements of byte slices, loops walked round by round. Each theorem's conditions stand in it. -/
namespace Go.Proofs.YtlnlodfnplkckaaDoor
section
variable {P : Program} {Q : Exit → Act → World → Prop} {f : Nat → Value} {n : Fr} {w : World} {d : Option Tmp} {t ty yt : TypeId} {pos : String} {af : Array Edge} {g : Option (Nat × Bool)} {x y z : Operand}
end
theorem bytes_slc {I : GH} {v : Value} {k : Bs} (h : BytesAt I v k) : ∃ ad cap, v = .slice ad k.length cap := by
  obtain ⟨a', cap', h1, _⟩ := h
  exact ⟨_, _, h1⟩
theorem bytes_lit {I : GH} {b off len cap : Nat} {cs : Array Value} {T : TypeId} {fz : Nat × Nat} {k : Bs} (hb : I b = some (.cells cs T fz)) (hl : k.length = len) (hc : len ≤ cap) (h : (cs.toList.drop off).take len = k.map bV) : BytesAt I (.slice (some ⟨b, off, none⟩) len cap) k := by
  subst hl
  exact ⟨_, cap, rfl, hc, (fun h => by cases h), by simp, fun _ => ⟨b, off, cs, T, fz, rfl, hb, by rwa [Nat.mul_one]⟩⟩
end Go.Proofs.YtlnlodfnplkckaaDoor
/- The contracts of word.Low, word.Turn, and of package sip. -/
namespace Go.Proofs.YtlnlodfnplkckaaDoor
set_option linter.unusedVariables false
set_option linter.unusedSimpArgs false
abbrev S4 := Nat × Nat × Nat × Nat
end Go.Proofs.YtlnlodfnplkckaaDoor
/- The contracts of sip.Begin, sip.Hash. -/
namespace Go.Proofs.YtlnlodfnplkckaaDoor
set_option linter.unusedVariables false
set_option linter.unusedSimpArgs false
section
variable {P : Program} {f : Nat → Value} {n : Fr} {w : World} {d : Option Tmp} {ty : TypeId} {pos : String} {af : Array Edge} {g : Option (Nat × Bool)} {x : Operand}
end
/-- What a seed is laid over lies where it is laid. -/
def StartG (I : GH) : Prop := ∃ T fz, I 0 = some (.cells #[.int .u64 8317987319222330741, .int .u64 7237128888997146477, .int .u64 7816392313619706465, .int .u64 8387220255154660723] T fz)
theorem StartG.up {I J : GH} (h : StartG I) (hle : I.le J) : StartG J := by
  obtain ⟨T, fz, h1⟩ := h; exact ⟨T, fz, hle _ _ h1⟩
def S4.ok (x : S4) : Prop := x.1 < 2 ^ 64 ∧ x.2.1 < 2 ^ 64 ∧ x.2.2.1 < 2 ^ 64 ∧ x.2.2.2 < 2 ^ 64
end Go.Proofs.YtlnlodfnplkckaaDoor
/- The contracts of the references of keys and maps. -/
namespace Go.Proofs.YtlnlodfnplkckaaDoor
set_option linter.unusedVariables false
set_option linter.unusedSimpArgs false
def spCells : List (Bs × Bs) → List Value
  | [] => []
  | p :: l => .string ⟨p.1.toArray⟩ :: .string ⟨p.2.toArray⟩ :: spCells l
theorem spCells_length : ∀ l : List (Bs × Bs), (spCells l).length = l.length * 2
  | [] => rfl
  | p :: l => by simp only [spCells, List.length_cons, spCells_length l]; omega
theorem spCells_at : ∀ {l : List (Bs × Bs)} {i : Nat} (h : i < l.length), ((spCells l).drop (i * 2)).take 2 = [.string ⟨l[i].1.toArray⟩, .string ⟨l[i].2.toArray⟩]
  | p :: l, 0, _ => rfl
  | p :: l, i + 1, h => by
    have := spCells_at (l := l) (i := i) (by simpa using h)
    rw [show (i + 1) * 2 = i * 2 + 1 + 1 by omega]
    simpa [spCells] using this
/-- A slice of pairs of strings. -/
def SPairsAt (I : GH) (v : Value) (l : List (Bs × Bs)) : Prop := SliceAt I v l.length 2 (spCells l)
theorem SPairsAt.up {I J : GH} {v : Value} {l : List (Bs × Bs)} (h : SPairsAt I v l) (hle : I.le J) : SPairsAt J v l := SliceAt.up h hle
theorem SPairsAt.one {I : GH} {v : Value} {l : List (Bs × Bs)} (h : SPairsAt I v l) : One v := SliceAt.one h
theorem SPairsAt.slc {I : GH} {v : Value} {l : List (Bs × Bs)} (h : SPairsAt I v l) : ∃ ad cap, v = .slice ad l.length cap := by
  obtain ⟨a, cap, h1, _⟩ := h; exact ⟨a, cap, h1⟩
theorem SPairsAt.nil (I : GH) : SPairsAt I (.slice none 0 0) [] := SliceAt.nil I 2
theorem SPairsAt.at {I : GH} {ad : Option Addr} {cap i : Nat} {l : List (Bs × Bs)} (hs : SPairsAt I (.slice ad l.length cap) l) (hi : i < l.length) :
    ∃ b off cs T fz, ad = some ⟨b, off, none⟩ ∧ I b = some (.cells cs T fz) ∧ (cs.toList.drop (off + i * 2)).take 2 = [.string ⟨l[i].1.toArray⟩, .string ⟨l[i].2.toArray⟩] := by
  have hne : spCells l ≠ [] := fun e => by have := spCells_length l; rw [e] at this; simp only [List.length_nil] at this; omega
  obtain ⟨b, off, cs, T, fz, g1, g2, g3⟩ := SliceAt.open hs hne
  exact ⟨b, off, cs, T, fz, g1, g2, by rw [part_of g3 hi, spCells_at hi]⟩
section
variable {P : Program} {f : Nat → Value} {n : Fr} {w : World} {d : Option Tmp} {t ty : TypeId} {pos : String} {af : Array Edge} {g : Option (Nat × Bool)} {x y : Operand}
end
def getL (l : List (Bs × Bs)) (k : Bs) : Option Bs := (l.find? fun p => decide (p.1 = k)).map (·.2)
end Go.Proofs.YtlnlodfnplkckaaDoor
/- The contracts of the reference of the bound. -/
namespace Go.Proofs.YtlnlodfnplkckaaDoor
set_option linter.unusedVariables false
set_option linter.unusedSimpArgs false
def iV (n : Nat) : Value := .int .i64 (n : Int)
/-- A slice of naturals. -/
def NatsAt (I : GH) (v : Value) (d : List Nat) : Prop := SliceAt I v d.length 1 (d.map iV)
theorem NatsAt.up {I J : GH} {v : Value} {l : List Nat} (h : NatsAt I v l) (hle : I.le J) : NatsAt J v l := SliceAt.up h hle
theorem NatsAt.one {I : GH} {v : Value} {l : List Nat} (h : NatsAt I v l) : One v := SliceAt.one h
theorem NatsAt.slc {I : GH} {v : Value} {l : List Nat} (h : NatsAt I v l) : ∃ ad cap, v = .slice ad l.length cap := by
  obtain ⟨a, cap, h1, _⟩ := h; exact ⟨a, cap, h1⟩
theorem NatsAt.at {I : GH} {ad : Option Addr} {cap i : Nat} {l : List Nat} (hs : NatsAt I (.slice ad l.length cap) l) (hi : i < l.length) :
    ∃ b off cs T fz, ad = some ⟨b, off, none⟩ ∧ I b = some (.cells cs T fz) ∧ cs[off + i * 1]? = some (.int .i64 ((l[i] : Nat) : Int)) := by
  have hne : l.map iV ≠ [] := fun e => by have := congrArg List.length e; simp at this; subst this; simp at hi
  obtain ⟨b, off, cs, T, fz, g1, g2, g3⟩ := SliceAt.open hs hne
  refine ⟨b, off, cs, T, fz, g1, g2, ?_⟩
  have h2 : (l.map iV)[i]? = some (iV l[i]) := by simp [hi]
  rw [← g3, List.getElem?_take, List.getElem?_drop, if_pos (by omega)] at h2
  rw [Nat.mul_one]
  simpa [iV] using h2
end Go.Proofs.YtlnlodfnplkckaaDoor
/- The contracts of the bound of the reference, and of Fine. -/
namespace Go.Proofs.YtlnlodfnplkckaaDoor
set_option linter.unusedVariables false
set_option linter.unusedSimpArgs false
/-- Calls: their kinds, keys and values. -/
abbrev OpL := List (Int × Bs × Bs)
def OpCells (I : GH) : List Value → OpL → Prop
  | [], [] => True
  | c :: kv :: xv :: cs, p :: l => c = .int .i64 p.1 ∧ BytesAt I kv p.2.1 ∧ BytesAt I xv p.2.2 ∧ OpCells I cs l
  | _, _ => False
theorem OpCells.up {I J : GH} (hle : I.le J) : ∀ {cs : List Value} {l : OpL}, OpCells I cs l → OpCells J cs l
  | [], [], _ => trivial
  | _ :: _ :: _ :: _, _ :: _, ⟨h0, h1, h2, h3⟩ => ⟨h0, h1.up hle, h2.up hle, OpCells.up hle h3⟩
  | [], _ :: _, h => h.elim
  | [_], l, h => by cases l <;> exact h.elim
  | [_, _], l, h => by cases l <;> exact h.elim
  | _ :: _ :: _ :: _, [], h => h.elim
theorem OpCells.length {I : GH} : ∀ {cs : List Value} {l : OpL}, OpCells I cs l → cs.length = l.length * 3
  | [], [], _ => rfl
  | _ :: _ :: _ :: cs, _ :: l, ⟨_, _, _, h3⟩ => by have := OpCells.length h3; simp only [List.length_cons]; omega
  | [], _ :: _, h => h.elim
  | [_], l, h => by cases l <;> exact h.elim
  | [_, _], l, h => by cases l <;> exact h.elim
  | _ :: _ :: _ :: _, [], h => h.elim
theorem OpCells.get {I : GH} : ∀ {cs : List Value} {l : OpL} {i : Nat}, OpCells I cs l → (h : i < l.length) →
    ∃ kv xv, (cs.drop (i * 3)).take 3 = [.int .i64 l[i].1, kv, xv] ∧ BytesAt I kv l[i].2.1 ∧ BytesAt I xv l[i].2.2
  | c :: kv :: xv :: _, _ :: _, 0, ⟨h0, h1, h2, _⟩, _ => ⟨kv, xv, by rw [h0]; simp, h1, h2⟩
  | _ :: _ :: _ :: cs, _ :: l, i + 1, ⟨_, _, _, h3⟩, h => by
    obtain ⟨kv, xv, h4, h5, h6⟩ := OpCells.get h3 (i := i) (by simpa using h)
    refine ⟨kv, xv, ?_, h5, h6⟩
    rw [show (i + 1) * 3 = i * 3 + 1 + 1 + 1 by omega]
    simpa using h4
  | [], _ :: _, _, h, _ => h.elim
  | [_], l, _, h, _ => by cases l <;> exact h.elim
  | [_, _], l, _, h, _ => by cases l <;> exact h.elim
  | _ :: _ :: _ :: _, [], _, h, _ => h.elim
  | [], [], _, _, h => by simp at h
def OpsAt (I : GH) (v : Value) (l : OpL) : Prop := ∃ cs, SliceAt I v l.length 3 cs ∧ OpCells I cs l
theorem OpsAt.up {I J : GH} {v : Value} {l : OpL} (h : OpsAt I v l) (hle : I.le J) : OpsAt J v l := by
  obtain ⟨cs, h1, h2⟩ := h; exact ⟨cs, h1.up hle, h2.up hle⟩
theorem OpsAt.slc {I : GH} {v : Value} {l : OpL} (h : OpsAt I v l) : ∃ ad cap, v = .slice ad l.length cap := by
  obtain ⟨cs, ⟨a, cap, h1, _⟩, _⟩ := h; exact ⟨a, cap, h1⟩
theorem OpsAt.at {I : GH} {ad : Option Addr} {cap i : Nat} {l : OpL} (hs : OpsAt I (.slice ad l.length cap) l) (hi : i < l.length) :
    ∃ b off cs T fz kv xv, ad = some ⟨b, off, none⟩ ∧ I b = some (.cells cs T fz) ∧ (cs.toList.drop (off + i * 3)).take 3 = [.int .i64 l[i].1, kv, xv] ∧ BytesAt I kv l[i].2.1 ∧ BytesAt I xv l[i].2.2 := by
  obtain ⟨xs, h1, h2⟩ := hs
  have hne : xs ≠ [] := by
    intro e
    have := h2.length
    rw [e, List.length_nil] at this
    omega
  obtain ⟨b, off, cs, T, fz, g1, g2, g3⟩ := h1.open hne
  obtain ⟨kv, xv, k1, k2, k3⟩ := h2.get hi
  exact ⟨b, off, cs, T, fz, kv, xv, g1, g2, by rw [part_of g3 hi, k1], k2, k3⟩
end Go.Proofs.YtlnlodfnplkckaaDoor
