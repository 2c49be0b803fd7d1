/- Texts of the walk, laid together. Each theorem's conditions stand in it. -/
import Derived.Test.YtlnlodfnplkckaaDoorM4
/- The contracts of prune.Delete and what it calls. -/
namespace Go.Proofs.YtlnlodfnplkckaaDoor
set_option linter.unusedVariables false
set_option linter.unusedSimpArgs false
namespace N
def remC (h : Nat) (k : Bs) : N → Nat → Nat
  | .none, _ => 0
  | .leaf g _ _, _ => if g ≠ h then 0 else 1
  | .bucket g t, _ => if g ≠ h then 0 else t.path k
  | .branch m kids, l => if has (.branch m kids) ((chunkN h l : Nat) : Int) = false then 0 else remC h k (kid (.branch m kids) ((chunkN h l : Nat) : Int)) (l + 1)
termination_by n => SizeOf.sizeOf n
decreasing_by exact kid_lt _ _ _
theorem kid_le {n : N} (hf : n.fit) {c : Nat} (hc : c < 32) : (n.kid (c : Int)).size ≤ n.size := by
  cases n with
  | branch m kids => exact kid_size hf hc
  | _ => exact Nat.zero_le _
theorem nth_lt (m : Nat) : (nthN m 0).getD 0 < 32 := by
  unfold nthN
  rw [if_pos (by omega)]
  cases hb : (bitsL m)[(0 : Int).toNat]? with
  | none => exact Nat.zero_lt_of_lt (show 0 < 32 by decide)
  | some c => exact (mem_bitsL.1 (List.mem_of_getElem? hb)).1
theorem collapse_size {n : N} (hf : n.fit) : n.collapse.size ≤ n.size := by
  cases n with
  | branch m kids =>
    simp only [collapse]
    split
    · exact Nat.le_refl _
    · split
      · exact Nat.le_refl _
      · exact kid_le hf (nth_lt m)
  | _ => exact Nat.le_refl _
theorem rem_size {h : Nat} {k : Bs} : ∀ (n : N) (l : Nat) {q : Nat} {r : N}, WF l q n → rem h k n l = some r → r.size ≤ n.size := by
  intro n l
  refine rec2 (P := fun n l => ∀ {q : Nat} {r : N}, WF l q n → rem h k n l = some r → r.size ≤ n.size) ?_ ?_ ?_ ?_ n l
  · intro l q r hw hr; rw [rem] at hr; cases hr
  · intro g k0 x0 l q r hw hr
    rw [rem] at hr
    split at hr
    · cases hr
    · split at hr
      · cases hr
      · cases hr; exact Nat.zero_le _
  · intro g t l q r hw hr
    rw [rem] at hr
    split at hr
    · cases hr
    · cases hd : t.del k with
      | none => rw [hd] at hr; cases hr
      | some u =>
        rw [hd] at hr
        cases hr
        rw [ofTree_size]
        have := T.size_del hd
        show u.size ≤ t.size
        omega
  · intro m kids l ih q r hw hr
    rw [rem] at hr
    split at hr
    · cases hr
    · rw [Option.map_eq_some_iff] at hr
      obtain ⟨r', h1, h2⟩ := hr
      have h3 := ih ((chunkN h l : Nat) : Int) (l + 1) (hw.kid (chunkN_lt h l)) h1
      have a1 := withK_sizes (k := r') (chunkN_lt h l) hw.fit
      have a2 := pick_sizes (c := chunkN h l) (by have := hw.map_lt; exact this) (chunkN_lt h l) hw.fit
      split at h2
      · subst h2
        refine Nat.le_trans (collapse_size (mk_fit _ _)) (Nat.le_trans (mk_size_le _ _) ?_)
        omega
      · subst h2
        refine Nat.le_trans (collapse_size (mk_fit _ _)) (Nat.le_trans (mk_size_le _ _) ?_)
        simp only [map, Option.getD_some]
        omega
theorem remN_eq {h : Nat} {k : Bs} {l : Nat} : rem h k .none l = Option.none ∧ remV h k .none l = 0 ∧ remC h k .none l = 0 := ⟨by rw [rem], by rw [remV], by rw [remC]⟩
theorem remLF {h g : Nat} {k k0 x0 : Bs} {l : Nat} (hne : g ≠ h) : rem h k (.leaf g k0 x0) l = Option.none ∧ remV h k (.leaf g k0 x0) l = 1 ∧ remC h k (.leaf g k0 x0) l = 0 :=
  ⟨by rw [rem, if_pos hne], by rw [remV], by rw [remC, if_pos hne]⟩
theorem remLN {h g : Nat} {k k0 x0 : Bs} {l : Nat} (he : g = h) (hc : ¬ cmpB k k0 = 0) : rem h k (.leaf g k0 x0) l = Option.none ∧ remV h k (.leaf g k0 x0) l = 1 ∧ remC h k (.leaf g k0 x0) l = 1 :=
  ⟨by rw [rem, if_neg (fun e => e he), if_pos hc], by rw [remV], by rw [remC, if_neg (fun e => e he)]⟩
theorem remLS {h g : Nat} {k k0 x0 : Bs} {l : Nat} (he : g = h) (hc : cmpB k k0 = 0) : rem h k (.leaf g k0 x0) l = some .none ∧ remV h k (.leaf g k0 x0) l = 1 ∧ remC h k (.leaf g k0 x0) l = 1 :=
  ⟨by rw [rem, if_neg (fun e => e he), if_neg (fun e => e hc)], by rw [remV], by rw [remC, if_neg (fun e => e he)]⟩
theorem remBF {h g : Nat} {k : Bs} {t : T} {l : Nat} (hne : g ≠ h) : rem h k (.bucket g t) l = Option.none ∧ remV h k (.bucket g t) l = 0 ∧ remC h k (.bucket g t) l = 0 :=
  ⟨by rw [rem, if_pos hne], by rw [remV, if_pos hne], by rw [remC, if_pos hne]⟩
theorem remBS {h g : Nat} {k : Bs} {t : T} {l : Nat} (he : g = h) : rem h k (.bucket g t) l = (t.del k).map (ofTree h) ∧ remV h k (.bucket g t) l = t.delV k ∧ remC h k (.bucket g t) l = t.path k :=
  ⟨by rw [rem, if_neg (fun e => e he)], by rw [remV, if_neg (fun e => e he)], by rw [remC, if_neg (fun e => e he)]⟩
end N
/-- What from hands back. -/
def RemR (m : Option Nat) (h : Nat) (k : Bs) (n : N) (l v c : Nat) (r : Value) (J : GH) (X : List Bx) : Prop :=
  ∃ u, r = .tuple #[u, .bool (N.rem h k n l).isSome] ∧ NodeAt J u ((N.rem h k n l).getD n) ∧ X = mX m (v + N.remV h k n l) (c + N.remC h k n l)
set_option maxRecDepth 100000 in
theorem cutbranch_ok {I : GH} {m : Option Nat} {v c : Nat} {n : N} {nv kv : Value} {h l q : Nat} {k : Bs} (ht : TabG I) (hh : h < 2 ^ 64) (h1 : k.length ≤ 1000000) (hw : N.WF l q n) (hsz : n.size ≤ 999000) (hn : NodeAt I nv n) (hk : BytesAt I kv k) {bm : Nat} {bk : List N} (hbe : n = .branch bm bk)
    (hrec : ∀ {J : GH} {u kv : Value} {v c : Nat}, I.le J → NodeAt J u (N.kid n ((chunkN h l : Nat) : Int)) → BytesAt J kv k →
      Fn Tryd.prog 109 #[.agg #[.int .u64 ((h : Nat) : Int), kv, mV m], u, .int .i64 ((l + 1 : Nat) : Int)] J (mX m v c) (RemR m h k (N.kid n ((chunkN h l : Nat) : Int)) (l + 1) v c)) :
    Fn Tryd.prog 138 #[.agg #[.int .u64 ((h : Nat) : Int), kv, mV m], nv, .int .i64 ((l : Nat) : Int)] I (mX m v c) (RemR m h k n l v c) := by
  have hl : l < 13 := by rw [hbe] at hw; exact hw.level
  have hmlt := hw.map_lt
  have hszw : ∀ r, N.rem h k (N.kid n ((chunkN h l : Nat) : Int)) (l + 1) = some r → N.sizes ((bitsL (n.map.getD 0 ||| bitN ((chunkN h l : Nat) : Int))).map fun (i : Nat) => N.wkid n ((chunkN h l : Nat) : Int) r (i : Int)) ≤ 1000000 := by
    intro r hr
    have a1 := N.withK_sizes (m := bm) (kids := bk) (k := r) (chunkN_lt h l) (by rw [hbe] at hw; exact hw.fit)
    have a2 := N.rem_size (h := h) (k := k) (r := r) _ (l + 1) (by rw [hbe] at hw; exact hw.kid (chunkN_lt h l)) (by rw [hbe] at hr; exact hr)
    subst hbe
    simp only [N.map, Option.getD_some]
    omega
  have hszp : N.sizes ((bitsL (andNot 32 (n.map.getD 0) (bitN ((chunkN h l : Nat) : Int)))).map fun (i : Nat) => n.kid (i : Int)) ≤ 1000000 := by
    have a1 := N.pick_sizes (m := bm) (kids := bk) (c := chunkN h l) (by rw [hbe] at hmlt; exact hmlt) (chunkN_lt h l) (by rw [hbe] at hw; exact hw.fit)
    subst hbe
    simp only [N.map, Option.getD_some]
    omega
  refine enter (args := [.agg #[.int .u64 ((h : Nat) : Int), kv, (mV m)], nv, .int .i64 ((l : Nat) : Int)]) Tryd.func138 rfl rfl fun w0 hs0 => ?_
  replace hs0 : St w0 I (ids (mX m (v) (c))) I (mX m (v) (c) ++ []) w0 := by simpa using hs0
  refine wp_seq_k fun K1 hK2 => ?_
  refine wl_begin ?_
  refine sqo rfl fun K3 hK4 => ow_newbox (mk := fun b => .pointer (some ⟨b, 0, none⟩)) hs0 (r_box rfl rfl) rfl ?_
  rintro b5 w6 (hs7 : St w0 I (ids (mX m (v) (c))) I (⟨b5, #[.int .u64 ((h : Nat) : Int), kv, (mV m)], 188⟩ :: (mX m (v) (c) ++ [])) w6)
  clear hs0
  refine hK4 _ _ ?_; clear hK4 K3
  refine sq (r_assign rfl) rfl ?_
  refine sq (r_assign rfl) rfl ?_
  refine wl_nil ?_
  refine hK2 _ _ ?_; (try clear hK2 K1)
  refine wp_seq_k fun K8 hK9 => ?_
  refine wl_begin ?_
  refine sq (r_fieldAddr (off := 2) rfl (by kernel_rfl) rfl) rfl ?_
  refine sq (r_load rfl (by kernel_rfl) rfl (hs7.box (.head _)) rfl) rfl ?_
  have hs12 : St w0 I (ids (mX m (v) (c))) I (mX m (v) (c) ++ ([⟨b5, #[.int .u64 ((h : Nat) : Int), kv, (mV m)], 188⟩] : List Bx)) w6 := hs7.perm (List.Perm.trans ((List.Perm.refl _).cons _) (List.perm_middle (l₁ := (mX m (v) (c) : List Bx)) (a := (⟨b5, #[.int .u64 ((h : Nat) : Int), kv, (mV m)], 188⟩ : Bx)) (l₂ := [])).symm); clear hs7
  refine sqo rfl fun K10 hK11 => ow_call (X := mX m (v) (c)) (L := [⟨b5, #[.int .u64 ((h : Nat) : Int), kv, (mV m)], 188⟩]) (lb := []) hs12 (visit_ok) (by kernel_rfl) rfl rfl rfl rfl rfl ?_
  rintro _ _ X1 w13 ⟨rfl, rfl⟩ - hs14 hid15
  replace hs14 : St w0 I (ids (mX m (v) (c))) I (mX m (v + 1) (c) ++ ([⟨b5, #[.int .u64 ((h : Nat) : Int), kv, (mV m)], 188⟩] : List Bx)) w13 := hs14
  clear hs12 hid15
  refine hK11 _ _ ?_; clear hK11 K10
  refine wl_nil ?_
  refine hK9 _ _ ?_; (try clear hK9 K8)
  refine wp_seq_k fun K16 hK17 => ?_
  refine wl_begin ?_
  refine sq (r_fieldAddr (off := 0) rfl (by kernel_rfl) rfl) rfl ?_
  refine sq (r_load rfl (by kernel_rfl) rfl (hs14.box (List.mem_append_right _ (.head _))) rfl) rfl ?_
  refine sq (r_move rfl) rfl ?_
  refine sqo rfl fun K18 hK19 => ow_call (X := []) (L := (mX m (v + 1) (c) ++ ([⟨b5, #[.int .u64 ((h : Nat) : Int), kv, (mV m)], 188⟩] : List Bx))) (lb := []) hs14 (chunk_ok (h := h) (l := l) hh) (by kernel_rfl) rfl rfl rfl rfl rfl ?_
  rintro _ _ X1 w20 ⟨rfl, rfl⟩ - hs21 hid22
  obtain rfl : X1 = [] := List.map_eq_nil_iff.1 hid22
  replace hs21 : St w0 I (ids (mX m (v) (c))) I (mX m (v + 1) (c) ++ ([⟨b5, #[.int .u64 ((h : Nat) : Int), kv, (mV m)], 188⟩] : List Bx)) w20 := hs21
  clear hs14 hid22
  refine hK19 _ _ ?_; clear hK19 K18
  refine sq (r_assign rfl) rfl ?_
  refine wl_nil ?_
  refine hK17 _ _ ?_; (try clear hK17 K16)
  refine wp_seq_k fun K23 hK24 => ?_
  refine wl_begin ?_
  refine sq (r_move rfl) rfl ?_
  refine sq (r_move rfl) rfl ?_
  refine sqo rfl fun K25 hK26 => ow_call (X := []) (L := (mX m (v + 1) (c) ++ ([⟨b5, #[.int .u64 ((h : Nat) : Int), kv, (mV m)], 188⟩] : List Bx))) (lb := []) hs21 (kid_ok hn hw.fit (((chunkN h l) : Nat) : Int)) (by kernel_rfl) rfl rfl rfl rfl rfl ?_
  rintro _ _ X1 w29 ⟨u27, rfl, hn28, rfl⟩ - hs30 hid31
  obtain rfl : X1 = [] := List.map_eq_nil_iff.1 hid31
  replace hs30 : St w0 I (ids (mX m (v) (c))) I (mX m (v + 1) (c) ++ ([⟨b5, #[.int .u64 ((h : Nat) : Int), kv, (mV m)], 188⟩] : List Bx)) w29 := hs30
  clear hs21 hid31
  refine hK26 _ _ ?_; clear hK26 K25
  refine sq (r_move rfl) rfl ?_
  refine sq (r_extract rfl rfl rfl) rfl ?_
  refine sq (r_extract rfl rfl rfl) rfl ?_
  refine sq (r_assign rfl) rfl ?_
  refine sq (r_assign rfl) rfl ?_
  refine wl_nil ?_
  refine hK24 _ _ ?_; (try clear hK24 K23)
  refine wp_seq_k fun K32 hK33 => ?_
  refine wp_seq_k fun K34 hK35 => ?_
  refine nrm (vals := [(0, .agg #[.int .u64 ((h : Nat) : Int), kv, (mV m)]), (1, nv), (2, .int .i64 ((l : Nat) : Int)), (3, .pointer (some ⟨b5, 0, none⟩)), (6, .nilIface), (7, .bool false), (8, .int .i64 (((chunkN h l) : Nat) : Int)), (9, u27), (10, .bool (N.has n (((chunkN h l) : Nat) : Int)))]) (.cons rfl (.cons rfl (.cons rfl (.cons rfl (.cons rfl (.cons rfl (.cons rfl (.cons rfl (.cons rfl .nil))))))))) fun g36 => ?_
  refine wl_begin ?_
  refine sq (r_move rfl) rfl ?_
  refine sq (r_not rfl rfl) rfl ?_
  refine wl_nil ?_
  refine hK35 _ _ ?_; (try clear hK35 K34)
  refine condS rfl rfl (fun h37 => ?_) (fun h37 => ?_)
  ·
    have h38 : (N.has n (((chunkN h l) : Nat) : Int)) = false := by simpa using h37
    have hhas : N.has n ((chunkN h l : Nat) : Int) = false := by simpa using h37
    refine wp_seq_k fun K39 hK40 => ?_
    refine wl_begin ?_
    refine sq (r_move rfl) rfl ?_
    refine sq (r_assign rfl) rfl ?_
    refine sq (r_assign rfl) rfl ?_
    refine wl_nil ?_
    refine hK40 _ _ ?_; (try clear hK40 K39)
    refine wp_ret ?_
    exact leave (X' := mX m (v + 1) (c)) (L := [⟨b5, #[.int .u64 ((h : Nat) : Int), kv, (mV m)], 188⟩]) hs30 (mX_ids _ _ _ _ _) (res_many (vs := [nv, .bool false]) rfl (.tmp rfl rfl (.tmp rfl rfl .nil)) rfl) (by subst hbe; exact ⟨_, by rw [N.rem, if_pos hhas]; rfl, by rw [N.rem, if_pos hhas]; exact hn, mX_congr (by rw [N.remV, if_pos hhas]) (by rw [N.remC, if_pos hhas]; rfl)⟩)
  ·
    have h41 : (N.has n (((chunkN h l) : Nat) : Int)) = true := by simpa using h37
    have hhas : ¬ N.has n ((chunkN h l : Nat) : Int) = false := by simpa using h37
    refine wp_skip ?_
    refine hK33 _ _ ?_; (try clear hK33 K32)
    refine wp_seq_k fun K42 hK43 => ?_
    refine wl_begin ?_
    refine sq (r_loadN (m := 3) rfl (by kernel_rfl) rfl (hs30.box (List.mem_append_right _ (.head _))) rfl rfl) rfl ?_
    refine sq (r_move rfl) rfl ?_
    refine sq (r_move rfl) rfl ?_
    refine sq (r_addi rfl rfl rfl rfl (by omega)) rfl ?_
    refine sqo rfl fun K44 hK45 => ow_call (X := mX m (v + 1) (c)) (L := [⟨b5, #[.int .u64 ((h : Nat) : Int), kv, (mV m)], 188⟩]) (lb := []) hs30 (hrec (GH.le.refl _) hn28 hk) (by kernel_rfl) rfl rfl rfl rfl rfl ?_
    rintro _ G1 X1 w48 ⟨u46, rfl, hn47, rfl⟩ le51 hs49 hid50
    replace hs49 : St w0 I (ids (mX m (v) (c))) G1 (mX m (v + 1 + N.remV h k (N.kid n ((chunkN h l : Nat) : Int)) (l + 1)) (c + N.remC h k (N.kid n ((chunkN h l : Nat) : Int)) (l + 1)) ++ ([⟨b5, #[.int .u64 ((h : Nat) : Int), kv, (mV m)], 188⟩] : List Bx)) w48 := hs49
    clear hs30 hid50
    refine hK45 _ _ ?_; clear hK45 K44
    refine sq (r_move rfl) rfl ?_
    refine sq (r_extract rfl rfl rfl) rfl ?_
    refine sq (r_extract rfl rfl rfl) rfl ?_
    refine sq (r_assign rfl) rfl ?_
    refine sq (r_assign rfl) rfl ?_
    refine wl_nil ?_
    refine hK43 _ _ ?_; (try clear hK43 K42)
    refine wp_seq_k fun K52 hK53 => ?_
    refine wp_seq_k fun K54 hK55 => ?_
    refine wl_begin ?_
    refine sq (r_move rfl) rfl ?_
    refine sq (r_not rfl rfl) rfl ?_
    refine wl_nil ?_
    refine hK55 _ _ ?_; (try clear hK55 K54)
    refine condS rfl rfl (fun h56 => ?_) (fun h56 => ?_)
    ·
      have h57 : ((N.rem h k (N.kid n ((chunkN h l : Nat) : Int)) (l + 1)).isSome) = false := by simpa using h56
      have hnr : N.rem h k (N.kid n ((chunkN h l : Nat) : Int)) (l + 1) = none := by simpa using h56
      refine wp_seq_k fun K58 hK59 => ?_
      refine nrm (vals := [(0, .agg #[.int .u64 ((h : Nat) : Int), kv, (mV m)]), (1, nv), (2, .int .i64 ((l : Nat) : Int)), (3, .pointer (some ⟨b5, 0, none⟩)), (6, .nilIface), (7, .bool false), (8, .int .i64 (((chunkN h l) : Nat) : Int)), (9, u27), (10, .bool (N.has n (((chunkN h l) : Nat) : Int))), (11, u46), (12, .bool ((N.rem h k (N.kid n ((chunkN h l : Nat) : Int)) (l + 1)).isSome)), (27, .bool (!(N.has n (((chunkN h l) : Nat) : Int)))), (38, .bool (!((N.rem h k (N.kid n ((chunkN h l : Nat) : Int)) (l + 1)).isSome)))]) (.cons rfl (.cons rfl (.cons rfl (.cons rfl (.cons rfl (.cons rfl (.cons rfl (.cons rfl (.cons rfl (.cons rfl (.cons rfl (.cons rfl (.cons rfl .nil))))))))))))) fun g60 => ?_
      refine wl_begin ?_
      refine sq (r_move rfl) rfl ?_
      refine sq (r_assign rfl) rfl ?_
      refine sq (r_assign rfl) rfl ?_
      refine wl_nil ?_
      refine hK59 _ _ ?_; (try clear hK59 K58)
      refine wp_ret ?_
      exact leave (X' := mX m (v + 1 + N.remV h k (N.kid n ((chunkN h l : Nat) : Int)) (l + 1)) (c + N.remC h k (N.kid n ((chunkN h l : Nat) : Int)) (l + 1))) (L := [⟨b5, #[.int .u64 ((h : Nat) : Int), kv, (mV m)], 188⟩]) hs49 (mX_ids _ _ _ _ _) (res_many (vs := [nv, .bool false]) rfl (.tmp rfl rfl (.tmp rfl rfl .nil)) rfl) (by subst hbe; exact ⟨_, by rw [N.rem, if_neg hhas, hnr]; rfl, by rw [N.rem, if_neg hhas, hnr]; exact (hn.up le51), mX_congr (by rw [N.remV, if_neg hhas]; omega) (by rw [N.remC, if_neg hhas])⟩)
    ·
      have h61 : ((N.rem h k (N.kid n ((chunkN h l : Nat) : Int)) (l + 1)).isSome) = true := by simpa using h56
      obtain ⟨r, hr⟩ := Option.isSome_iff_exists.1 (show (N.rem h k (N.kid n ((chunkN h l : Nat) : Int)) (l + 1)).isSome = true by simpa using h56)
      have hu62 : NodeAt G1 u46 r := by have z := hn47; rw [hr] at z; exact z
      refine wp_skip ?_
      refine hK53 _ _ ?_; (try clear hK53 K52)
      refine wp_seq_k fun K63 hK64 => ?_
      refine wp_seq_k fun K65 hK66 => ?_
      refine nrm (vals := [(0, .agg #[.int .u64 ((h : Nat) : Int), kv, (mV m)]), (1, nv), (2, .int .i64 ((l : Nat) : Int)), (3, .pointer (some ⟨b5, 0, none⟩)), (6, .nilIface), (7, .bool false), (8, .int .i64 (((chunkN h l) : Nat) : Int)), (9, u27), (10, .bool (N.has n (((chunkN h l) : Nat) : Int))), (11, u46), (12, .bool ((N.rem h k (N.kid n ((chunkN h l : Nat) : Int)) (l + 1)).isSome)), (27, .bool (!(N.has n (((chunkN h l) : Nat) : Int)))), (38, .bool (!((N.rem h k (N.kid n ((chunkN h l : Nat) : Int)) (l + 1)).isSome)))]) (.cons rfl (.cons rfl (.cons rfl (.cons rfl (.cons rfl (.cons rfl (.cons rfl (.cons rfl (.cons rfl (.cons rfl (.cons rfl (.cons rfl (.cons rfl .nil))))))))))))) fun g67 => ?_
      refine wl_begin ?_
      refine sq (r_move rfl) rfl ?_
      refine sq (r_eqf rfl (by kernel_rfl) rfl hu62.pif) rfl ?_
      refine wl_nil ?_
      refine hK66 _ _ ?_; (try clear hK66 K65)
      refine condS rfl rfl (fun h68 => ?_) (fun h68 => ?_)
      ·
        refine wp_seq_k fun K69 hK70 => ?_
        refine wl_begin ?_
        refine sq (r_move rfl) rfl ?_
        refine sq (r_move rfl) rfl ?_
        refine sqo rfl fun K71 hK72 => ow_call (X := []) (L := (mX m (v + 1 + N.remV h k (N.kid n ((chunkN h l : Nat) : Int)) (l + 1)) (c + N.remC h k (N.kid n ((chunkN h l : Nat) : Int)) (l + 1)) ++ ([⟨b5, #[.int .u64 ((h : Nat) : Int), kv, (mV m)], 188⟩] : List Bx))) (lb := []) hs49 (without_node_ok (ht.up le51) (hn.up le51) hw.fit hmlt (((chunkN h l) : Nat) : Int) hszp) (by kernel_rfl) rfl rfl rfl rfl rfl ?_
        rintro v73 G2 X1 w75 hn74 le78 hs76 hid77
        obtain rfl : X1 = [] := List.map_eq_nil_iff.1 hid77
        replace hs76 : St w0 I (ids (mX m (v) (c))) G2 (mX m (v + 1 + N.remV h k (N.kid n ((chunkN h l : Nat) : Int)) (l + 1)) (c + N.remC h k (N.kid n ((chunkN h l : Nat) : Int)) (l + 1)) ++ ([⟨b5, #[.int .u64 ((h : Nat) : Int), kv, (mV m)], 188⟩] : List Bx)) w75 := hs76
        clear hs49 hid77
        refine hK72 _ _ ?_; clear hK72 K71
        refine sq (r_assign rfl) rfl ?_
        refine sq (r_assign rfl) rfl ?_
        refine wl_nil ?_
        refine hK70 _ _ ?_; (try clear hK70 K69)
        refine wp_ret ?_
        exact leave (X' := mX m (v + 1 + N.remV h k (N.kid n ((chunkN h l : Nat) : Int)) (l + 1)) (c + N.remC h k (N.kid n ((chunkN h l : Nat) : Int)) (l + 1))) (L := [⟨b5, #[.int .u64 ((h : Nat) : Int), kv, (mV m)], 188⟩]) hs76 (mX_ids _ _ _ _ _) (res_many (vs := [v73, .bool true]) rfl (.tmp rfl rfl (.tmp rfl rfl .nil)) rfl) (by have hnil := ((show r.isN = true by rw [← NodeAt.isN hu62]; assumption)); subst hbe; have e : N.rem h k (N.branch bm bk) l = some (N.collapse (N.pick (N.branch bm bk) (andNot 32 bm (bitN ((chunkN h l : Nat) : Int))))) := (by rw [N.rem, if_neg hhas, hr]; simp only [Option.map_some, hnil, if_true]); exact ⟨_, by rw [e]; rfl, by rw [e]; exact hn74, mX_congr (by rw [N.remV, if_neg hhas]; omega) (by rw [N.remC, if_neg hhas])⟩)
      ·
        refine wp_skip ?_
        refine hK64 _ _ ?_; (try clear hK64 K63)
        refine wp_seq_k fun K79 hK80 => ?_
        refine wl_begin ?_
        refine sq (r_move rfl) rfl ?_
        refine sq (r_move rfl) rfl ?_
        refine sq (r_move rfl) rfl ?_
        refine sqo rfl fun K81 hK82 => ow_call (X := []) (L := (mX m (v + 1 + N.remV h k (N.kid n ((chunkN h l : Nat) : Int)) (l + 1)) (c + N.remC h k (N.kid n ((chunkN h l : Nat) : Int)) (l + 1)) ++ ([⟨b5, #[.int .u64 ((h : Nat) : Int), kv, (mV m)], 188⟩] : List Bx))) (lb := []) hs49 (with_node_ok (ht.up le51) (hn.up le51) hu62 hw.fit hmlt (((chunkN h l) : Nat) : Int) (hszw r hr)) (by kernel_rfl) rfl rfl rfl rfl rfl ?_
        rintro v83 G3 X1 w85 hn84 le88 hs86 hid87
        obtain rfl : X1 = [] := List.map_eq_nil_iff.1 hid87
        replace hs86 : St w0 I (ids (mX m (v) (c))) G3 (mX m (v + 1 + N.remV h k (N.kid n ((chunkN h l : Nat) : Int)) (l + 1)) (c + N.remC h k (N.kid n ((chunkN h l : Nat) : Int)) (l + 1)) ++ ([⟨b5, #[.int .u64 ((h : Nat) : Int), kv, (mV m)], 188⟩] : List Bx)) w85 := hs86
        clear hs49 hid87
        refine hK82 _ _ ?_; clear hK82 K81
        refine sqo rfl fun K89 hK90 => ow_call (X := []) (L := (mX m (v + 1 + N.remV h k (N.kid n ((chunkN h l : Nat) : Int)) (l + 1)) (c + N.remC h k (N.kid n ((chunkN h l : Nat) : Int)) (l + 1)) ++ ([⟨b5, #[.int .u64 ((h : Nat) : Int), kv, (mV m)], 188⟩] : List Bx))) (lb := []) hs86 (collapse_ok (ht.up (le51.trans le88)) hn84 (N.mk_fit _ _) (N.mk_map_lt (Nat.or_lt_two_pow hmlt (bitN_lt _)) _) (N.mk_kid _ _)) (by kernel_rfl) rfl rfl rfl rfl rfl ?_
        rintro v91 G4 X1 w93 hn92 le96 hs94 hid95
        obtain rfl : X1 = [] := List.map_eq_nil_iff.1 hid95
        replace hs94 : St w0 I (ids (mX m (v) (c))) G4 (mX m (v + 1 + N.remV h k (N.kid n ((chunkN h l : Nat) : Int)) (l + 1)) (c + N.remC h k (N.kid n ((chunkN h l : Nat) : Int)) (l + 1)) ++ ([⟨b5, #[.int .u64 ((h : Nat) : Int), kv, (mV m)], 188⟩] : List Bx)) w93 := hs94
        clear hs86 hid95
        refine hK90 _ _ ?_; clear hK90 K89
        refine sq (r_assign rfl) rfl ?_
        refine sq (r_assign rfl) rfl ?_
        refine wl_nil ?_
        refine hK80 _ _ ?_; (try clear hK80 K79)
        refine wp_ret ?_
        exact leave (X' := mX m (v + 1 + N.remV h k (N.kid n ((chunkN h l : Nat) : Int)) (l + 1)) (c + N.remC h k (N.kid n ((chunkN h l : Nat) : Int)) (l + 1))) (L := [⟨b5, #[.int .u64 ((h : Nat) : Int), kv, (mV m)], 188⟩]) hs94 (mX_ids _ _ _ _ _) (res_many (vs := [v91, .bool true]) rfl (.tmp rfl rfl (.tmp rfl rfl .nil)) rfl) (by have hnil := ((show r.isN = false by rw [← NodeAt.isN hu62]; assumption)); subst hbe; have e : N.rem h k (N.branch bm bk) l = some (N.collapse (N.withK (N.branch bm bk) ((chunkN h l : Nat) : Int) r)) := (by rw [N.rem, if_neg hhas, hr]; simp only [Option.map_some, hnil, if_true]; rfl); exact ⟨_, by rw [e]; rfl, by rw [e]; exact hn92, mX_congr (by rw [N.remV, if_neg hhas]; omega) (by rw [N.remC, if_neg hhas])⟩)
set_option maxRecDepth 100000 in
theorem from1_ok {I : GH} {m : Option Nat} {v c : Nat} {n : N} {nv kv : Value} {h l q : Nat} {k : Bs} (ht : TabG I) (hh : h < 2 ^ 64) (h1 : k.length ≤ 1000000) (hw : N.WF l q n) (hsz : n.size ≤ 999000) (hn : NodeAt I nv n) (hk : BytesAt I kv k)
    (hrec : ∀ (bm : Nat) (bk : List N), n = .branch bm bk → ∀ {J : GH} {u kv : Value} {v c : Nat}, I.le J → NodeAt J u (N.kid n ((chunkN h l : Nat) : Int)) → BytesAt J kv k →
      Fn Tryd.prog 109 #[.agg #[.int .u64 ((h : Nat) : Int), kv, mV m], u, .int .i64 ((l + 1 : Nat) : Int)] J (mX m v c) (RemR m h k (N.kid n ((chunkN h l : Nat) : Int)) (l + 1) v c)) :
    Fn Tryd.prog 109 #[.agg #[.int .u64 ((h : Nat) : Int), kv, mV m], nv, .int .i64 ((l : Nat) : Int)] I (mX m v c) (RemR m h k n l v c) := by
  have hpsm := hw.pair_sm
  refine enter (args := [.agg #[.int .u64 ((h : Nat) : Int), kv, (mV m)], nv, .int .i64 ((l : Nat) : Int)]) Tryd.func109 rfl rfl fun w0 hs0 => ?_
  replace hs0 : St w0 I (ids (mX m (v) (c))) I (mX m (v) (c) ++ []) w0 := by simpa using hs0
  refine wp_seq_k fun K1 hK2 => ?_
  refine wl_begin ?_
  refine sqo rfl fun K3 hK4 => ow_newbox (mk := fun b => .pointer (some ⟨b, 0, none⟩)) hs0 (r_box rfl rfl) rfl ?_
  rintro b5 w6 (hs7 : St w0 I (ids (mX m (v) (c))) I (⟨b5, #[.int .u64 ((h : Nat) : Int), kv, (mV m)], 188⟩ :: (mX m (v) (c) ++ [])) w6)
  clear hs0
  refine hK4 _ _ ?_; clear hK4 K3
  refine sq (r_assign rfl) rfl ?_
  refine sq (r_assign rfl) rfl ?_
  refine wl_nil ?_
  refine hK2 _ _ ?_; (try clear hK2 K1)
  refine wp_seq_k fun K8 hK9 => ?_
  refine wp_block ?_
  refine wp_seq_k fun K10 hK11 => ?_
  refine wl_begin ?_
  refine sq (r_move rfl) rfl ?_
  refine sq (r_eqf rfl (by kernel_rfl) rfl hn.pif) rfl ?_
  refine sq (r_assign rfl) rfl ?_
  refine wl_nil ?_
  refine hK11 _ _ ?_; (try clear hK11 K10)
  refine condS rfl rfl (fun h12 => ?_) (fun h12 => ?_)
  ·
    have hbe : n = .none := N.isN_iff.1 (by rw [← hn.isN]; assumption)
    refine wp_seq_k fun K13 hK14 => ?_
    refine wl_begin ?_
    refine sq (r_assign rfl) rfl ?_
    refine sq (r_assign rfl) rfl ?_
    refine wl_nil ?_
    refine hK14 _ _ ?_; (try clear hK14 K13)
    refine wp_ret ?_
    have hs15 : St w0 I (ids (mX m (v) (c))) I (mX m (v) (c) ++ ([⟨b5, #[.int .u64 ((h : Nat) : Int), kv, (mV m)], 188⟩] : List Bx)) w6 := hs7.perm (List.Perm.trans ((List.Perm.refl _).cons _) (List.perm_middle (l₁ := (mX m (v) (c) : List Bx)) (a := (⟨b5, #[.int .u64 ((h : Nat) : Int), kv, (mV m)], 188⟩ : Bx)) (l₂ := [])).symm); clear hs7
    exact leave (X' := mX m (v) (c)) (L := [⟨b5, #[.int .u64 ((h : Nat) : Int), kv, (mV m)], 188⟩]) hs15 (mX_ids _ _ _ _ _) (res_many (vs := [.nilIface, .bool false]) rfl (.tmp rfl rfl (.tmp rfl rfl .nil)) rfl) (by subst hbe; obtain ⟨q1, q2, q3⟩ := N.remN_eq (h := h) (k := k) (l := l); exact ⟨_, by rw [q1]; rfl, by rw [q1]; exact rfl, mX_congr (by rw [q2]; rfl) (by rw [q3]; rfl)⟩)
  ·
    have hnn : n.isN = false := by rw [← hn.isN]; assumption
    refine wp_seq_k fun K16 hK17 => ?_
    refine wl_begin ?_
    refine sq (r_move rfl) rfl ?_
    refine sqo rfl fun K18 hK19 => ow_kind (L := (⟨b5, #[.int .u64 ((h : Nat) : Int), kv, (mV m)], 188⟩ :: (mX m (v) (c) ++ []))) hs7 hn (N.ne_of hnn) rfl rfl rfl ?_
    rintro _ _ X1 w20 ⟨rfl, rfl⟩ - hs21 hid22
    obtain rfl : X1 = [] := List.map_eq_nil_iff.1 hid22
    replace hs21 : St w0 I (ids (mX m (v) (c))) I (⟨b5, #[.int .u64 ((h : Nat) : Int), kv, (mV m)], 188⟩ :: (mX m (v) (c) ++ [])) w20 := hs21
    clear hs7 hid22
    refine hK19 _ _ ?_; clear hK19 K18
    refine sq (r_eqi rfl rfl rfl rfl) rfl ?_
    refine sq (r_assign rfl) rfl ?_
    refine wl_nil ?_
    refine hK17 _ _ ?_; (try clear hK17 K16)
    refine condS rfl rfl (fun h23 => ?_) (fun h23 => ?_)
    ·
      have p24 := of_decide_eq_true h23
      obtain ⟨bm, bk, hbe⟩ := N.of_kind3 (n := n) (by omega)
      refine wp_seq_k fun K25 hK26 => ?_
      refine wl_begin ?_
      refine sq (r_loadN (m := 3) rfl (by kernel_rfl) rfl (hs21.box (.head _)) rfl rfl) rfl ?_
      refine sq (r_move rfl) rfl ?_
      refine sq (r_move rfl) rfl ?_
      have hs31 : St w0 I (ids (mX m (v) (c))) I (mX m (v) (c) ++ ([⟨b5, #[.int .u64 ((h : Nat) : Int), kv, (mV m)], 188⟩] : List Bx)) w20 := hs21.perm (List.Perm.trans ((List.Perm.refl _).cons _) (List.perm_middle (l₁ := (mX m (v) (c) : List Bx)) (a := (⟨b5, #[.int .u64 ((h : Nat) : Int), kv, (mV m)], 188⟩ : Bx)) (l₂ := [])).symm); clear hs21
      refine sqo rfl fun K27 hK28 => ow_call (X := mX m (v) (c)) (L := [⟨b5, #[.int .u64 ((h : Nat) : Int), kv, (mV m)], 188⟩]) (lb := []) hs31 (cutbranch_ok ht hh h1 hw hsz hn hk hbe (hrec bm bk hbe)) (by kernel_rfl) rfl rfl rfl rfl rfl ?_
      rintro _ G1 X1 w32 ⟨u29, rfl, hn30, rfl⟩ le35 hs33 hid34
      replace hs33 : St w0 I (ids (mX m (v) (c))) G1 (mX m (v + N.remV h k n l) (c + N.remC h k n l) ++ ([⟨b5, #[.int .u64 ((h : Nat) : Int), kv, (mV m)], 188⟩] : List Bx)) w32 := hs33
      clear hs31 hid34
      refine hK28 _ _ ?_; clear hK28 K27
      refine sq (r_extract rfl rfl rfl) rfl ?_
      refine sq (r_extract rfl rfl rfl) rfl ?_
      refine sq (r_assign rfl) rfl ?_
      refine sq (r_assign rfl) rfl ?_
      refine wl_nil ?_
      refine hK26 _ _ ?_; (try clear hK26 K25)
      refine wp_ret ?_
      exact leave (X' := mX m (v + N.remV h k n l) (c + N.remC h k n l)) (L := [⟨b5, #[.int .u64 ((h : Nat) : Int), kv, (mV m)], 188⟩]) hs33 (mX_ids _ _ _ _ _) (res_many (vs := [u29, .bool ((N.rem h k n l).isSome)]) rfl (.tmp rfl rfl (.tmp rfl rfl .nil)) rfl) ⟨_, rfl, hn30, rfl⟩
    ·
      have p36 := of_decide_eq_false h23
      refine wp_seq_k fun K37 hK38 => ?_
      refine wl_begin ?_
      refine sq (r_move rfl) rfl ?_
      refine sqo rfl fun K39 hK40 => ow_kind (L := (⟨b5, #[.int .u64 ((h : Nat) : Int), kv, (mV m)], 188⟩ :: (mX m (v) (c) ++ []))) hs21 hn (N.ne_of hnn) rfl rfl rfl ?_
      rintro _ _ X1 w41 ⟨rfl, rfl⟩ - hs42 hid43
      obtain rfl : X1 = [] := List.map_eq_nil_iff.1 hid43
      replace hs42 : St w0 I (ids (mX m (v) (c))) I (⟨b5, #[.int .u64 ((h : Nat) : Int), kv, (mV m)], 188⟩ :: (mX m (v) (c) ++ [])) w41 := hs42
      clear hs21 hid43
      refine hK40 _ _ ?_; clear hK40 K39
      refine sq (r_eqi rfl rfl rfl rfl) rfl ?_
      refine sq (r_assign rfl) rfl ?_
      refine wl_nil ?_
      refine hK38 _ _ ?_; (try clear hK38 K37)
      refine condS rfl rfl (fun h44 => ?_) (fun h44 => ?_)
      ·
        have p45 := of_decide_eq_true h44
        obtain ⟨g0, k0, x0, hbe⟩ := N.of_kind1 (n := n) (by omega)
        have hhs : n.hash.isSome = true := by rw [hbe]; rfl
        have hhe : n.hash.getD 0 < 2 ^ 64 := hw.hash_lt
        refine nrm (vals := [(0, .agg #[.int .u64 ((h : Nat) : Int), kv, (mV m)]), (1, nv), (2, .int .i64 ((l : Nat) : Int)), (3, .pointer (some ⟨b5, 0, none⟩)), (6, .nilIface), (7, .bool false), (16, .bool (isNilIf nv)), (19, .bool (decide ((((N.kind n) : Nat) : Int) = 3))), (29, .bool (decide ((((N.kind n) : Nat) : Int) = 1)))]) (.cons rfl (.cons rfl (.cons rfl (.cons rfl (.cons rfl (.cons rfl (.cons rfl (.cons rfl (.cons rfl .nil))))))))) fun g46 => ?_
        refine wl_begin ?_
        refine sq (r_fieldAddr (off := 2) rfl (by kernel_rfl) rfl) rfl ?_
        refine sq (r_load rfl (by kernel_rfl) rfl (hs42.box (.head _)) rfl) rfl ?_
        have hs49 : St w0 I (ids (mX m (v) (c))) I (mX m (v) (c) ++ ([⟨b5, #[.int .u64 ((h : Nat) : Int), kv, (mV m)], 188⟩] : List Bx)) w41 := hs42.perm (List.Perm.trans ((List.Perm.refl _).cons _) (List.perm_middle (l₁ := (mX m (v) (c) : List Bx)) (a := (⟨b5, #[.int .u64 ((h : Nat) : Int), kv, (mV m)], 188⟩ : Bx)) (l₂ := [])).symm); clear hs42
        refine sqo rfl fun K47 hK48 => ow_call (X := mX m (v) (c)) (L := [⟨b5, #[.int .u64 ((h : Nat) : Int), kv, (mV m)], 188⟩]) (lb := []) hs49 (visit_ok) (by kernel_rfl) rfl rfl rfl rfl rfl ?_
        rintro _ _ X1 w50 ⟨rfl, rfl⟩ - hs51 hid52
        replace hs51 : St w0 I (ids (mX m (v) (c))) I (mX m (v + 1) (c) ++ ([⟨b5, #[.int .u64 ((h : Nat) : Int), kv, (mV m)], 188⟩] : List Bx)) w50 := hs51
        clear hs49 hid52
        refine hK48 _ _ ?_; clear hK48 K47
        refine wl_nil ?_
        refine hK9 _ _ ?_; (try clear hK9 K8)
        refine wp_seq_k fun K53 hK54 => ?_
        refine wp_seq_k fun K55 hK56 => ?_
        refine wl_begin ?_
        refine sq (r_move rfl) rfl ?_
        refine sqo rfl fun K57 hK58 => ow_call (X := []) (L := (mX m (v + 1) (c) ++ ([⟨b5, #[.int .u64 ((h : Nat) : Int), kv, (mV m)], 188⟩] : List Bx))) (lb := []) hs51 (hash_ok hn) (by kernel_rfl) rfl rfl rfl rfl rfl ?_
        rintro _ _ X1 w59 ⟨rfl, rfl⟩ - hs60 hid61
        obtain rfl : X1 = [] := List.map_eq_nil_iff.1 hid61
        replace hs60 : St w0 I (ids (mX m (v) (c))) I (mX m (v + 1) (c) ++ ([⟨b5, #[.int .u64 ((h : Nat) : Int), kv, (mV m)], 188⟩] : List Bx)) w59 := hs60
        clear hs51 hid61
        refine hK58 _ _ ?_; clear hK58 K57
        refine sq (r_move rfl) rfl ?_
        refine sq (r_extract rfl rfl rfl) rfl ?_
        refine sq (r_extract rfl rfl rfl) rfl ?_
        refine sq (r_assign rfl) rfl ?_
        refine sq (r_assign rfl) rfl ?_
        refine wl_nil ?_
        refine hK56 _ _ ?_; (try clear hK56 K55)
        refine wp_seq_k fun K62 hK63 => ?_
        refine wl_begin ?_
        refine sq (r_move rfl) rfl ?_
        refine sq (r_fieldAddr (off := 0) rfl (by kernel_rfl) rfl) rfl ?_
        refine sq (r_load rfl (by kernel_rfl) rfl (hs60.box (List.mem_append_right _ (.head _))) rfl) rfl ?_
        refine sq (r_neN (a := (N.hash n).getD 0) (b := h) rfl rfl rfl rfl) rfl ?_
        refine wl_nil ?_
        refine hK63 _ _ ?_; (try clear hK63 K62)
        refine condS rfl rfl (fun h64 => ?_) (fun h64 => ?_)
        ·
          have h65 : (decide ((N.hash n).getD 0 = h)) = false := by simpa using h64
          have p66 := of_decide_eq_false h65
          refine wp_seq_k fun K67 hK68 => ?_
          refine nrm (vals := [(0, .agg #[.int .u64 ((h : Nat) : Int), kv, (mV m)]), (1, nv), (2, .int .i64 ((l : Nat) : Int)), (3, .pointer (some ⟨b5, 0, none⟩)), (6, .nilIface), (7, .bool false), (8, .int .u64 (((N.hash n).getD 0 : Nat) : Int)), (16, .bool (isNilIf nv)), (19, .bool (decide ((((N.kind n) : Nat) : Int) = 3))), (29, .bool (decide ((((N.kind n) : Nat) : Int) = 1))), (44, .bool (!(decide ((N.hash n).getD 0 = h))))]) (.cons rfl (.cons rfl (.cons rfl (.cons rfl (.cons rfl (.cons rfl (.cons rfl (.cons rfl (.cons rfl (.cons rfl (.cons rfl .nil))))))))))) fun g69 => ?_
          refine wl_begin ?_
          refine sq (r_move rfl) rfl ?_
          refine sq (r_assign rfl) rfl ?_
          refine sq (r_assign rfl) rfl ?_
          refine wl_nil ?_
          refine hK68 _ _ ?_; (try clear hK68 K67)
          refine wp_ret ?_
          exact leave (X' := mX m (v + 1) (c)) (L := [⟨b5, #[.int .u64 ((h : Nat) : Int), kv, (mV m)], 188⟩]) hs60 (mX_ids _ _ _ _ _) (res_many (vs := [nv, .bool false]) rfl (.tmp rfl rfl (.tmp rfl rfl .nil)) rfl) (by subst hbe; obtain ⟨q1, q2, q3⟩ := N.remLF (h := h) (k := k) (l := l) (g := g0) (k0 := k0) (x0 := x0) (by assumption); exact ⟨_, by rw [q1]; rfl, by rw [q1]; exact hn, mX_congr (by rw [q2]) (by rw [q3]; rfl)⟩)
        ·
          have h70 : (decide ((N.hash n).getD 0 = h)) = true := by simpa using h64
          have p71 := of_decide_eq_true h70
          refine wp_skip ?_
          refine hK54 _ _ ?_; (try clear hK54 K53)
          refine wp_seq_k fun K72 hK73 => ?_
          refine wp_seq_k fun K74 hK75 => ?_
          refine nrm (vals := [(0, .agg #[.int .u64 ((h : Nat) : Int), kv, (mV m)]), (1, nv), (2, .int .i64 ((l : Nat) : Int)), (3, .pointer (some ⟨b5, 0, none⟩)), (6, .nilIface), (7, .bool false), (8, .int .u64 (((N.hash n).getD 0 : Nat) : Int)), (16, .bool (isNilIf nv)), (19, .bool (decide ((((N.kind n) : Nat) : Int) = 3))), (29, .bool (decide ((((N.kind n) : Nat) : Int) = 1))), (44, .bool (!(decide ((N.hash n).getD 0 = h))))]) (.cons rfl (.cons rfl (.cons rfl (.cons rfl (.cons rfl (.cons rfl (.cons rfl (.cons rfl (.cons rfl (.cons rfl (.cons rfl .nil))))))))))) fun g76 => ?_
          refine wl_begin ?_
          refine sq (r_move rfl) rfl ?_
          refine sqo rfl fun K77 hK78 => ow_call (X := []) (L := (mX m (v + 1) (c) ++ ([⟨b5, #[.int .u64 ((h : Nat) : Int), kv, (mV m)], 188⟩] : List Bx))) (lb := []) hs60 (pair_of_ok hn hpsm) (by kernel_rfl) rfl rfl rfl rfl rfl ?_
          rintro _ G2 X1 w83 ⟨kv79, xv80, rfl, hk81, hx82⟩ le86 hs84 hid85
          obtain rfl : X1 = [] := List.map_eq_nil_iff.1 hid85
          replace hs84 : St w0 I (ids (mX m (v) (c))) G2 (mX m (v + 1) (c) ++ ([⟨b5, #[.int .u64 ((h : Nat) : Int), kv, (mV m)], 188⟩] : List Bx)) w83 := hs84
          clear hs60 hid85
          refine hK78 _ _ ?_; clear hK78 K77
          refine sq (r_move rfl) rfl ?_
          refine sq (r_extract rfl rfl rfl) rfl ?_
          refine sq (r_extract rfl rfl rfl) rfl ?_
          refine sqo rfl fun K87 hK88 => ow_newbox (mk := fun b => .pointer (some ⟨b, 0, none⟩)) hs84 (r_alloc (cs := [.slice none 0 0, .slice none 0 0]) (by kernel_rfl)) rfl ?_
          rintro b89 w90 (hs91 : St w0 I (ids (mX m (v) (c))) G2 (⟨b89, #[.slice none 0 0, .slice none 0 0], 56⟩ :: (mX m (v + 1) (c) ++ ([⟨b5, #[.int .u64 ((h : Nat) : Int), kv, (mV m)], 188⟩] : List Bx))) w90)
          clear hs84
          refine hK88 _ _ ?_; clear hK88 K87
          refine sqo rfl fun K92 hK93 => ow_store (vs := [kv79, xv80]) hs91 rfl rfl (by kernel_rfl) rfl rfl (.cons (hk81).one (.cons (hx82).one .nil)) rfl ?_
          rintro w94 (hs95 : St w0 I (ids (mX m (v) (c))) G2 (⟨b89, #[kv79, xv80], 56⟩ :: (mX m (v + 1) (c) ++ ([⟨b5, #[.int .u64 ((h : Nat) : Int), kv, (mV m)], 188⟩] : List Bx))) w94)
          clear hs91
          refine hK93 _ _ ?_; clear hK93 K92
          refine sq (r_assign rfl) rfl ?_
          refine wl_nil ?_
          refine hK75 _ _ ?_; (try clear hK75 K74)
          refine wp_seq_k fun K96 hK97 => ?_
          refine wl_begin ?_
          refine sq (r_move rfl) rfl ?_
          refine wl_nil ?_
          refine hK97 _ _ ?_; (try clear hK97 K96)
          refine condS rfl rfl (fun h98 => ?_) (fun h98 => ?_)
          ·
            have p99 := of_decide_eq_true h98
            refine wp_seq_k fun K100 hK101 => ?_
            refine wp_seq_k fun K102 hK103 => ?_
            refine wl_begin ?_
            refine sq (r_fieldAddr (off := 2) rfl (by kernel_rfl) rfl) rfl ?_
            refine sq (r_load rfl (by kernel_rfl) rfl (hs95.box (.tail _ (List.mem_append_right _ (.head _)))) rfl) rfl ?_
            refine sq (r_fieldAddr (off := 1) rfl (by kernel_rfl) rfl) rfl ?_
            refine sq (r_load rfl (by kernel_rfl) rfl (hs95.box (.tail _ (List.mem_append_right _ (.head _)))) rfl) rfl ?_
            refine sq (r_fieldAddr (off := 0) rfl (by kernel_rfl) rfl) rfl ?_
            refine sq (r_load rfl (by kernel_rfl) rfl (hs95.box (.head _)) rfl) rfl ?_
            have hs106 : St w0 I (ids (mX m (v) (c))) G2 (mX m (v + 1) (c) ++ ([⟨b89, #[kv79, xv80], 56⟩, ⟨b5, #[.int .u64 ((h : Nat) : Int), kv, (mV m)], 188⟩] : List Bx)) w94 := hs95.perm (List.Perm.trans ((List.Perm.refl _).cons _) (List.perm_middle (l₁ := (mX m (v + 1) (c) : List Bx)) (a := (⟨b89, #[kv79, xv80], 56⟩ : Bx)) (l₂ := [⟨b5, #[.int .u64 ((h : Nat) : Int), kv, (mV m)], 188⟩])).symm); clear hs95
            refine sqo rfl fun K104 hK105 => ow_call (X := mX m (v + 1) (c)) (L := [⟨b89, #[kv79, xv80], 56⟩, ⟨b5, #[.int .u64 ((h : Nat) : Int), kv, (mV m)], 188⟩]) (lb := []) hs106 (mcmp_ok (hk.up le86) hk81) (by kernel_rfl) rfl rfl rfl rfl rfl ?_
            rintro _ _ X1 w107 ⟨rfl, rfl, rfl⟩ - hs108 hid109
            replace hs108 : St w0 I (ids (mX m (v) (c))) G2 (mX m (v + 1) (c + 1) ++ ([⟨b89, #[kv79, xv80], 56⟩, ⟨b5, #[.int .u64 ((h : Nat) : Int), kv, (mV m)], 188⟩] : List Bx)) w107 := hs108
            clear hs106 hid109
            refine hK105 _ _ ?_; clear hK105 K104
            refine sq (r_nei rfl rfl rfl rfl) rfl ?_
            refine wl_nil ?_
            refine hK103 _ _ ?_; (try clear hK103 K102)
            refine condS rfl rfl (fun h110 => ?_) (fun h110 => ?_)
            ·
              have h111 : (decide ((cmpB k ((N.pair n).1)) = 0)) = false := by simpa using h110
              have p112 := of_decide_eq_false h111
              refine wp_seq_k fun K113 hK114 => ?_
              refine nrm (vals := [(0, .agg #[.int .u64 ((h : Nat) : Int), kv, (mV m)]), (1, nv), (2, .int .i64 ((l : Nat) : Int)), (3, .pointer (some ⟨b5, 0, none⟩)), (6, .nilIface), (7, .bool false), (8, .int .u64 (((N.hash n).getD 0 : Nat) : Int)), (10, .pointer (some ⟨b89, 0, none⟩)), (11, .bool (decide (N.kind n = 1))), (16, .bool (isNilIf nv)), (19, .bool (decide ((((N.kind n) : Nat) : Int) = 3))), (29, .bool (decide ((((N.kind n) : Nat) : Int) = 1))), (44, .bool (!(decide ((N.hash n).getD 0 = h)))), (51, .bool (decide (N.kind n = 1))), (59, .bool (!(decide ((cmpB k ((N.pair n).1)) = 0))))]) (.cons rfl (.cons rfl (.cons rfl (.cons rfl (.cons rfl (.cons rfl (.cons rfl (.cons rfl (.cons rfl (.cons rfl (.cons rfl (.cons rfl (.cons rfl (.cons rfl (.cons rfl .nil))))))))))))))) fun g115 => ?_
              refine wl_begin ?_
              refine sq (r_move rfl) rfl ?_
              refine sq (r_assign rfl) rfl ?_
              refine sq (r_assign rfl) rfl ?_
              refine wl_nil ?_
              refine hK114 _ _ ?_; (try clear hK114 K113)
              refine wp_ret ?_
              exact leave (X' := mX m (v + 1) (c + 1)) (L := [⟨b89, #[kv79, xv80], 56⟩, ⟨b5, #[.int .u64 ((h : Nat) : Int), kv, (mV m)], 188⟩]) hs108 (mX_ids _ _ _ _ _) (res_many (vs := [nv, .bool false]) rfl (.tmp rfl rfl (.tmp rfl rfl .nil)) rfl) (by subst hbe; obtain ⟨q1, q2, q3⟩ := N.remLN (h := h) (k := k) (l := l) (g := g0) (k0 := k0) (x0 := x0) (by assumption) (by assumption); exact ⟨_, by rw [q1]; rfl, by rw [q1]; exact (hn.up le86), mX_congr (by rw [q2]) (by rw [q3])⟩)
            ·
              have h116 : (decide ((cmpB k ((N.pair n).1)) = 0)) = true := by simpa using h110
              have p117 := of_decide_eq_true h116
              refine wp_skip ?_
              refine hK101 _ _ ?_; (try clear hK101 K100)
              refine wp_seq_k fun K118 hK119 => ?_
              refine nrm (vals := [(0, .agg #[.int .u64 ((h : Nat) : Int), kv, (mV m)]), (1, nv), (2, .int .i64 ((l : Nat) : Int)), (3, .pointer (some ⟨b5, 0, none⟩)), (6, .nilIface), (7, .bool false), (8, .int .u64 (((N.hash n).getD 0 : Nat) : Int)), (10, .pointer (some ⟨b89, 0, none⟩)), (11, .bool (decide (N.kind n = 1))), (16, .bool (isNilIf nv)), (19, .bool (decide ((((N.kind n) : Nat) : Int) = 3))), (29, .bool (decide ((((N.kind n) : Nat) : Int) = 1))), (44, .bool (!(decide ((N.hash n).getD 0 = h)))), (51, .bool (decide (N.kind n = 1))), (59, .bool (!(decide ((cmpB k ((N.pair n).1)) = 0))))]) (.cons rfl (.cons rfl (.cons rfl (.cons rfl (.cons rfl (.cons rfl (.cons rfl (.cons rfl (.cons rfl (.cons rfl (.cons rfl (.cons rfl (.cons rfl (.cons rfl (.cons rfl .nil))))))))))))))) fun g120 => ?_
              refine wl_begin ?_
              refine sq (r_assign rfl) rfl ?_
              refine sq (r_assign rfl) rfl ?_
              refine wl_nil ?_
              refine hK119 _ _ ?_; (try clear hK119 K118)
              refine wp_ret ?_
              exact leave (X' := mX m (v + 1) (c + 1)) (L := [⟨b89, #[kv79, xv80], 56⟩, ⟨b5, #[.int .u64 ((h : Nat) : Int), kv, (mV m)], 188⟩]) hs108 (mX_ids _ _ _ _ _) (res_many (vs := [.nilIface, .bool true]) rfl (.tmp rfl rfl (.tmp rfl rfl .nil)) rfl) (by subst hbe; obtain ⟨q1, q2, q3⟩ := N.remLS (h := h) (k := k) (l := l) (g := g0) (k0 := k0) (x0 := x0) (by assumption) (by assumption); exact ⟨_, by rw [q1]; rfl, by rw [q1]; exact rfl, mX_congr (by rw [q2]) (by rw [q3])⟩)
          ·
            have p121 := of_decide_eq_false h98
            omega
      ·
        have p122 := of_decide_eq_false h44
        obtain ⟨g0, t, hbe⟩ := N.of_rest hnn (by omega) (by omega)
        have hsm : T.Sm t.toList := by rw [hbe] at hw; exact hw.tree_sm
        have hhs : n.hash.isSome = true := by rw [hbe]; rfl
        have hhe : n.hash.getD 0 < 2 ^ 64 := hw.hash_lt
        refine wp_skip ?_
        refine hK9 _ _ ?_; (try clear hK9 K8)
        refine wp_seq_k fun K123 hK124 => ?_
        refine wp_seq_k fun K125 hK126 => ?_
        refine nrm (vals := [(0, .agg #[.int .u64 ((h : Nat) : Int), kv, (mV m)]), (1, nv), (2, .int .i64 ((l : Nat) : Int)), (3, .pointer (some ⟨b5, 0, none⟩)), (6, .nilIface), (7, .bool false), (16, .bool (isNilIf nv)), (19, .bool (decide ((((N.kind n) : Nat) : Int) = 3))), (29, .bool (decide ((((N.kind n) : Nat) : Int) = 1)))]) (.cons rfl (.cons rfl (.cons rfl (.cons rfl (.cons rfl (.cons rfl (.cons rfl (.cons rfl (.cons rfl .nil))))))))) fun g127 => ?_
        refine wl_begin ?_
        refine sq (r_move rfl) rfl ?_
        refine sqo rfl fun K128 hK129 => ow_call (X := []) (L := (⟨b5, #[.int .u64 ((h : Nat) : Int), kv, (mV m)], 188⟩ :: (mX m (v) (c) ++ []))) (lb := []) hs42 (hash_ok hn) (by kernel_rfl) rfl rfl rfl rfl rfl ?_
        rintro _ _ X1 w130 ⟨rfl, rfl⟩ - hs131 hid132
        obtain rfl : X1 = [] := List.map_eq_nil_iff.1 hid132
        replace hs131 : St w0 I (ids (mX m (v) (c))) I (⟨b5, #[.int .u64 ((h : Nat) : Int), kv, (mV m)], 188⟩ :: (mX m (v) (c) ++ [])) w130 := hs131
        clear hs42 hid132
        refine hK129 _ _ ?_; clear hK129 K128
        refine sq (r_move rfl) rfl ?_
        refine sq (r_extract rfl rfl rfl) rfl ?_
        refine sq (r_extract rfl rfl rfl) rfl ?_
        refine sq (r_assign rfl) rfl ?_
        refine sq (r_assign rfl) rfl ?_
        refine wl_nil ?_
        refine hK126 _ _ ?_; (try clear hK126 K125)
        refine wp_seq_k fun K133 hK134 => ?_
        refine wl_begin ?_
        refine sq (r_move rfl) rfl ?_
        refine sq (r_fieldAddr (off := 0) rfl (by kernel_rfl) rfl) rfl ?_
        refine sq (r_load rfl (by kernel_rfl) rfl (hs131.box (.head _)) rfl) rfl ?_
        refine sq (r_neN (a := (N.hash n).getD 0) (b := h) rfl rfl rfl rfl) rfl ?_
        refine wl_nil ?_
        refine hK134 _ _ ?_; (try clear hK134 K133)
        refine condS rfl rfl (fun h135 => ?_) (fun h135 => ?_)
        ·
          have h136 : (decide ((N.hash n).getD 0 = h)) = false := by simpa using h135
          have p137 := of_decide_eq_false h136
          refine wp_seq_k fun K138 hK139 => ?_
          refine wl_begin ?_
          refine sq (r_move rfl) rfl ?_
          refine sq (r_assign rfl) rfl ?_
          refine sq (r_assign rfl) rfl ?_
          refine wl_nil ?_
          refine hK139 _ _ ?_; (try clear hK139 K138)
          refine wp_ret ?_
          have hs140 : St w0 I (ids (mX m (v) (c))) I (mX m (v) (c) ++ ([⟨b5, #[.int .u64 ((h : Nat) : Int), kv, (mV m)], 188⟩] : List Bx)) w130 := hs131.perm (List.Perm.trans ((List.Perm.refl _).cons _) (List.perm_middle (l₁ := (mX m (v) (c) : List Bx)) (a := (⟨b5, #[.int .u64 ((h : Nat) : Int), kv, (mV m)], 188⟩ : Bx)) (l₂ := [])).symm); clear hs131
          exact leave (X' := mX m (v) (c)) (L := [⟨b5, #[.int .u64 ((h : Nat) : Int), kv, (mV m)], 188⟩]) hs140 (mX_ids _ _ _ _ _) (res_many (vs := [nv, .bool false]) rfl (.tmp rfl rfl (.tmp rfl rfl .nil)) rfl) (by subst hbe; obtain ⟨q1, q2, q3⟩ := N.remBF (h := h) (k := k) (l := l) (g := g0) (t := t) (by assumption); exact ⟨_, by rw [q1]; rfl, by rw [q1]; exact hn, mX_congr (by rw [q2]; rfl) (by rw [q3]; rfl)⟩)
        ·
          have h141 : (decide ((N.hash n).getD 0 = h)) = true := by simpa using h135
          have p142 := of_decide_eq_true h141
          refine wp_skip ?_
          refine hK124 _ _ ?_; (try clear hK124 K123)
          refine wp_seq_k fun K143 hK144 => ?_
          refine wp_seq_k fun K145 hK146 => ?_
          refine wl_begin ?_
          refine sq (r_move rfl) rfl ?_
          refine sqo rfl fun K147 hK148 => ow_call (X := []) (L := (⟨b5, #[.int .u64 ((h : Nat) : Int), kv, (mV m)], 188⟩ :: (mX m (v) (c) ++ []))) (lb := []) hs131 (pair_of_ok hn hpsm) (by kernel_rfl) rfl rfl rfl rfl rfl ?_
          rintro _ G3 X1 w153 ⟨kv149, xv150, rfl, hk151, hx152⟩ le156 hs154 hid155
          obtain rfl : X1 = [] := List.map_eq_nil_iff.1 hid155
          replace hs154 : St w0 I (ids (mX m (v) (c))) G3 (⟨b5, #[.int .u64 ((h : Nat) : Int), kv, (mV m)], 188⟩ :: (mX m (v) (c) ++ [])) w153 := hs154
          clear hs131 hid155
          refine hK148 _ _ ?_; clear hK148 K147
          refine sq (r_move rfl) rfl ?_
          refine sq (r_extract rfl rfl rfl) rfl ?_
          refine sq (r_extract rfl rfl rfl) rfl ?_
          refine sqo rfl fun K157 hK158 => ow_newbox (mk := fun b => .pointer (some ⟨b, 0, none⟩)) hs154 (r_alloc (cs := [.slice none 0 0, .slice none 0 0]) (by kernel_rfl)) rfl ?_
          rintro b159 w160 (hs161 : St w0 I (ids (mX m (v) (c))) G3 (⟨b159, #[.slice none 0 0, .slice none 0 0], 56⟩ :: (⟨b5, #[.int .u64 ((h : Nat) : Int), kv, (mV m)], 188⟩ :: (mX m (v) (c) ++ []))) w160)
          clear hs154
          refine hK158 _ _ ?_; clear hK158 K157
          refine sqo rfl fun K162 hK163 => ow_store (vs := [kv149, xv150]) hs161 rfl rfl (by kernel_rfl) rfl rfl (.cons (hk151).one (.cons (hx152).one .nil)) rfl ?_
          rintro w164 (hs165 : St w0 I (ids (mX m (v) (c))) G3 (⟨b159, #[kv149, xv150], 56⟩ :: (⟨b5, #[.int .u64 ((h : Nat) : Int), kv, (mV m)], 188⟩ :: (mX m (v) (c) ++ []))) w164)
          clear hs161
          refine hK163 _ _ ?_; clear hK163 K162
          refine sq (r_assign rfl) rfl ?_
          refine wl_nil ?_
          refine hK146 _ _ ?_; (try clear hK146 K145)
          refine wp_seq_k fun K166 hK167 => ?_
          refine nrm (vals := [(0, .agg #[.int .u64 ((h : Nat) : Int), kv, (mV m)]), (1, nv), (2, .int .i64 ((l : Nat) : Int)), (3, .pointer (some ⟨b5, 0, none⟩)), (6, .nilIface), (7, .bool false), (8, .int .u64 (((N.hash n).getD 0 : Nat) : Int)), (10, .pointer (some ⟨b159, 0, none⟩)), (11, .bool (decide (N.kind n = 1))), (16, .bool (isNilIf nv)), (19, .bool (decide ((((N.kind n) : Nat) : Int) = 3))), (29, .bool (decide ((((N.kind n) : Nat) : Int) = 1))), (44, .bool (!(decide ((N.hash n).getD 0 = h))))]) (.cons rfl (.cons rfl (.cons rfl (.cons rfl (.cons rfl (.cons rfl (.cons rfl (.cons rfl (.cons rfl (.cons rfl (.cons rfl (.cons rfl (.cons rfl .nil))))))))))))) fun g168 => ?_
          refine wl_begin ?_
          refine sq (r_move rfl) rfl ?_
          refine wl_nil ?_
          refine hK167 _ _ ?_; (try clear hK167 K166)
          refine condS rfl rfl (fun h169 => ?_) (fun h169 => ?_)
          ·
            have p170 := of_decide_eq_true h169
            omega
          ·
            have p171 := of_decide_eq_false h169
            refine wp_skip ?_
            refine hK144 _ _ ?_; (try clear hK144 K143)
            refine wp_seq_k fun K172 hK173 => ?_
            refine wl_begin ?_
            refine sq (r_move rfl) rfl ?_
            refine sqo rfl fun K174 hK175 => ow_call (X := []) (L := (⟨b159, #[kv149, xv150], 56⟩ :: (⟨b5, #[.int .u64 ((h : Nat) : Int), kv, (mV m)], 188⟩ :: (mX m (v) (c) ++ [])))) (lb := []) hs165 (tree_ok (hbe ▸ (hn.up le156))) (by kernel_rfl) rfl rfl rfl rfl rfl ?_
            rintro _ _ X1 w178 ⟨p176, rfl, rfl, ht177⟩ - hs179 hid180
            obtain rfl : X1 = [] := List.map_eq_nil_iff.1 hid180
            replace hs179 : St w0 I (ids (mX m (v) (c))) G3 (⟨b159, #[kv149, xv150], 56⟩ :: (⟨b5, #[.int .u64 ((h : Nat) : Int), kv, (mV m)], 188⟩ :: (mX m (v) (c) ++ []))) w178 := hs179
            clear hs165 hid180
            refine hK175 _ _ ?_; clear hK175 K174
            refine sq (r_move rfl) rfl ?_
            refine sq (r_extract rfl rfl rfl) rfl ?_
            refine sq (r_extract rfl rfl rfl) rfl ?_
            refine sq (r_assign rfl) rfl ?_
            refine sq (r_assign rfl) rfl ?_
            refine wl_nil ?_
            refine hK173 _ _ ?_; (try clear hK173 K172)
            refine wp_seq_k fun K181 hK182 => ?_
            have htsz : t.size ≤ 999000 := by rw [hbe] at hsz; exact hsz
            refine wl_begin ?_
            refine sq (r_move rfl) rfl ?_
            refine sq (r_fieldAddr (off := 1) rfl (by kernel_rfl) rfl) rfl ?_
            refine sq (r_load rfl (by kernel_rfl) rfl (hs179.box (.tail _ (.head _))) rfl) rfl ?_
            refine sq (r_fieldAddr (off := 2) rfl (by kernel_rfl) rfl) rfl ?_
            refine sq (r_load rfl (by kernel_rfl) rfl (hs179.box (.tail _ (.head _))) rfl) rfl ?_
            have hs187 : St w0 I (ids (mX m (v) (c))) G3 (mX m (v) (c) ++ ([⟨b159, #[kv149, xv150], 56⟩, ⟨b5, #[.int .u64 ((h : Nat) : Int), kv, (mV m)], 188⟩] : List Bx)) w178 := hs179.perm (List.Perm.trans ((List.Perm.trans ((List.Perm.refl _).cons _) (List.perm_middle (l₁ := (mX m (v) (c) : List Bx)) (a := (⟨b5, #[.int .u64 ((h : Nat) : Int), kv, (mV m)], 188⟩ : Bx)) (l₂ := [])).symm).cons _) (List.perm_middle (l₁ := (mX m (v) (c) : List Bx)) (a := (⟨b159, #[kv149, xv150], 56⟩ : Bx)) (l₂ := [⟨b5, #[.int .u64 ((h : Nat) : Int), kv, (mV m)], 188⟩])).symm); clear hs179
            refine sqo rfl fun K183 hK184 => ow_call (X := mX m (v) (c)) (L := [⟨b159, #[kv149, xv150], 56⟩, ⟨b5, #[.int .u64 ((h : Nat) : Int), kv, (mV m)], 188⟩]) (lb := []) hs187 (delete_ok ht177 (hk.up le156) (by omega) hsm) (by kernel_rfl) rfl rfl rfl rfl rfl ?_
            rintro _ G4 X1 w188 ⟨p185, rfl, ht186, rfl⟩ le191 hs189 hid190
            replace hs189 : St w0 I (ids (mX m (v) (c))) G4 (mX m (v + T.delV t k) (c + T.path t k) ++ ([⟨b159, #[kv149, xv150], 56⟩, ⟨b5, #[.int .u64 ((h : Nat) : Int), kv, (mV m)], 188⟩] : List Bx)) w188 := hs189
            clear hs187 hid190
            refine hK184 _ _ ?_; clear hK184 K183
            refine sq (r_move rfl) rfl ?_
            refine sq (r_extract rfl rfl rfl) rfl ?_
            refine sq (r_extract rfl rfl rfl) rfl ?_
            refine sq (r_assign rfl) rfl ?_
            refine sq (r_assign rfl) rfl ?_
            refine wl_nil ?_
            refine hK182 _ _ ?_; (try clear hK182 K181)
            refine wp_seq_k fun K192 hK193 => ?_
            refine wp_seq_k fun K194 hK195 => ?_
            refine nrm (vals := [(0, .agg #[.int .u64 ((h : Nat) : Int), kv, (mV m)]), (1, nv), (2, .int .i64 ((l : Nat) : Int)), (3, .pointer (some ⟨b5, 0, none⟩)), (6, .nilIface), (7, .bool false), (8, .int .u64 (((N.hash n).getD 0 : Nat) : Int)), (10, .pointer (some ⟨b159, 0, none⟩)), (11, .bool (decide (N.kind n = 1))), (12, .pointer p176), (14, .pointer p185), (15, .bool ((T.del t k).isSome)), (16, .bool (isNilIf nv)), (19, .bool (decide ((((N.kind n) : Nat) : Int) = 3))), (29, .bool (decide ((((N.kind n) : Nat) : Int) = 1))), (44, .bool (!(decide ((N.hash n).getD 0 = h)))), (51, .bool (decide (N.kind n = 1)))]) (.cons rfl (.cons rfl (.cons rfl (.cons rfl (.cons rfl (.cons rfl (.cons rfl (.cons rfl (.cons rfl (.cons rfl (.cons rfl (.cons rfl (.cons rfl (.cons rfl (.cons rfl (.cons rfl (.cons rfl .nil))))))))))))))))) fun g196 => ?_
            refine wl_begin ?_
            refine sq (r_move rfl) rfl ?_
            refine sq (r_not rfl rfl) rfl ?_
            refine wl_nil ?_
            refine hK195 _ _ ?_; (try clear hK195 K194)
            refine condS rfl rfl (fun h197 => ?_) (fun h197 => ?_)
            ·
              have h198 : ((T.del t k).isSome) = false := by simpa using h197
              refine wp_seq_k fun K199 hK200 => ?_
              refine wl_begin ?_
              refine sq (r_move rfl) rfl ?_
              refine sq (r_assign rfl) rfl ?_
              refine sq (r_assign rfl) rfl ?_
              refine wl_nil ?_
              refine hK200 _ _ ?_; (try clear hK200 K199)
              refine wp_ret ?_
              exact leave (X' := mX m (v + T.delV t k) (c + T.path t k)) (L := [⟨b159, #[kv149, xv150], 56⟩, ⟨b5, #[.int .u64 ((h : Nat) : Int), kv, (mV m)], 188⟩]) hs189 (mX_ids _ _ _ _ _) (res_many (vs := [nv, .bool false]) rfl (.tmp rfl rfl (.tmp rfl rfl .nil)) rfl) (by have hd : T.del t k = none := (by simpa using (by assumption : (!(T.del t k).isSome) = true)); subst hbe; obtain ⟨q1, q2, q3⟩ := N.remBS (h := h) (k := k) (l := l) (g := g0) (t := t) (by assumption); exact ⟨_, by rw [q1, hd]; rfl, by rw [q1, hd]; exact (hn.up (le156.trans le191)), mX_congr (by rw [q2]) (by rw [q3])⟩)
            ·
              have h201 : ((T.del t k).isSome) = true := by simpa using h197
              refine wp_skip ?_
              refine hK193 _ _ ?_; (try clear hK193 K192)
              refine wp_seq_k fun K202 hK203 => ?_
              obtain ⟨t2, htd⟩ := Option.isSome_iff_exists.1 (show (T.del t k).isSome = true by first | assumption | (simpa using (by assumption : (!(T.del t k).isSome) = false)))
              refine wl_begin ?_
              refine sq (r_fieldAddr (off := 0) rfl (by kernel_rfl) rfl) rfl ?_
              refine sq (r_load rfl (by kernel_rfl) rfl (hs189.box (List.mem_append_right _ (.tail _ (.head _)))) rfl) rfl ?_
              refine sq (r_move rfl) rfl ?_
              refine sqo rfl fun K204 hK205 => ow_call (X := []) (L := (mX m (v + T.delV t k) (c + T.path t k) ++ ([⟨b159, #[kv149, xv150], 56⟩, ⟨b5, #[.int .u64 ((h : Nat) : Int), kv, (mV m)], 188⟩] : List Bx))) (lb := []) hs189 (bucket_ok (h := h) hh ht186 (T.Sm.getD hsm)) (by kernel_rfl) rfl rfl rfl rfl rfl ?_
              rintro lv206 G5 X1 w208 hn207 le211 hs209 hid210
              obtain rfl : X1 = [] := List.map_eq_nil_iff.1 hid210
              replace hs209 : St w0 I (ids (mX m (v) (c))) G5 (mX m (v + T.delV t k) (c + T.path t k) ++ ([⟨b159, #[kv149, xv150], 56⟩, ⟨b5, #[.int .u64 ((h : Nat) : Int), kv, (mV m)], 188⟩] : List Bx)) w208 := hs209
              clear hs189 hid210
              refine hK205 _ _ ?_; clear hK205 K204
              refine sq (r_assign rfl) rfl ?_
              refine sq (r_assign rfl) rfl ?_
              refine wl_nil ?_
              refine hK203 _ _ ?_; (try clear hK203 K202)
              refine wp_ret ?_
              exact leave (X' := mX m (v + T.delV t k) (c + T.path t k)) (L := [⟨b159, #[kv149, xv150], 56⟩, ⟨b5, #[.int .u64 ((h : Nat) : Int), kv, (mV m)], 188⟩]) hs209 (mX_ids _ _ _ _ _) (res_many (vs := [lv206, .bool true]) rfl (.tmp rfl rfl (.tmp rfl rfl .nil)) rfl) (by subst hbe; obtain ⟨q1, q2, q3⟩ := N.remBS (h := h) (k := k) (l := l) (g := g0) (t := t) (by assumption); exact ⟨_, by rw [q1, htd]; rfl, by rw [q1, htd]; have z := hn207; rw [htd] at z; exact z, mX_congr (by rw [q2]) (by rw [q3])⟩)
theorem from_cut_ok {m : Option Nat} {h : Nat} {k : Bs} (hh : h < 2 ^ 64) (h1 : k.length ≤ 1000000) : ∀ (s : Nat) {I : GH} {v c : Nat} {n : N} {nv kv : Value} {l q : Nat}, SizeOf.sizeOf n < s → TabG I → N.WF l q n → n.size ≤ 999000 → NodeAt I nv n → BytesAt I kv k →
    Fn Tryd.prog 109 #[.agg #[.int .u64 ((h : Nat) : Int), kv, mV m], nv, .int .i64 ((l : Nat) : Int)] I (mX m v c) (RemR m h k n l v c) := by
  intro s
  induction s with
  | zero => intro I v c n nv kv l q hs; omega
  | succ s ih =>
    intro I v c n nv kv l q hs ht hw hsz hn hk
    refine from1_ok ht hh h1 hw hsz hn hk ?_
    intro bm bk hbe J u kv v c hle hu hk
    subst hbe
    exact ih (Nat.lt_of_lt_of_le (N.kid_lt bm bk _) (Nat.le_of_lt_succ hs)) (ht.up hle) (hw.kid (chunkN_lt h l)) (Nat.le_trans (N.kid_size hw.fit (chunkN_lt h l)) hsz) hu hk
set_option maxRecDepth 100000 in
theorem prune_delete_ok {I : GH} {m : Option Nat} {v c : Nat} {n : N} {nv kv : Value} {h : Nat} {k : Bs} (ht : TabG I) (hh : h < 2 ^ 64) (h1 : k.length ≤ 1000000) (hw : N.WF 0 0 n) (hsz : n.size ≤ 999000) (hn : NodeAt I nv n) (hk : BytesAt I kv k) :
    Fn Tryd.prog 78 #[nv, .int .u64 ((h : Nat) : Int), kv, mV m] I (mX m v c) (RemR m h k n 0 v c) := by
  refine enter (args := [nv, .int .u64 ((h : Nat) : Int), kv, (mV m)]) Tryd.func78 rfl rfl fun w0 hs0 => ?_
  replace hs0 : St w0 I (ids (mX m (v) (c))) I (mX m (v) (c) ++ []) w0 := by simpa using hs0
  refine wp_seq_k fun K1 hK2 => ?_
  refine wl_begin ?_
  refine sq (r_assign rfl) rfl ?_
  refine sq (r_assign rfl) rfl ?_
  refine wl_nil ?_
  refine hK2 _ _ ?_; (try clear hK2 K1)
  refine wp_seq_k fun K3 hK4 => ?_
  refine wl_begin ?_
  refine sq (r_move rfl) rfl ?_
  refine sq (r_move rfl) rfl ?_
  refine sq (r_move rfl) rfl ?_
  refine sq (r_build (.cons rfl rfl (.cons rfl (One.cells (hk).one) (.cons rfl (One.cells trivial) .nil))) (cells := #[.int .u64 ((h : Nat) : Int), kv, (mV m)]) (by kernel_rfl)) rfl ?_
  refine sq (r_move rfl) rfl ?_
  refine sqo rfl fun K5 hK6 => ow_call (X := mX m (v) (c)) (L := []) (lb := []) hs0 (from_cut_ok (l := 0) (q := 0) hh h1 _ (Nat.lt_succ_self _) ht hw hsz hn hk) (by kernel_rfl) rfl rfl rfl rfl rfl ?_
  rintro _ G1 X1 w9 ⟨u7, rfl, hn8, rfl⟩ le12 hs10 hid11
  replace hs10 : St w0 I (ids (mX m (v) (c))) G1 (mX m (v + N.remV h k n 0) (c + N.remC h k n 0) ++ []) w9 := hs10
  clear hs0 hid11
  refine hK6 _ _ ?_; clear hK6 K5
  refine sq (r_extract rfl rfl rfl) rfl ?_
  refine sq (r_extract rfl rfl rfl) rfl ?_
  refine sq (r_assign rfl) rfl ?_
  refine sq (r_assign rfl) rfl ?_
  refine wl_nil ?_
  refine hK4 _ _ ?_; (try clear hK4 K3)
  refine wp_ret ?_
  exact leave (X' := mX m (v + N.remV h k n 0) (c + N.remC h k n 0)) (L := []) hs10 (mX_ids _ _ _ _ _) (res_many (vs := [u7, .bool ((N.rem h k n 0).isSome)]) rfl (.tmp rfl rfl (.tmp rfl rfl .nil)) rfl) ⟨_, rfl, hn8, rfl⟩
end Go.Proofs.YtlnlodfnplkckaaDoor
/- The engine: remainders, slices of arrays, elements of byte slices, loops walked round by round. Each theorem's conditions stand in it. -/
namespace Go.Proofs.YtlnlodfnplkckaaDoor
section
variable {P : Program} {Q : Exit → Act → World → Prop} {f : Nat → Value} {n : Fr} {w : World} {d : Option Tmp} {t ty yt : TypeId} {pos : String} {af : Array Edge} {g : Option (Nat × Bool)} {x y z : Operand}
theorem r_remN {a b : Nat} (hx : okO n x = true) (hy : okO n y = true) (ha : ev f x = .int .i64 (a : Int)) (hb : ev f y = .int .i64 (b : Int)) (h : 1 ≤ b) :
    (execOp (FA f n).eval ⟨d, .binOp .rem yt x y ty, ty, pos, af, g⟩).run P w = .ok (.value (.int .i64 ((a % b : Nat) : Int))) w := by
  have h0 : ¬ b = 0 := by omega
  have e : ((a : Int).tmod (b : Int)) = ((a % b : Nat) : Int) := by rw [Int.tmod_eq_emod_of_nonneg (by omega)]; rfl
  simp [execOp, FA_eval hx, FA_eval hy, ha, hb, eqGuard, binOp, Op.intDiv, h0, e]
theorem r_sliceArr {len e sz b0 o l h : Nat} (hx : okO n x = true) (hy : okO n y = true) (hz : okO n z = true) (ht : arrT P t len e sz = true) (hv : ev f x = .pointer (some ⟨b0, o, none⟩)) (hl : ev f y = .int .i64 (l : Int)) (hh : ev f z = .int .i64 (h : Int)) (h1 : l ≤ h) (h2 : h ≤ len) :
    (execOp (FA f n).eval ⟨d, .slice t x (some y) (some z) none, ty, pos, af, g⟩).run P w = .ok (.value (.slice (some (if len = l then ⟨b0, o, none⟩ else ⟨b0, o + l * sz, none⟩)) (h - l) (len - l))) w := by
  unfold arrT at ht
  cases hu : P.underlying t with
  | none => simp [hu] at ht
  | some dd =>
    cases dd <;> simp [hu] at ht
    rename_i l' e'
    obtain ⟨⟨g0, g1⟩, g2⟩ := ht
    subst g0; subst g1
    have he : P.elem t = e' := by simp [Program.elem, hu]
    have hal : P.arrayLen t = l' := by simp [Program.arrayLen, hu]
    have hr := run_sliceAt_array_lh (P := P) w t ⟨b0, o, none⟩ (by rw [he, hal]; exact hu) .i64 .i64 (l : Int) (h : Int) (by omega) (by omega) (by rw [hal]; omega)
    rw [he, sizT_spec g2, hal] at hr
    simp only [Result.andThen_ok, Int.toNat_natCast, slicedAt] at hr
    have ead : (⟨b0, o, none⟩ : Addr).add (l * sz) = ⟨b0, o + l * sz, none⟩ := by unfold Addr.add; split <;> simp_all
    rw [ead] at hr
    simp [execOp, FA_eval hx, FA_eval hy, FA_eval hz, hv, hl, hh, hr]
theorem rounds_S {c : Code} {a : Act} {m : Nat} (h : c.wp P (Exit.then (Code.rounds P c Q m) Q) a w) : Code.rounds P c Q (m + 1) a w := h
end
/-- A store into the box that stands first; what comes of it is said. -/
theorem ow_storeK {P : Program} {Q : Exit → Act → World → Prop} {K : Act → World → Prop} {f : Nat → Value} {n : Fr} {w w0 : World} {ty : TypeId} {pos : String} {af : Array Edge} {g : Option (Nat × Bool)} {I0 I : GH} {X0 : List Nat} {L : List Bx}
    {T b o : Nat} {x y : Operand} {cs cs' : Array Value} {E : TypeId} {vs : List Value} (hs : St w0 I0 X0 I (⟨b, cs, E⟩ :: L) w) (hx : okO n x = true) (hy : okO n y = true)
    (hT : sizT P T vs.length = true) (h : ev f x = .pointer (some ⟨b, o, none⟩)) (hv : (ev f y).cells.toList = vs) (h1 : Ones vs) (hl : Nat.ble (o + vs.length) cs.size = true) (he : putAll cs o vs = cs')
    (k : ∀ w', St w0 I0 X0 I (⟨b, cs', E⟩ :: L) w' → K (FA f n) w') : OW P ⟨none, .store T x y, ty, pos, af, g⟩ f n w K Q :=
  ow_store hs hx hy hT h hv h1 hl (by rw [he]; exact k)
/-- An element of a slice of bytes. -/
theorem bytes_at {I : GH} {ad : Option Addr} {len cap i : Nat} {k : Bs} (h : BytesAt I (.slice ad len cap) k) (hi : i < k.length) :
    ∃ b off cs T fz, ad = some ⟨b, off, none⟩ ∧ I b = some (.cells cs T fz) ∧ cs[off + i * 1]? = some (bV k[i]) := by
  have h0 := h
  obtain ⟨a', cap', h1, _⟩ := h0
  cases h1
  have hne : k.map bV ≠ [] := fun e => by
    have := congrArg List.length e
    simp at this; subst this; simp at hi
  obtain ⟨b, off, cs, T, fz, rfl, hb, hc⟩ := SliceAt.open h hne
  refine ⟨b, off, cs, T, fz, rfl, hb, ?_⟩
  have h2 : (k.map bV)[i]? = some (bV k[i]) := by simp [hi]
  rw [← hc, List.getElem?_take, List.getElem?_drop, if_pos (by omega)] at h2
  rw [Nat.mul_one]
  simpa using h2
theorem bytes_back {I : GH} {ad : Option Addr} {len cap l : Nat} {k : Bs} (h : BytesAt I (.slice ad len cap) k) (hl : l ≤ k.length) : BytesAt I (sliced ad l len cap 1) (k.drop l) := by
  have h0 := h
  obtain ⟨a', cap', h1, _⟩ := h0
  cases h1
  have := SliceAt.back h hl
  unfold BytesAt
  rw [List.length_drop, List.map_drop]
  rwa [Nat.mul_one] at this
theorem bytes_len {I : GH} {ad : Option Addr} {len cap : Nat} {k : Bs} (h : BytesAt I (.slice ad len cap) k) : len = k.length := by
  obtain ⟨a', cap', h1, _⟩ := h
  cases h1; rfl
theorem bytes_slc {I : GH} {v : Value} {k : Bs} (h : BytesAt I v k) : ∃ ad cap, v = .slice ad k.length cap := by
  obtain ⟨a', cap', h1, _⟩ := h
  exact ⟨_, _, h1⟩
theorem bytes_lit {I : GH} {b off len cap : Nat} {cs : Array Value} {T : TypeId} {fz : Nat × Nat} {k : Bs} (hb : I b = some (.cells cs T fz)) (hl : k.length = len) (hc : len ≤ cap) (h : (cs.toList.drop off).take len = k.map bV) : BytesAt I (.slice (some ⟨b, off, none⟩) len cap) k := by
  subst hl
  exact ⟨_, cap, rfl, hc, (fun h => by cases h), by simp, fun _ => ⟨b, off, cs, T, fz, rfl, hb, by rwa [Nat.mul_one]⟩⟩
end Go.Proofs.YtlnlodfnplkckaaDoor
/- The contracts of word.Low, word.Turn, and of package sip. -/
namespace Go.Proofs.YtlnlodfnplkckaaDoor
set_option linter.unusedVariables false
set_option linter.unusedSimpArgs false
def rotN (x k : Nat) : Nat := (x * 2 ^ k % 2 ^ 64) ||| (x / 2 ^ (64 - k))
theorem rotN_lt {x k : Nat} (hx : x < 2 ^ 64) : rotN x k < 2 ^ 64 := Nat.or_lt_two_pow (Nat.mod_lt _ (by decide)) (Nat.lt_of_le_of_lt (Nat.div_le_self _ _) hx)
def mixN (a b k : Nat) : Nat × Nat := ((a + b) % 2 ^ 64, rotN b k ^^^ ((a + b) % 2 ^ 64))
abbrev S4 := Nat × Nat × Nat × Nat
def roundN (x : S4) : S4 :=
  let p := mixN x.1 x.2.1 13
  let r := mixN x.2.2.1 x.2.2.2 16
  let p2 := mixN (rotN p.1 32) r.2 21
  let r2 := mixN r.1 p.2 17
  (p2.1, r2.2, rotN r2.1 32, p2.2)
def takeN (x : S4) (m : Nat) : S4 :=
  let y := roundN (roundN (x.1, x.2.1, x.2.2.1, x.2.2.2 ^^^ m))
  (y.1 ^^^ m, y.2)
def endN (x : S4) : Nat :=
  let y := roundN (roundN (roundN (roundN (x.1, x.2.1, x.2.2.1 ^^^ 255, x.2.2.2))))
  y.1 ^^^ y.2.1 ^^^ y.2.2.1 ^^^ y.2.2.2
def lowStep (b : UInt8) (n : Nat) : Nat := (n * 2 ^ 8 % 2 ^ 64 + b.toNat) % 2 ^ 64
def lowN (l : Bs) : Nat := (l.take 8).foldr lowStep 0
theorem low_lt (l : Bs) : l.foldr lowStep 0 < 2 ^ 64 := by
  cases l with
  | nil => exact Nat.two_pow_pos 64
  | cons a l => exact Nat.mod_lt _ (Nat.two_pow_pos 64)
theorem lowN_lt (l : Bs) : lowN l < 2 ^ 64 := low_lt _
theorem low_drop {l : Bs} {i : Nat} (h : i < l.length) : (l.drop i).foldr lowStep 0 = lowStep l[i] ((l.drop (i + 1)).foldr lowStep 0) := by
  rw [List.drop_eq_getElem_cons h]; rfl
theorem u8_lt (u : UInt8) : u.toNat < 2 ^ 8 := UInt8.toNat_lt u
set_option maxRecDepth 100000 in
theorem rotl_ok {I : GH} {x k : Nat} (hx : x < 2 ^ 64) (hk : k < 64) : Fn Tryd.prog 156 #[.int .u64 ((x : Nat) : Int), .int .i64 ((k : Nat) : Int)] I [] (fun v J _ => v = .int .u64 ((rotN x k : Nat) : Int) ∧ I = J) := by
  have hk63 : (k &&& 63 : Nat) = k := by rw [show (63 : Nat) = 2 ^ 6 - 1 from rfl, Nat.and_two_pow_sub_one_eq_mod]; exact Nat.mod_eq_of_lt hk
  refine enter (args := [.int .u64 ((x : Nat) : Int), .int .i64 ((k : Nat) : Int)]) Tryd.func156 rfl rfl fun w0 hs0 => ?_
  refine wp_seq_k fun K1 hK2 => ?_
  refine wl_begin ?_
  refine sq (r_assign rfl) rfl ?_
  refine wl_nil ?_
  refine hK2 _ _ ?_; (try clear hK2 K1)
  refine wp_seq_k fun K3 hK4 => ?_
  refine wl_begin ?_
  refine sq (r_move rfl) rfl ?_
  refine sq (r_convN (j := .u64) (a := k) (m := 64) (r_convInt rfl (by kernel_rfl) (by kernel_rfl) rfl) (by kernel_rfl) (by omega)) rfl ?_
  refine sq (r_andN (a := k) (b := 63) (m := 64) (by kernel_rfl) rfl rfl rfl rfl (Nat.lt_trans hk (by decide)) (by decide)) rfl ?_
  refine sq (r_assign rfl) rfl ?_
  refine wl_nil ?_
  refine hK4 _ _ ?_; (try clear hK4 K3)
  refine wp_seq_k fun K5 hK6 => ?_
  refine nrm (vals := [(0, .int .u64 ((x : Nat) : Int)), (1, .int .i64 ((k : Nat) : Int)), (4, .int .u64 0), (5, .int .u64 ((k : Nat) : Int))]) (.cons rfl (.cons rfl (.cons rfl (.cons (congrArg (fun z : Nat => Value.int .u64 (z : Int)) hk63) .nil)))) fun g7 => ?_
  refine wl_begin ?_
  refine sq (r_move rfl) rfl ?_
  refine sq (r_move rfl) rfl ?_
  refine sq (r_shlN (a := x) (b := k) (m := 64) (by kernel_rfl) rfl rfl rfl rfl (by omega)) rfl ?_
  refine sq (r_move rfl) rfl ?_
  refine sq (r_move rfl) rfl ?_
  refine sq (r_subN (a := 64) (b := k) (m := 64) (by kernel_rfl) rfl rfl rfl rfl (Nat.lt_trans hk (by decide))) rfl ?_
  refine sq (r_shrN (a := x) (b := ((64 + (2 ^ 64 - k)) % 2 ^ 64)) (m := 64) (by kernel_rfl) rfl rfl rfl rfl (by omega)) rfl ?_
  refine sq (r_orN (a := (x * 2 ^ k % 2 ^ 64)) (b := (x / 2 ^ ((64 + (2 ^ 64 - k)) % 2 ^ 64))) (m := 64) (by kernel_rfl) rfl rfl rfl rfl (Nat.mod_lt _ (by decide)) (Nat.lt_of_le_of_lt (Nat.div_le_self _ _) hx)) rfl ?_
  refine sq (r_assign rfl) rfl ?_
  refine wl_nil ?_
  refine hK6 _ _ ?_; (try clear hK6 K5)
  refine wp_ret ?_
  exact leave (X' := []) (L := []) hs0 rfl (res_one (v := .int .u64 ((((x * 2 ^ k % 2 ^ 64) ||| (x / 2 ^ ((64 + (2 ^ 64 - k)) % 2 ^ 64))) : Nat) : Int)) rfl (.tmp rfl rfl .nil)) ⟨by rw [show (64 + (2 ^ 64 - k)) % 2 ^ 64 = 64 - k by omega]; rfl, rfl⟩
set_option maxRecDepth 100000 in
theorem turn_ok {I : GH} {x k : Nat} (hx : x < 2 ^ 64) (hk : k < 64) : Fn Tryd.prog 150 #[.int .u64 ((x : Nat) : Int), .int .i64 ((k : Nat) : Int)] I [] (fun v J _ => v = .int .u64 ((rotN x k : Nat) : Int) ∧ I = J) := by
  refine enter (args := [.int .u64 ((x : Nat) : Int), .int .i64 ((k : Nat) : Int)]) Tryd.func150 rfl rfl fun w0 hs0 => ?_
  refine wp_seq_k fun K1 hK2 => ?_
  refine wl_begin ?_
  refine sq (r_assign rfl) rfl ?_
  refine wl_nil ?_
  refine hK2 _ _ ?_; (try clear hK2 K1)
  refine wp_seq_k fun K3 hK4 => ?_
  refine wl_begin ?_
  refine sq (r_move rfl) rfl ?_
  refine sq (r_move rfl) rfl ?_
  refine sq (r_remN (a := k) (b := 64) rfl rfl rfl rfl (by omega)) rfl ?_
  refine sqo rfl fun K5 hK6 => ow_call (X := []) (L := []) (lb := []) hs0 (rotl_ok (x := x) (k := (k % 64)) hx (Nat.mod_lt _ (by decide))) (by kernel_rfl) rfl rfl rfl rfl rfl ?_
  rintro _ _ X1 w7 ⟨rfl, rfl⟩ - hs8 hid9
  obtain rfl : X1 = [] := List.map_eq_nil_iff.1 hid9
  replace hs8 : St w0 I (ids []) I [] w7 := hs8
  clear hs0 hid9
  refine hK6 _ _ ?_; clear hK6 K5
  refine sq (r_assign rfl) rfl ?_
  refine wl_nil ?_
  refine hK4 _ _ ?_; (try clear hK4 K3)
  refine wp_ret ?_
  exact leave (X' := []) (L := []) hs8 rfl (res_one (v := .int .u64 (((rotN x (k % 64)) : Nat) : Int)) rfl (.tmp rfl rfl .nil)) ⟨by rw [Nat.mod_eq_of_lt hk], rfl⟩
set_option maxRecDepth 100000 in
theorem mix_ok {I : GH} {a b k : Nat} (ha : a < 2 ^ 64) (hb : b < 2 ^ 64) (hk : k < 64) : Fn Tryd.prog 149 #[.int .u64 ((a : Nat) : Int), .int .u64 ((b : Nat) : Int), .int .i64 ((k : Nat) : Int)] I [] (fun v J _ => v = .tuple #[.int .u64 (((mixN a b k).1 : Nat) : Int), .int .u64 (((mixN a b k).2 : Nat) : Int)] ∧ I = J) := by
  refine enter (args := [.int .u64 ((a : Nat) : Int), .int .u64 ((b : Nat) : Int), .int .i64 ((k : Nat) : Int)]) Tryd.func149 rfl rfl fun w0 hs0 => ?_
  refine wp_seq_k fun K1 hK2 => ?_
  refine wl_begin ?_
  refine sq (r_assign rfl) rfl ?_
  refine sq (r_assign rfl) rfl ?_
  refine wl_nil ?_
  refine hK2 _ _ ?_; (try clear hK2 K1)
  refine wp_seq_k fun K3 hK4 => ?_
  refine wl_begin ?_
  refine sq (r_move rfl) rfl ?_
  refine sq (r_move rfl) rfl ?_
  refine sq (r_addN (a := a) (b := b) (m := 64) (by kernel_rfl) rfl rfl rfl rfl) rfl ?_
  refine sq (r_assign rfl) rfl ?_
  refine wl_nil ?_
  refine hK4 _ _ ?_; (try clear hK4 K3)
  refine wp_seq_k fun K5 hK6 => ?_
  refine wl_begin ?_
  refine sq (r_move rfl) rfl ?_
  refine sq (r_move rfl) rfl ?_
  refine sq (r_move rfl) rfl ?_
  refine sqo rfl fun K7 hK8 => ow_call (X := []) (L := []) (lb := []) hs0 (turn_ok (x := b) (k := k) hb hk) (by kernel_rfl) rfl rfl rfl rfl rfl ?_
  rintro _ _ X1 w9 ⟨rfl, rfl⟩ - hs10 hid11
  obtain rfl : X1 = [] := List.map_eq_nil_iff.1 hid11
  replace hs10 : St w0 I (ids []) I [] w9 := hs10
  clear hs0 hid11
  refine hK8 _ _ ?_; clear hK8 K7
  refine sq (r_move rfl) rfl ?_
  refine sq (r_xorN (a := (rotN b k)) (b := ((a + b) % 2 ^ 64)) (m := 64) (by kernel_rfl) rfl rfl rfl rfl (rotN_lt hb) (Nat.mod_lt _ (by decide))) rfl ?_
  refine sq (r_assign rfl) rfl ?_
  refine sq (r_assign rfl) rfl ?_
  refine wl_nil ?_
  refine hK6 _ _ ?_; (try clear hK6 K5)
  refine wp_ret ?_
  exact leave (X' := []) (L := []) hs10 rfl (res_many (vs := [.int .u64 ((((a + b) % 2 ^ 64) : Nat) : Int), .int .u64 ((((rotN b k) ^^^ ((a + b) % 2 ^ 64)) : Nat) : Int)]) rfl (.tmp rfl rfl (.tmp rfl rfl .nil)) rfl) ⟨rfl, rfl⟩
theorem mixN_lt {a b k : Nat} (hb : b < 2 ^ 64) : (mixN a b k).1 < 2 ^ 64 ∧ (mixN a b k).2 < 2 ^ 64 :=
  ⟨Nat.mod_lt _ (by decide), Nat.xor_lt_two_pow (rotN_lt hb) (Nat.mod_lt _ (by decide))⟩
/-- The mix of two numbers, by names. -/
theorem mix2_ok {I : GH} {a b k : Nat} (ha : a < 2 ^ 64) (hb : b < 2 ^ 64) (hk : k < 64) : Fn Tryd.prog 149 #[.int .u64 ((a : Nat) : Int), .int .u64 ((b : Nat) : Int), .int .i64 ((k : Nat) : Int)] I [] (fun v J _ => ∃ s t, v = .tuple #[.int .u64 ((s : Nat) : Int), .int .u64 ((t : Nat) : Int)] ∧ I = J ∧ s < 2 ^ 64 ∧ t < 2 ^ 64 ∧ (s, t) = mixN a b k) :=
  (mix_ok ha hb hk).mono fun v J _ h => ⟨_, _, h.1, h.2, (mixN_lt hb).1, (mixN_lt hb).2, rfl⟩
set_option maxRecDepth 100000 in
theorem round_ok {I : GH} {a b c d : Nat} (ha : a < 2 ^ 64) (hb : b < 2 ^ 64) (hc : c < 2 ^ 64) (hd : d < 2 ^ 64) : Fn Tryd.prog 137 #[.agg #[.int .u64 ((a : Nat) : Int), .int .u64 ((b : Nat) : Int), .int .u64 ((c : Nat) : Int), .int .u64 ((d : Nat) : Int)]] I [] (fun v J _ => ∃ p q r s, v = .agg #[.int .u64 ((p : Nat) : Int), .int .u64 ((q : Nat) : Int), .int .u64 ((r : Nat) : Int), .int .u64 ((s : Nat) : Int)] ∧ I = J ∧ p < 2 ^ 64 ∧ q < 2 ^ 64 ∧ r < 2 ^ 64 ∧ s < 2 ^ 64 ∧ (p, q, r, s) = roundN (a, b, c, d)) := by
  refine enter (args := [.agg #[.int .u64 ((a : Nat) : Int), .int .u64 ((b : Nat) : Int), .int .u64 ((c : Nat) : Int), .int .u64 ((d : Nat) : Int)]]) Tryd.func137 rfl rfl fun w0 hs0 => ?_
  refine wp_seq_k fun K1 hK2 => ?_
  refine wl_begin ?_
  refine sqo rfl fun K3 hK4 => ow_newbox (mk := fun b => .pointer (some ⟨b, 0, none⟩)) hs0 (r_box rfl rfl) rfl ?_
  rintro b5 w6 (hs7 : St w0 I (ids []) I [⟨b5, #[.int .u64 ((a : Nat) : Int), .int .u64 ((b : Nat) : Int), .int .u64 ((c : Nat) : Int), .int .u64 ((d : Nat) : Int)], 182⟩] w6)
  clear hs0
  refine hK4 _ _ ?_; clear hK4 K3
  refine sqo rfl fun K8 hK9 => ow_newbox (mk := fun b => .pointer (some ⟨b, 0, none⟩)) hs7 (r_alloc (cs := [.int .u64 0, .int .u64 0, .int .u64 0, .int .u64 0]) (by kernel_rfl)) rfl ?_
  rintro b10 w11 (hs12 : St w0 I (ids []) I [⟨b10, #[.int .u64 0, .int .u64 0, .int .u64 0, .int .u64 0], 182⟩, ⟨b5, #[.int .u64 ((a : Nat) : Int), .int .u64 ((b : Nat) : Int), .int .u64 ((c : Nat) : Int), .int .u64 ((d : Nat) : Int)], 182⟩] w11)
  clear hs7
  refine hK9 _ _ ?_; clear hK9 K8
  refine wl_nil ?_
  refine hK2 _ _ ?_; (try clear hK2 K1)
  refine wp_seq_k fun K13 hK14 => ?_
  refine wl_begin ?_
  refine sq (r_indexArr (len := 4) (e := 50) (sz := 1) (i := 0) rfl rfl (by kernel_rfl) rfl rfl (by first | decide | exact Nat.zero_lt_succ _)) rfl ?_
  refine sq (r_load rfl (by kernel_rfl) rfl (hs12.box (.tail _ (.head _))) rfl) rfl ?_
  refine sq (r_indexArr (len := 4) (e := 50) (sz := 1) (i := 1) rfl rfl (by kernel_rfl) rfl rfl (by first | decide | exact Nat.zero_lt_succ _)) rfl ?_
  refine sq (r_load rfl (by kernel_rfl) rfl (hs12.box (.tail _ (.head _))) rfl) rfl ?_
  refine sqo rfl fun K15 hK16 => ow_call (X := []) (L := [⟨b10, #[.int .u64 0, .int .u64 0, .int .u64 0, .int .u64 0], 182⟩, ⟨b5, #[.int .u64 ((a : Nat) : Int), .int .u64 ((b : Nat) : Int), .int .u64 ((c : Nat) : Int), .int .u64 ((d : Nat) : Int)], 182⟩]) (lb := []) hs12 (mix2_ok (a := a) (b := b) (k := 13) ha hb (by decide)) (by kernel_rfl) rfl rfl rfl rfl rfl ?_
  rintro _ _ X1 w22 ⟨p17, q18, rfl, rfl, hp19, hq20, em21⟩ - hs23 hid24
  obtain rfl : X1 = [] := List.map_eq_nil_iff.1 hid24
  replace hs23 : St w0 I (ids []) I [⟨b10, #[.int .u64 0, .int .u64 0, .int .u64 0, .int .u64 0], 182⟩, ⟨b5, #[.int .u64 ((a : Nat) : Int), .int .u64 ((b : Nat) : Int), .int .u64 ((c : Nat) : Int), .int .u64 ((d : Nat) : Int)], 182⟩] w22 := hs23
  clear hs12 hid24
  refine hK16 _ _ ?_; clear hK16 K15
  refine sq (r_move rfl) rfl ?_
  refine sq (r_extract rfl rfl rfl) rfl ?_
  refine sq (r_extract rfl rfl rfl) rfl ?_
  refine sq (r_assign rfl) rfl ?_
  refine sq (r_assign rfl) rfl ?_
  refine wl_nil ?_
  refine hK14 _ _ ?_; (try clear hK14 K13)
  refine wp_seq_k fun K25 hK26 => ?_
  refine wl_begin ?_
  refine sq (r_indexArr (len := 4) (e := 50) (sz := 1) (i := 2) rfl rfl (by kernel_rfl) rfl rfl (by first | decide | exact Nat.zero_lt_succ _)) rfl ?_
  refine sq (r_load rfl (by kernel_rfl) rfl (hs23.box (.tail _ (.head _))) rfl) rfl ?_
  refine sq (r_indexArr (len := 4) (e := 50) (sz := 1) (i := 3) rfl rfl (by kernel_rfl) rfl rfl (by first | decide | exact Nat.zero_lt_succ _)) rfl ?_
  refine sq (r_load rfl (by kernel_rfl) rfl (hs23.box (.tail _ (.head _))) rfl) rfl ?_
  refine sqo rfl fun K27 hK28 => ow_call (X := []) (L := [⟨b10, #[.int .u64 0, .int .u64 0, .int .u64 0, .int .u64 0], 182⟩, ⟨b5, #[.int .u64 ((a : Nat) : Int), .int .u64 ((b : Nat) : Int), .int .u64 ((c : Nat) : Int), .int .u64 ((d : Nat) : Int)], 182⟩]) (lb := []) hs23 (mix2_ok (a := c) (b := d) (k := 16) hc hd (by decide)) (by kernel_rfl) rfl rfl rfl rfl rfl ?_
  rintro _ _ X1 w34 ⟨p29, q30, rfl, rfl, hp31, hq32, em33⟩ - hs35 hid36
  obtain rfl : X1 = [] := List.map_eq_nil_iff.1 hid36
  replace hs35 : St w0 I (ids []) I [⟨b10, #[.int .u64 0, .int .u64 0, .int .u64 0, .int .u64 0], 182⟩, ⟨b5, #[.int .u64 ((a : Nat) : Int), .int .u64 ((b : Nat) : Int), .int .u64 ((c : Nat) : Int), .int .u64 ((d : Nat) : Int)], 182⟩] w34 := hs35
  clear hs23 hid36
  refine hK28 _ _ ?_; clear hK28 K27
  refine sq (r_move rfl) rfl ?_
  refine sq (r_extract rfl rfl rfl) rfl ?_
  refine sq (r_extract rfl rfl rfl) rfl ?_
  refine sq (r_assign rfl) rfl ?_
  refine sq (r_assign rfl) rfl ?_
  refine wl_nil ?_
  refine hK26 _ _ ?_; (try clear hK26 K25)
  refine wp_seq_k fun K37 hK38 => ?_
  refine nrm (vals := [(0, .agg #[.int .u64 ((a : Nat) : Int), .int .u64 ((b : Nat) : Int), .int .u64 ((c : Nat) : Int), .int .u64 ((d : Nat) : Int)]), (1, .pointer (some ⟨b5, 0, none⟩)), (2, .pointer (some ⟨b10, 0, none⟩)), (3, .int .u64 ((p17 : Nat) : Int)), (4, .int .u64 ((q18 : Nat) : Int)), (5, .int .u64 ((p29 : Nat) : Int)), (6, .int .u64 ((q30 : Nat) : Int))]) (.cons rfl (.cons rfl (.cons rfl (.cons rfl (.cons rfl (.cons rfl (.cons rfl .nil))))))) fun g39 => ?_
  refine wl_begin ?_
  refine sq (r_move rfl) rfl ?_
  refine sqo rfl fun K40 hK41 => ow_call (X := []) (L := [⟨b10, #[.int .u64 0, .int .u64 0, .int .u64 0, .int .u64 0], 182⟩, ⟨b5, #[.int .u64 ((a : Nat) : Int), .int .u64 ((b : Nat) : Int), .int .u64 ((c : Nat) : Int), .int .u64 ((d : Nat) : Int)], 182⟩]) (lb := []) hs35 (turn_ok (x := p17) (k := 32) hp19 (by decide)) (by kernel_rfl) rfl rfl rfl rfl rfl ?_
  rintro _ _ X1 w42 ⟨rfl, rfl⟩ - hs43 hid44
  obtain rfl : X1 = [] := List.map_eq_nil_iff.1 hid44
  replace hs43 : St w0 I (ids []) I [⟨b10, #[.int .u64 0, .int .u64 0, .int .u64 0, .int .u64 0], 182⟩, ⟨b5, #[.int .u64 ((a : Nat) : Int), .int .u64 ((b : Nat) : Int), .int .u64 ((c : Nat) : Int), .int .u64 ((d : Nat) : Int)], 182⟩] w42 := hs43
  clear hs35 hid44
  refine hK41 _ _ ?_; clear hK41 K40
  refine sq (r_move rfl) rfl ?_
  refine sqo rfl fun K45 hK46 => ow_call (X := []) (L := [⟨b10, #[.int .u64 0, .int .u64 0, .int .u64 0, .int .u64 0], 182⟩, ⟨b5, #[.int .u64 ((a : Nat) : Int), .int .u64 ((b : Nat) : Int), .int .u64 ((c : Nat) : Int), .int .u64 ((d : Nat) : Int)], 182⟩]) (lb := []) hs43 (mix2_ok (a := (rotN p17 32)) (b := q30) (k := 21) (rotN_lt hp19) hq32 (by decide)) (by kernel_rfl) rfl rfl rfl rfl rfl ?_
  rintro _ _ X1 w52 ⟨p47, q48, rfl, rfl, hp49, hq50, em51⟩ - hs53 hid54
  obtain rfl : X1 = [] := List.map_eq_nil_iff.1 hid54
  replace hs53 : St w0 I (ids []) I [⟨b10, #[.int .u64 0, .int .u64 0, .int .u64 0, .int .u64 0], 182⟩, ⟨b5, #[.int .u64 ((a : Nat) : Int), .int .u64 ((b : Nat) : Int), .int .u64 ((c : Nat) : Int), .int .u64 ((d : Nat) : Int)], 182⟩] w52 := hs53
  clear hs43 hid54
  refine hK46 _ _ ?_; clear hK46 K45
  refine sq (r_move rfl) rfl ?_
  refine sq (r_extract rfl rfl rfl) rfl ?_
  refine sq (r_extract rfl rfl rfl) rfl ?_
  refine sq (r_assign rfl) rfl ?_
  refine sq (r_assign rfl) rfl ?_
  refine wl_nil ?_
  refine hK38 _ _ ?_; (try clear hK38 K37)
  refine wp_seq_k fun K55 hK56 => ?_
  refine wl_begin ?_
  refine sq (r_move rfl) rfl ?_
  refine sq (r_move rfl) rfl ?_
  refine sqo rfl fun K57 hK58 => ow_call (X := []) (L := [⟨b10, #[.int .u64 0, .int .u64 0, .int .u64 0, .int .u64 0], 182⟩, ⟨b5, #[.int .u64 ((a : Nat) : Int), .int .u64 ((b : Nat) : Int), .int .u64 ((c : Nat) : Int), .int .u64 ((d : Nat) : Int)], 182⟩]) (lb := []) hs53 (mix2_ok (a := p29) (b := q18) (k := 17) hp31 hq20 (by decide)) (by kernel_rfl) rfl rfl rfl rfl rfl ?_
  rintro _ _ X1 w64 ⟨p59, q60, rfl, rfl, hp61, hq62, em63⟩ - hs65 hid66
  obtain rfl : X1 = [] := List.map_eq_nil_iff.1 hid66
  replace hs65 : St w0 I (ids []) I [⟨b10, #[.int .u64 0, .int .u64 0, .int .u64 0, .int .u64 0], 182⟩, ⟨b5, #[.int .u64 ((a : Nat) : Int), .int .u64 ((b : Nat) : Int), .int .u64 ((c : Nat) : Int), .int .u64 ((d : Nat) : Int)], 182⟩] w64 := hs65
  clear hs53 hid66
  refine hK58 _ _ ?_; clear hK58 K57
  refine sq (r_move rfl) rfl ?_
  refine sq (r_extract rfl rfl rfl) rfl ?_
  refine sq (r_extract rfl rfl rfl) rfl ?_
  refine sq (r_assign rfl) rfl ?_
  refine sq (r_assign rfl) rfl ?_
  refine wl_nil ?_
  refine hK56 _ _ ?_; (try clear hK56 K55)
  refine wp_seq_k fun K67 hK68 => ?_
  refine nrm (vals := [(0, .agg #[.int .u64 ((a : Nat) : Int), .int .u64 ((b : Nat) : Int), .int .u64 ((c : Nat) : Int), .int .u64 ((d : Nat) : Int)]), (1, .pointer (some ⟨b5, 0, none⟩)), (2, .pointer (some ⟨b10, 0, none⟩)), (3, .int .u64 ((p47 : Nat) : Int)), (4, .int .u64 ((q60 : Nat) : Int)), (5, .int .u64 ((p59 : Nat) : Int)), (6, .int .u64 ((q48 : Nat) : Int))]) (.cons rfl (.cons rfl (.cons rfl (.cons rfl (.cons rfl (.cons rfl (.cons rfl .nil))))))) fun g69 => ?_
  refine wl_begin ?_
  refine sq (r_move rfl) rfl ?_
  refine sq (r_move rfl) rfl ?_
  refine sq (r_move rfl) rfl ?_
  refine sqo rfl fun K70 hK71 => ow_call (X := []) (L := [⟨b10, #[.int .u64 0, .int .u64 0, .int .u64 0, .int .u64 0], 182⟩, ⟨b5, #[.int .u64 ((a : Nat) : Int), .int .u64 ((b : Nat) : Int), .int .u64 ((c : Nat) : Int), .int .u64 ((d : Nat) : Int)], 182⟩]) (lb := []) hs65 (turn_ok (x := p59) (k := 32) hp61 (by decide)) (by kernel_rfl) rfl rfl rfl rfl rfl ?_
  rintro _ _ X1 w72 ⟨rfl, rfl⟩ - hs73 hid74
  obtain rfl : X1 = [] := List.map_eq_nil_iff.1 hid74
  replace hs73 : St w0 I (ids []) I [⟨b10, #[.int .u64 0, .int .u64 0, .int .u64 0, .int .u64 0], 182⟩, ⟨b5, #[.int .u64 ((a : Nat) : Int), .int .u64 ((b : Nat) : Int), .int .u64 ((c : Nat) : Int), .int .u64 ((d : Nat) : Int)], 182⟩] w72 := hs73
  clear hs65 hid74
  refine hK71 _ _ ?_; clear hK71 K70
  refine sq (r_move rfl) rfl ?_
  refine sq (r_build (.cons rfl rfl (.cons rfl rfl (.cons rfl rfl (.cons rfl rfl .nil)))) (cells := #[.int .u64 ((p47 : Nat) : Int), .int .u64 ((q60 : Nat) : Int), .int .u64 (((rotN p59 32) : Nat) : Int), .int .u64 ((q48 : Nat) : Int)]) (by kernel_rfl)) rfl ?_
  refine sqo rfl fun K75 hK76 => ow_store (vs := [.int .u64 ((p47 : Nat) : Int), .int .u64 ((q60 : Nat) : Int), .int .u64 (((rotN p59 32) : Nat) : Int), .int .u64 ((q48 : Nat) : Int)]) hs73 rfl rfl (by kernel_rfl) rfl rfl (.cons trivial (.cons trivial (.cons trivial (.cons trivial .nil)))) rfl ?_
  rintro w77 (hs78 : St w0 I (ids []) I [⟨b10, #[.int .u64 ((p47 : Nat) : Int), .int .u64 ((q60 : Nat) : Int), .int .u64 (((rotN p59 32) : Nat) : Int), .int .u64 ((q48 : Nat) : Int)], 182⟩, ⟨b5, #[.int .u64 ((a : Nat) : Int), .int .u64 ((b : Nat) : Int), .int .u64 ((c : Nat) : Int), .int .u64 ((d : Nat) : Int)], 182⟩] w77)
  clear hs73
  refine hK76 _ _ ?_; clear hK76 K75
  refine wl_nil ?_
  refine hK68 _ _ ?_; (try clear hK68 K67)
  refine wp_ret ?_
  exact leave (X' := []) (L := [⟨b10, #[.int .u64 ((p47 : Nat) : Int), .int .u64 ((q60 : Nat) : Int), .int .u64 (((rotN p59 32) : Nat) : Int), .int .u64 ((q48 : Nat) : Int)], 182⟩, ⟨b5, #[.int .u64 ((a : Nat) : Int), .int .u64 ((b : Nat) : Int), .int .u64 ((c : Nat) : Int), .int .u64 ((d : Nat) : Int)], 182⟩]) hs78 rfl (res_one (v := .agg #[.int .u64 ((p47 : Nat) : Int), .int .u64 ((q60 : Nat) : Int), .int .u64 (((rotN p59 32) : Nat) : Int), .int .u64 ((q48 : Nat) : Int)]) rfl (.agg (m := 4) rfl rfl (by kernel_rfl) (hs78.box (.head _)) rfl rfl .nil)) ⟨_, _, _, _, rfl, rfl, hp49, hq62, (rotN_lt hp61), hq50, (by have z1 := congrArg Prod.fst em21; have z2 := congrArg Prod.snd em21; have y1 := congrArg Prod.fst em33; have y2 := congrArg Prod.snd em33; have x1 := congrArg Prod.fst em51; have x2 := congrArg Prod.snd em51; have w1 := congrArg Prod.fst em63; have w2 := congrArg Prod.snd em63; simp only at z1 z2 y1 y2 x1 x2 w1 w2; simp only [roundN]; rw [← z1, ← z2, ← y1, ← y2, ← x1, ← x2, ← w1, ← w2])⟩
set_option maxRecDepth 100000 in
theorem take_ok {I : GH} {a b c d : Nat} (ha : a < 2 ^ 64) (hb : b < 2 ^ 64) (hc : c < 2 ^ 64) (hd : d < 2 ^ 64) {m : Nat} (hm : m < 2 ^ 64) : Fn Tryd.prog 106 #[.agg #[.int .u64 ((a : Nat) : Int), .int .u64 ((b : Nat) : Int), .int .u64 ((c : Nat) : Int), .int .u64 ((d : Nat) : Int)], .int .u64 ((m : Nat) : Int)] I [] (fun v J _ => ∃ p q r s, v = .agg #[.int .u64 ((p : Nat) : Int), .int .u64 ((q : Nat) : Int), .int .u64 ((r : Nat) : Int), .int .u64 ((s : Nat) : Int)] ∧ I = J ∧ p < 2 ^ 64 ∧ q < 2 ^ 64 ∧ r < 2 ^ 64 ∧ s < 2 ^ 64 ∧ (p, q, r, s) = takeN (a, b, c, d) m) := by
  refine enter (args := [.agg #[.int .u64 ((a : Nat) : Int), .int .u64 ((b : Nat) : Int), .int .u64 ((c : Nat) : Int), .int .u64 ((d : Nat) : Int)], .int .u64 ((m : Nat) : Int)]) Tryd.func106 rfl rfl fun w0 hs0 => ?_
  refine wp_seq_k fun K1 hK2 => ?_
  refine wl_begin ?_
  refine sqo rfl fun K3 hK4 => ow_newbox (mk := fun b => .pointer (some ⟨b, 0, none⟩)) hs0 (r_box rfl rfl) rfl ?_
  rintro b5 w6 (hs7 : St w0 I (ids []) I [⟨b5, #[.int .u64 ((a : Nat) : Int), .int .u64 ((b : Nat) : Int), .int .u64 ((c : Nat) : Int), .int .u64 ((d : Nat) : Int)], 182⟩] w6)
  clear hs0
  refine hK4 _ _ ?_; clear hK4 K3
  refine sqo rfl fun K8 hK9 => ow_newbox (mk := fun b => .pointer (some ⟨b, 0, none⟩)) hs7 (r_alloc (cs := [.int .u64 0, .int .u64 0, .int .u64 0, .int .u64 0]) (by kernel_rfl)) rfl ?_
  rintro b10 w11 (hs12 : St w0 I (ids []) I [⟨b10, #[.int .u64 0, .int .u64 0, .int .u64 0, .int .u64 0], 182⟩, ⟨b5, #[.int .u64 ((a : Nat) : Int), .int .u64 ((b : Nat) : Int), .int .u64 ((c : Nat) : Int), .int .u64 ((d : Nat) : Int)], 182⟩] w11)
  clear hs7
  refine hK9 _ _ ?_; clear hK9 K8
  refine wl_nil ?_
  refine hK2 _ _ ?_; (try clear hK2 K1)
  refine wp_seq_k fun K13 hK14 => ?_
  refine wl_begin ?_
  refine sq (r_indexArr (len := 4) (e := 50) (sz := 1) (i := 3) rfl rfl (by kernel_rfl) rfl rfl (by first | decide | exact Nat.zero_lt_succ _)) rfl ?_
  refine sq (r_load rfl (by kernel_rfl) rfl (hs12.box (.tail _ (.head _))) rfl) rfl ?_
  refine sq (r_move rfl) rfl ?_
  refine sq (r_xorN (a := d) (b := m) (m := 64) (by kernel_rfl) rfl rfl rfl rfl hd hm) rfl ?_
  refine sq (r_indexArr (len := 4) (e := 50) (sz := 1) (i := 3) rfl rfl (by kernel_rfl) rfl rfl (by first | decide | exact Nat.zero_lt_succ _)) rfl ?_
  have hs17 : St w0 I (ids []) I [⟨b5, #[.int .u64 ((a : Nat) : Int), .int .u64 ((b : Nat) : Int), .int .u64 ((c : Nat) : Int), .int .u64 ((d : Nat) : Int)], 182⟩, ⟨b10, #[.int .u64 0, .int .u64 0, .int .u64 0, .int .u64 0], 182⟩] w11 := hs12.perm (List.Perm.trans ((List.Perm.refl _).cons _) (List.Perm.swap _ _ _)); clear hs12
  refine sqo rfl fun K15 hK16 => ow_store (vs := [.int .u64 (((d ^^^ m) : Nat) : Int)]) hs17 rfl rfl (by kernel_rfl) rfl rfl (.cons trivial .nil) rfl ?_
  rintro w18 (hs19 : St w0 I (ids []) I [⟨b5, #[.int .u64 ((a : Nat) : Int), .int .u64 ((b : Nat) : Int), .int .u64 ((c : Nat) : Int), .int .u64 (((d ^^^ m) : Nat) : Int)], 182⟩, ⟨b10, #[.int .u64 0, .int .u64 0, .int .u64 0, .int .u64 0], 182⟩] w18)
  clear hs17
  refine hK16 _ _ ?_; clear hK16 K15
  refine wl_nil ?_
  refine hK14 _ _ ?_; (try clear hK14 K13)
  refine wp_seq_k fun K20 hK21 => ?_
  refine wl_begin ?_
  refine sq (r_loadN (m := 4) rfl (by kernel_rfl) rfl (hs19.box (.head _)) rfl rfl) rfl ?_
  refine sqo rfl fun K22 hK23 => ow_call (X := []) (L := [⟨b5, #[.int .u64 ((a : Nat) : Int), .int .u64 ((b : Nat) : Int), .int .u64 ((c : Nat) : Int), .int .u64 (((d ^^^ m) : Nat) : Int)], 182⟩, ⟨b10, #[.int .u64 0, .int .u64 0, .int .u64 0, .int .u64 0], 182⟩]) (lb := []) hs19 (round_ok ha hb hc (Nat.xor_lt_two_pow hd hm)) (by kernel_rfl) rfl rfl rfl rfl rfl ?_
  rintro _ _ X1 w33 ⟨p24, q25, r26, s27, rfl, rfl, hp28, hq29, hr30, hs_31, es32⟩ - hs34 hid35
  obtain rfl : X1 = [] := List.map_eq_nil_iff.1 hid35
  replace hs34 : St w0 I (ids []) I [⟨b5, #[.int .u64 ((a : Nat) : Int), .int .u64 ((b : Nat) : Int), .int .u64 ((c : Nat) : Int), .int .u64 (((d ^^^ m) : Nat) : Int)], 182⟩, ⟨b10, #[.int .u64 0, .int .u64 0, .int .u64 0, .int .u64 0], 182⟩] w33 := hs34
  clear hs19 hid35
  refine hK23 _ _ ?_; clear hK23 K22
  refine sqo rfl fun K36 hK37 => ow_call (X := []) (L := [⟨b5, #[.int .u64 ((a : Nat) : Int), .int .u64 ((b : Nat) : Int), .int .u64 ((c : Nat) : Int), .int .u64 (((d ^^^ m) : Nat) : Int)], 182⟩, ⟨b10, #[.int .u64 0, .int .u64 0, .int .u64 0, .int .u64 0], 182⟩]) (lb := []) hs34 (round_ok hp28 hq29 hr30 hs_31) (by kernel_rfl) rfl rfl rfl rfl rfl ?_
  rintro _ _ X1 w47 ⟨p38, q39, r40, s41, rfl, rfl, hp42, hq43, hr44, hs_45, es46⟩ - hs48 hid49
  obtain rfl : X1 = [] := List.map_eq_nil_iff.1 hid49
  replace hs48 : St w0 I (ids []) I [⟨b5, #[.int .u64 ((a : Nat) : Int), .int .u64 ((b : Nat) : Int), .int .u64 ((c : Nat) : Int), .int .u64 (((d ^^^ m) : Nat) : Int)], 182⟩, ⟨b10, #[.int .u64 0, .int .u64 0, .int .u64 0, .int .u64 0], 182⟩] w47 := hs48
  clear hs34 hid49
  refine hK37 _ _ ?_; clear hK37 K36
  refine sqo rfl fun K50 hK51 => ow_store (vs := [.int .u64 ((p38 : Nat) : Int), .int .u64 ((q39 : Nat) : Int), .int .u64 ((r40 : Nat) : Int), .int .u64 ((s41 : Nat) : Int)]) hs48 rfl rfl (by kernel_rfl) rfl rfl (.cons trivial (.cons trivial (.cons trivial (.cons trivial .nil)))) rfl ?_
  rintro w52 (hs53 : St w0 I (ids []) I [⟨b5, #[.int .u64 ((p38 : Nat) : Int), .int .u64 ((q39 : Nat) : Int), .int .u64 ((r40 : Nat) : Int), .int .u64 ((s41 : Nat) : Int)], 182⟩, ⟨b10, #[.int .u64 0, .int .u64 0, .int .u64 0, .int .u64 0], 182⟩] w52)
  clear hs48
  refine hK51 _ _ ?_; clear hK51 K50
  refine wl_nil ?_
  refine hK21 _ _ ?_; (try clear hK21 K20)
  refine wp_seq_k fun K54 hK55 => ?_
  refine wl_begin ?_
  refine sq (r_indexArr (len := 4) (e := 50) (sz := 1) (i := 0) rfl rfl (by kernel_rfl) rfl rfl (by first | decide | exact Nat.zero_lt_succ _)) rfl ?_
  refine sq (r_load rfl (by kernel_rfl) rfl (hs53.box (.head _)) rfl) rfl ?_
  refine sq (r_move rfl) rfl ?_
  refine sq (r_xorN (a := p38) (b := m) (m := 64) (by kernel_rfl) rfl rfl rfl rfl hp42 hm) rfl ?_
  refine sq (r_indexArr (len := 4) (e := 50) (sz := 1) (i := 0) rfl rfl (by kernel_rfl) rfl rfl (by first | decide | exact Nat.zero_lt_succ _)) rfl ?_
  refine sqo rfl fun K56 hK57 => ow_store (vs := [.int .u64 (((p38 ^^^ m) : Nat) : Int)]) hs53 rfl rfl (by kernel_rfl) rfl rfl (.cons trivial .nil) rfl ?_
  rintro w58 (hs59 : St w0 I (ids []) I [⟨b5, #[.int .u64 (((p38 ^^^ m) : Nat) : Int), .int .u64 ((q39 : Nat) : Int), .int .u64 ((r40 : Nat) : Int), .int .u64 ((s41 : Nat) : Int)], 182⟩, ⟨b10, #[.int .u64 0, .int .u64 0, .int .u64 0, .int .u64 0], 182⟩] w58)
  clear hs53
  refine hK57 _ _ ?_; clear hK57 K56
  refine wl_nil ?_
  refine hK55 _ _ ?_; (try clear hK55 K54)
  refine wp_seq_k fun K60 hK61 => ?_
  refine nrm (vals := [(0, .agg #[.int .u64 ((a : Nat) : Int), .int .u64 ((b : Nat) : Int), .int .u64 ((c : Nat) : Int), .int .u64 ((d : Nat) : Int)]), (1, .int .u64 ((m : Nat) : Int)), (2, .pointer (some ⟨b5, 0, none⟩)), (4, .pointer (some ⟨b10, 0, none⟩))]) (.cons rfl (.cons rfl (.cons rfl (.cons rfl .nil)))) fun g62 => ?_
  refine wl_begin ?_
  refine sq (r_loadN (m := 4) rfl (by kernel_rfl) rfl (hs59.box (.head _)) rfl rfl) rfl ?_
  have hs65 : St w0 I (ids []) I [⟨b10, #[.int .u64 0, .int .u64 0, .int .u64 0, .int .u64 0], 182⟩, ⟨b5, #[.int .u64 (((p38 ^^^ m) : Nat) : Int), .int .u64 ((q39 : Nat) : Int), .int .u64 ((r40 : Nat) : Int), .int .u64 ((s41 : Nat) : Int)], 182⟩] w58 := hs59.perm (List.Perm.trans ((List.Perm.refl _).cons _) (List.Perm.swap _ _ _)); clear hs59
  refine sqo rfl fun K63 hK64 => ow_store (vs := [.int .u64 (((p38 ^^^ m) : Nat) : Int), .int .u64 ((q39 : Nat) : Int), .int .u64 ((r40 : Nat) : Int), .int .u64 ((s41 : Nat) : Int)]) hs65 rfl rfl (by kernel_rfl) rfl rfl (.cons trivial (.cons trivial (.cons trivial (.cons trivial .nil)))) rfl ?_
  rintro w66 (hs67 : St w0 I (ids []) I [⟨b10, #[.int .u64 (((p38 ^^^ m) : Nat) : Int), .int .u64 ((q39 : Nat) : Int), .int .u64 ((r40 : Nat) : Int), .int .u64 ((s41 : Nat) : Int)], 182⟩, ⟨b5, #[.int .u64 (((p38 ^^^ m) : Nat) : Int), .int .u64 ((q39 : Nat) : Int), .int .u64 ((r40 : Nat) : Int), .int .u64 ((s41 : Nat) : Int)], 182⟩] w66)
  clear hs65
  refine hK64 _ _ ?_; clear hK64 K63
  refine wl_nil ?_
  refine hK61 _ _ ?_; (try clear hK61 K60)
  refine wp_ret ?_
  exact leave (X' := []) (L := [⟨b10, #[.int .u64 (((p38 ^^^ m) : Nat) : Int), .int .u64 ((q39 : Nat) : Int), .int .u64 ((r40 : Nat) : Int), .int .u64 ((s41 : Nat) : Int)], 182⟩, ⟨b5, #[.int .u64 (((p38 ^^^ m) : Nat) : Int), .int .u64 ((q39 : Nat) : Int), .int .u64 ((r40 : Nat) : Int), .int .u64 ((s41 : Nat) : Int)], 182⟩]) hs67 rfl (res_one (v := .agg #[.int .u64 (((p38 ^^^ m) : Nat) : Int), .int .u64 ((q39 : Nat) : Int), .int .u64 ((r40 : Nat) : Int), .int .u64 ((s41 : Nat) : Int)]) rfl (.agg (m := 4) rfl rfl (by kernel_rfl) (hs67.box (.head _)) rfl rfl .nil)) ⟨_, _, _, _, rfl, rfl, (Nat.xor_lt_two_pow hp42 hm), hq43, hr44, hs_45, (by simp only [takeN]; rw [← es32, ← es46])⟩
set_option maxRecDepth 100000 in
theorem end_ok {I : GH} {a b c d : Nat} (ha : a < 2 ^ 64) (hb : b < 2 ^ 64) (hc : c < 2 ^ 64) (hd : d < 2 ^ 64) : Fn Tryd.prog 108 #[.agg #[.int .u64 ((a : Nat) : Int), .int .u64 ((b : Nat) : Int), .int .u64 ((c : Nat) : Int), .int .u64 ((d : Nat) : Int)]] I [] (fun v J _ => v = .int .u64 ((endN (a, b, c, d) : Nat) : Int) ∧ I = J) := by
  refine enter (args := [.agg #[.int .u64 ((a : Nat) : Int), .int .u64 ((b : Nat) : Int), .int .u64 ((c : Nat) : Int), .int .u64 ((d : Nat) : Int)]]) Tryd.func108 rfl rfl fun w0 hs0 => ?_
  refine wp_seq_k fun K1 hK2 => ?_
  refine wl_begin ?_
  refine sqo rfl fun K3 hK4 => ow_newbox (mk := fun b => .pointer (some ⟨b, 0, none⟩)) hs0 (r_box rfl rfl) rfl ?_
  rintro b5 w6 (hs7 : St w0 I (ids []) I [⟨b5, #[.int .u64 ((a : Nat) : Int), .int .u64 ((b : Nat) : Int), .int .u64 ((c : Nat) : Int), .int .u64 ((d : Nat) : Int)], 182⟩] w6)
  clear hs0
  refine hK4 _ _ ?_; clear hK4 K3
  refine sq (r_assign rfl) rfl ?_
  refine wl_nil ?_
  refine hK2 _ _ ?_; (try clear hK2 K1)
  refine wp_seq_k fun K8 hK9 => ?_
  refine wl_begin ?_
  refine sq (r_indexArr (len := 4) (e := 50) (sz := 1) (i := 2) rfl rfl (by kernel_rfl) rfl rfl (by first | decide | exact Nat.zero_lt_succ _)) rfl ?_
  refine sq (r_load rfl (by kernel_rfl) rfl (hs7.box (.head _)) rfl) rfl ?_
  refine sq (r_xorN (a := c) (b := 255) (m := 64) (by kernel_rfl) rfl rfl rfl rfl hc (by decide)) rfl ?_
  refine sq (r_indexArr (len := 4) (e := 50) (sz := 1) (i := 2) rfl rfl (by kernel_rfl) rfl rfl (by first | decide | exact Nat.zero_lt_succ _)) rfl ?_
  refine sqo rfl fun K10 hK11 => ow_store (vs := [.int .u64 (((c ^^^ 255) : Nat) : Int)]) hs7 rfl rfl (by kernel_rfl) rfl rfl (.cons trivial .nil) rfl ?_
  rintro w12 (hs13 : St w0 I (ids []) I [⟨b5, #[.int .u64 ((a : Nat) : Int), .int .u64 ((b : Nat) : Int), .int .u64 (((c ^^^ 255) : Nat) : Int), .int .u64 ((d : Nat) : Int)], 182⟩] w12)
  clear hs7
  refine hK11 _ _ ?_; clear hK11 K10
  refine wl_nil ?_
  refine hK9 _ _ ?_; (try clear hK9 K8)
  refine wp_seq_k fun K14 hK15 => ?_
  refine wp_seq_k fun K16 hK17 => ?_
  refine wl_begin ?_
  refine sq (r_move rfl) rfl ?_
  refine wl_nil ?_
  refine hK17 _ _ ?_; (try clear hK17 K16)
  refine wp_block ?_
  refine wp_loop_rounds 5 ?_
  refine rounds_S (m := 4) ?_
  refine nrm (vals := [(0, .agg #[.int .u64 ((a : Nat) : Int), .int .u64 ((b : Nat) : Int), .int .u64 ((c : Nat) : Int), .int .u64 ((d : Nat) : Int)]), (1, .pointer (some ⟨b5, 0, none⟩)), (2, .int .u64 0), (7, .int .i64 0)]) (.cons rfl (.cons rfl (.cons rfl (.cons rfl .nil)))) fun g18 => ?_
  refine wp_seq_k fun K19 hK20 => ?_
  refine wl_begin ?_
  refine sq (r_lti rfl rfl rfl rfl) rfl ?_
  refine wl_nil ?_
  refine hK20 _ _ ?_; (try clear hK20 K19)
  refine wp_seq_k fun K21 hK22 => ?_
  refine condT rfl rfl ?_
  refine wp_skip ?_
  refine hK22 _ _ ?_; (try clear hK22 K21)
  refine wp_seq_k fun K23 hK24 => ?_
  refine wp_block ?_
  refine wl_begin ?_
  refine sq (r_loadN (m := 4) rfl (by kernel_rfl) rfl (hs13.box (.head _)) rfl rfl) rfl ?_
  refine sqo rfl fun K25 hK26 => ow_call (X := []) (L := [⟨b5, #[.int .u64 ((a : Nat) : Int), .int .u64 ((b : Nat) : Int), .int .u64 (((c ^^^ 255) : Nat) : Int), .int .u64 ((d : Nat) : Int)], 182⟩]) (lb := []) hs13 (round_ok ha hb (Nat.xor_lt_two_pow hc (by decide)) hd) (by kernel_rfl) rfl rfl rfl rfl rfl ?_
  rintro _ _ X1 w36 ⟨p27, q28, r29, s30, rfl, rfl, hp31, hq32, hr33, hs_34, es35⟩ - hs37 hid38
  obtain rfl : X1 = [] := List.map_eq_nil_iff.1 hid38
  replace hs37 : St w0 I (ids []) I [⟨b5, #[.int .u64 ((a : Nat) : Int), .int .u64 ((b : Nat) : Int), .int .u64 (((c ^^^ 255) : Nat) : Int), .int .u64 ((d : Nat) : Int)], 182⟩] w36 := hs37
  clear hs13 hid38
  refine hK26 _ _ ?_; clear hK26 K25
  refine sqo rfl fun K39 hK40 => ow_store (vs := [.int .u64 ((p27 : Nat) : Int), .int .u64 ((q28 : Nat) : Int), .int .u64 ((r29 : Nat) : Int), .int .u64 ((s30 : Nat) : Int)]) hs37 rfl rfl (by kernel_rfl) rfl rfl (.cons trivial (.cons trivial (.cons trivial (.cons trivial .nil)))) rfl ?_
  rintro w41 (hs42 : St w0 I (ids []) I [⟨b5, #[.int .u64 ((p27 : Nat) : Int), .int .u64 ((q28 : Nat) : Int), .int .u64 ((r29 : Nat) : Int), .int .u64 ((s30 : Nat) : Int)], 182⟩] w41)
  clear hs37
  refine hK40 _ _ ?_; clear hK40 K39
  refine wl_nil ?_
  refine hK24 _ _ ?_; (try clear hK24 K23)
  refine wl_begin ?_
  refine sq (r_addi rfl rfl rfl rfl (by omega)) rfl ?_
  refine sq (r_move rfl) rfl ?_
  refine wl_nil ?_
  refine rounds_S (m := 3) ?_
  refine nrm (vals := [(0, .agg #[.int .u64 ((a : Nat) : Int), .int .u64 ((b : Nat) : Int), .int .u64 ((c : Nat) : Int), .int .u64 ((d : Nat) : Int)]), (1, .pointer (some ⟨b5, 0, none⟩)), (2, .int .u64 0), (7, .int .i64 1), (8, .bool true)]) (.cons rfl (.cons rfl (.cons rfl (.cons rfl (.cons rfl .nil))))) fun g43 => ?_
  refine wp_seq_k fun K44 hK45 => ?_
  refine wl_begin ?_
  refine sq (r_lti rfl rfl rfl rfl) rfl ?_
  refine wl_nil ?_
  refine hK45 _ _ ?_; (try clear hK45 K44)
  refine wp_seq_k fun K46 hK47 => ?_
  refine condT rfl rfl ?_
  refine wp_skip ?_
  refine hK47 _ _ ?_; (try clear hK47 K46)
  refine wp_seq_k fun K48 hK49 => ?_
  refine wp_block ?_
  refine wl_begin ?_
  refine sq (r_loadN (m := 4) rfl (by kernel_rfl) rfl (hs42.box (.head _)) rfl rfl) rfl ?_
  refine sqo rfl fun K50 hK51 => ow_call (X := []) (L := [⟨b5, #[.int .u64 ((p27 : Nat) : Int), .int .u64 ((q28 : Nat) : Int), .int .u64 ((r29 : Nat) : Int), .int .u64 ((s30 : Nat) : Int)], 182⟩]) (lb := []) hs42 (round_ok hp31 hq32 hr33 hs_34) (by kernel_rfl) rfl rfl rfl rfl rfl ?_
  rintro _ _ X1 w61 ⟨p52, q53, r54, s55, rfl, rfl, hp56, hq57, hr58, hs_59, es60⟩ - hs62 hid63
  obtain rfl : X1 = [] := List.map_eq_nil_iff.1 hid63
  replace hs62 : St w0 I (ids []) I [⟨b5, #[.int .u64 ((p27 : Nat) : Int), .int .u64 ((q28 : Nat) : Int), .int .u64 ((r29 : Nat) : Int), .int .u64 ((s30 : Nat) : Int)], 182⟩] w61 := hs62
  clear hs42 hid63
  refine hK51 _ _ ?_; clear hK51 K50
  refine sqo rfl fun K64 hK65 => ow_store (vs := [.int .u64 ((p52 : Nat) : Int), .int .u64 ((q53 : Nat) : Int), .int .u64 ((r54 : Nat) : Int), .int .u64 ((s55 : Nat) : Int)]) hs62 rfl rfl (by kernel_rfl) rfl rfl (.cons trivial (.cons trivial (.cons trivial (.cons trivial .nil)))) rfl ?_
  rintro w66 (hs67 : St w0 I (ids []) I [⟨b5, #[.int .u64 ((p52 : Nat) : Int), .int .u64 ((q53 : Nat) : Int), .int .u64 ((r54 : Nat) : Int), .int .u64 ((s55 : Nat) : Int)], 182⟩] w66)
  clear hs62
  refine hK65 _ _ ?_; clear hK65 K64
  refine wl_nil ?_
  refine hK49 _ _ ?_; (try clear hK49 K48)
  refine wl_begin ?_
  refine sq (r_addi rfl rfl rfl rfl (by omega)) rfl ?_
  refine sq (r_move rfl) rfl ?_
  refine wl_nil ?_
  refine rounds_S (m := 2) ?_
  refine nrm (vals := [(0, .agg #[.int .u64 ((a : Nat) : Int), .int .u64 ((b : Nat) : Int), .int .u64 ((c : Nat) : Int), .int .u64 ((d : Nat) : Int)]), (1, .pointer (some ⟨b5, 0, none⟩)), (2, .int .u64 0), (7, .int .i64 2), (8, .bool true)]) (.cons rfl (.cons rfl (.cons rfl (.cons rfl (.cons rfl .nil))))) fun g68 => ?_
  refine wp_seq_k fun K69 hK70 => ?_
  refine wl_begin ?_
  refine sq (r_lti rfl rfl rfl rfl) rfl ?_
  refine wl_nil ?_
  refine hK70 _ _ ?_; (try clear hK70 K69)
  refine wp_seq_k fun K71 hK72 => ?_
  refine condT rfl rfl ?_
  refine wp_skip ?_
  refine hK72 _ _ ?_; (try clear hK72 K71)
  refine wp_seq_k fun K73 hK74 => ?_
  refine wp_block ?_
  refine wl_begin ?_
  refine sq (r_loadN (m := 4) rfl (by kernel_rfl) rfl (hs67.box (.head _)) rfl rfl) rfl ?_
  refine sqo rfl fun K75 hK76 => ow_call (X := []) (L := [⟨b5, #[.int .u64 ((p52 : Nat) : Int), .int .u64 ((q53 : Nat) : Int), .int .u64 ((r54 : Nat) : Int), .int .u64 ((s55 : Nat) : Int)], 182⟩]) (lb := []) hs67 (round_ok hp56 hq57 hr58 hs_59) (by kernel_rfl) rfl rfl rfl rfl rfl ?_
  rintro _ _ X1 w86 ⟨p77, q78, r79, s80, rfl, rfl, hp81, hq82, hr83, hs_84, es85⟩ - hs87 hid88
  obtain rfl : X1 = [] := List.map_eq_nil_iff.1 hid88
  replace hs87 : St w0 I (ids []) I [⟨b5, #[.int .u64 ((p52 : Nat) : Int), .int .u64 ((q53 : Nat) : Int), .int .u64 ((r54 : Nat) : Int), .int .u64 ((s55 : Nat) : Int)], 182⟩] w86 := hs87
  clear hs67 hid88
  refine hK76 _ _ ?_; clear hK76 K75
  refine sqo rfl fun K89 hK90 => ow_store (vs := [.int .u64 ((p77 : Nat) : Int), .int .u64 ((q78 : Nat) : Int), .int .u64 ((r79 : Nat) : Int), .int .u64 ((s80 : Nat) : Int)]) hs87 rfl rfl (by kernel_rfl) rfl rfl (.cons trivial (.cons trivial (.cons trivial (.cons trivial .nil)))) rfl ?_
  rintro w91 (hs92 : St w0 I (ids []) I [⟨b5, #[.int .u64 ((p77 : Nat) : Int), .int .u64 ((q78 : Nat) : Int), .int .u64 ((r79 : Nat) : Int), .int .u64 ((s80 : Nat) : Int)], 182⟩] w91)
  clear hs87
  refine hK90 _ _ ?_; clear hK90 K89
  refine wl_nil ?_
  refine hK74 _ _ ?_; (try clear hK74 K73)
  refine wl_begin ?_
  refine sq (r_addi rfl rfl rfl rfl (by omega)) rfl ?_
  refine sq (r_move rfl) rfl ?_
  refine wl_nil ?_
  refine rounds_S (m := 1) ?_
  refine nrm (vals := [(0, .agg #[.int .u64 ((a : Nat) : Int), .int .u64 ((b : Nat) : Int), .int .u64 ((c : Nat) : Int), .int .u64 ((d : Nat) : Int)]), (1, .pointer (some ⟨b5, 0, none⟩)), (2, .int .u64 0), (7, .int .i64 3), (8, .bool true)]) (.cons rfl (.cons rfl (.cons rfl (.cons rfl (.cons rfl .nil))))) fun g93 => ?_
  refine wp_seq_k fun K94 hK95 => ?_
  refine wl_begin ?_
  refine sq (r_lti rfl rfl rfl rfl) rfl ?_
  refine wl_nil ?_
  refine hK95 _ _ ?_; (try clear hK95 K94)
  refine wp_seq_k fun K96 hK97 => ?_
  refine condT rfl rfl ?_
  refine wp_skip ?_
  refine hK97 _ _ ?_; (try clear hK97 K96)
  refine wp_seq_k fun K98 hK99 => ?_
  refine wp_block ?_
  refine wl_begin ?_
  refine sq (r_loadN (m := 4) rfl (by kernel_rfl) rfl (hs92.box (.head _)) rfl rfl) rfl ?_
  refine sqo rfl fun K100 hK101 => ow_call (X := []) (L := [⟨b5, #[.int .u64 ((p77 : Nat) : Int), .int .u64 ((q78 : Nat) : Int), .int .u64 ((r79 : Nat) : Int), .int .u64 ((s80 : Nat) : Int)], 182⟩]) (lb := []) hs92 (round_ok hp81 hq82 hr83 hs_84) (by kernel_rfl) rfl rfl rfl rfl rfl ?_
  rintro _ _ X1 w111 ⟨p102, q103, r104, s105, rfl, rfl, hp106, hq107, hr108, hs_109, es110⟩ - hs112 hid113
  obtain rfl : X1 = [] := List.map_eq_nil_iff.1 hid113
  replace hs112 : St w0 I (ids []) I [⟨b5, #[.int .u64 ((p77 : Nat) : Int), .int .u64 ((q78 : Nat) : Int), .int .u64 ((r79 : Nat) : Int), .int .u64 ((s80 : Nat) : Int)], 182⟩] w111 := hs112
  clear hs92 hid113
  refine hK101 _ _ ?_; clear hK101 K100
  refine sqo rfl fun K114 hK115 => ow_store (vs := [.int .u64 ((p102 : Nat) : Int), .int .u64 ((q103 : Nat) : Int), .int .u64 ((r104 : Nat) : Int), .int .u64 ((s105 : Nat) : Int)]) hs112 rfl rfl (by kernel_rfl) rfl rfl (.cons trivial (.cons trivial (.cons trivial (.cons trivial .nil)))) rfl ?_
  rintro w116 (hs117 : St w0 I (ids []) I [⟨b5, #[.int .u64 ((p102 : Nat) : Int), .int .u64 ((q103 : Nat) : Int), .int .u64 ((r104 : Nat) : Int), .int .u64 ((s105 : Nat) : Int)], 182⟩] w116)
  clear hs112
  refine hK115 _ _ ?_; clear hK115 K114
  refine wl_nil ?_
  refine hK99 _ _ ?_; (try clear hK99 K98)
  refine wl_begin ?_
  refine sq (r_addi rfl rfl rfl rfl (by omega)) rfl ?_
  refine sq (r_move rfl) rfl ?_
  refine wl_nil ?_
  refine rounds_S (m := 0) ?_
  refine nrm (vals := [(0, .agg #[.int .u64 ((a : Nat) : Int), .int .u64 ((b : Nat) : Int), .int .u64 ((c : Nat) : Int), .int .u64 ((d : Nat) : Int)]), (1, .pointer (some ⟨b5, 0, none⟩)), (2, .int .u64 0), (7, .int .i64 4), (8, .bool true)]) (.cons rfl (.cons rfl (.cons rfl (.cons rfl (.cons rfl .nil))))) fun g118 => ?_
  refine wp_seq_k fun K119 hK120 => ?_
  refine wl_begin ?_
  refine sq (r_lti rfl rfl rfl rfl) rfl ?_
  refine wl_nil ?_
  refine hK120 _ _ ?_; (try clear hK120 K119)
  refine wp_seq_k fun K121 hK122 => ?_
  refine condF rfl rfl ?_
  refine wp_exit ?_
  refine hK15 _ _ ?_; (try clear hK15 K14)
  refine wp_seq_k fun K123 hK124 => ?_
  refine wl_begin ?_
  refine sq (r_indexArr (len := 4) (e := 50) (sz := 1) (i := 0) rfl rfl (by kernel_rfl) rfl rfl (by first | decide | exact Nat.zero_lt_succ _)) rfl ?_
  refine sq (r_load rfl (by kernel_rfl) rfl (hs117.box (.head _)) rfl) rfl ?_
  refine sq (r_indexArr (len := 4) (e := 50) (sz := 1) (i := 1) rfl rfl (by kernel_rfl) rfl rfl (by first | decide | exact Nat.zero_lt_succ _)) rfl ?_
  refine sq (r_load rfl (by kernel_rfl) rfl (hs117.box (.head _)) rfl) rfl ?_
  refine sq (r_xorN (a := p102) (b := q103) (m := 64) (by kernel_rfl) rfl rfl rfl rfl hp106 hq107) rfl ?_
  refine sq (r_indexArr (len := 4) (e := 50) (sz := 1) (i := 2) rfl rfl (by kernel_rfl) rfl rfl (by first | decide | exact Nat.zero_lt_succ _)) rfl ?_
  refine sq (r_load rfl (by kernel_rfl) rfl (hs117.box (.head _)) rfl) rfl ?_
  refine sq (r_xorN (a := (p102 ^^^ q103)) (b := r104) (m := 64) (by kernel_rfl) rfl rfl rfl rfl (Nat.xor_lt_two_pow hp106 hq107) hr108) rfl ?_
  refine sq (r_indexArr (len := 4) (e := 50) (sz := 1) (i := 3) rfl rfl (by kernel_rfl) rfl rfl (by first | decide | exact Nat.zero_lt_succ _)) rfl ?_
  refine sq (r_load rfl (by kernel_rfl) rfl (hs117.box (.head _)) rfl) rfl ?_
  refine sq (r_xorN (a := ((p102 ^^^ q103) ^^^ r104)) (b := s105) (m := 64) (by kernel_rfl) rfl rfl rfl rfl (Nat.xor_lt_two_pow (Nat.xor_lt_two_pow hp106 hq107) hr108) hs_109) rfl ?_
  refine sq (r_assign rfl) rfl ?_
  refine wl_nil ?_
  refine hK124 _ _ ?_; (try clear hK124 K123)
  refine wp_ret ?_
  exact leave (X' := []) (L := [⟨b5, #[.int .u64 ((p102 : Nat) : Int), .int .u64 ((q103 : Nat) : Int), .int .u64 ((r104 : Nat) : Int), .int .u64 ((s105 : Nat) : Int)], 182⟩]) hs117 rfl (res_one (v := .int .u64 (((((p102 ^^^ q103) ^^^ r104) ^^^ s105) : Nat) : Int)) rfl (.tmp rfl rfl .nil)) ⟨by simp only [endN]; rw [← es35, ← es60, ← es85, ← es110], rfl⟩
set_option maxRecDepth 100000 in
theorem low_ok {I : GH} {v0 : Value} {k : Bs} (hk : BytesAt I v0 k) (hl : k.length ≤ 1000000000) : Fn Tryd.prog 107 #[v0] I [] (fun v J _ => v = .int .u64 ((lowN k : Nat) : Int) ∧ I = J) := by
  obtain ⟨ad, cap, rfl⟩ := bytes_slc hk
  refine enter (args := [.slice ad k.length cap]) Tryd.func107 rfl rfl fun w0 hs0 => ?_
  refine wp_seq_k fun K1 hK2 => ?_
  refine wl_begin ?_
  refine sq (r_assign rfl) rfl ?_
  refine wl_nil ?_
  refine hK2 _ _ ?_; (try clear hK2 K1)
  refine wp_seq_k fun K3 hK4 => ?_
  refine wl_begin ?_
  refine sq (r_assign rfl) rfl ?_
  refine wl_nil ?_
  refine hK4 _ _ ?_; (try clear hK4 K3)
  refine wp_seq_k fun K5 hK6 => ?_
  refine wp_seq_k fun K7 hK8 => ?_
  refine wl_begin ?_
  refine sq (r_move rfl) rfl ?_
  refine sq (r_lens rfl (by kernel_rfl) rfl) rfl ?_
  refine sq (r_min rfl rfl rfl rfl) rfl ?_
  refine sq (r_subi rfl rfl rfl rfl (by omega)) rfl ?_
  refine sq (r_assign rfl) rfl ?_
  refine wl_nil ?_
  refine hK8 _ _ ?_; (try clear hK8 K7)
  refine wp_block ?_
  refine nrm (vals := [(0, .slice ad k.length cap), (2, .int .u64 0), (3, .int .u64 ((((k.take 8).drop (k.take 8).length).foldr lowStep 0 : Nat) : Int)), (4, .int .i64 ((((k.take 8).length : Nat) : Int) - 1))]) (.cons rfl (.cons rfl (.cons (show Value.int .u64 0 = .int .u64 ((((k.take 8).drop (k.take 8).length).foldr lowStep 0 : Nat) : Int) by rw [List.drop_length]; rfl) (.cons (congrArg (Value.int .i64) (show (min ((k.length : Nat) : Int) 8 - 1 : Int) = (((k.take 8).length : Nat) : Int) - 1 by rw [List.length_take]; omega)) .nil)))) fun g9 => ?_
  refine lp (σ := Nat) (fun m11 f12 w13 => ∃ (g10 : Nat → Value) (j : Nat), m11 = 0 + j ∧ f12 = updL g10 [(0, .slice ad k.length cap), (2, .int .u64 0), (3, .int .u64 ((((k.take 8).drop j).foldr lowStep 0 : Nat) : Int)), (4, .int .i64 (((j : Nat) : Int) - 1))] ∧ (j ≤ (k.take 8).length) ∧ St w0 I (ids []) I [] w13) (fun m => m) (0 + (k.take 8).length) ⟨_, (k.take 8).length, rfl, updL_self (.cons rfl (.cons rfl (.cons rfl (.cons rfl .nil)))), (Nat.le_refl _), hs0⟩ ?_
  clear hs0
  rintro m11 f12 w13 ⟨g10, j, rfl, rfl, hj, hs14⟩
  refine wp_seq_k fun K15 hK16 => ?_
  refine wp_seq_k fun K17 hK18 => ?_
  refine wl_begin ?_
  refine sq (r_move rfl) rfl ?_
  refine sq (r_gei rfl rfl rfl rfl) rfl ?_
  refine wl_nil ?_
  refine hK18 _ _ ?_; (try clear hK18 K17)
  refine condS rfl rfl (fun h19 => ?_) (fun h19 => ?_)
  ·
    have p20 := of_decide_eq_true h19
    have hlt : j - 1 < (k.take 8).length := by omega
    have hlt2 : j - 1 < k.length := by simp only [List.length_take] at hlt; omega
    obtain ⟨b, off, cs, T0, fz, hbe, hb, hu⟩ := bytes_at hk hlt2
    cases hbe
    have hstep : ((k.take 8).drop (j - 1)).foldr lowStep 0 = lowStep (k[j - 1]'hlt2) (((k.take 8).drop j).foldr lowStep 0) := by rw [low_drop hlt, show j - 1 + 1 = j by omega, List.getElem_take]
    have hji : ((j : Nat) : Int) - 1 = ((j - 1 : Nat) : Int) := by omega
    refine wp_skip ?_
    refine hK16 _ _ ?_; (try clear hK16 K15)
    refine wp_seq_k fun K21 hK22 => ?_
    refine wp_block ?_
    refine wl_begin ?_
    refine sq (r_move rfl) rfl ?_
    refine sq (r_shlN (a := ((k.take 8).drop j).foldr lowStep 0) (b := 8) (m := 64) (by kernel_rfl) rfl rfl rfl rfl (by omega)) rfl ?_
    refine sq (r_move rfl) rfl ?_
    refine sq (r_move rfl) rfl ?_
    refine sq (r_index (e := 5) (sz := 1) (i := (j - 1)) rfl rfl (by kernel_rfl) rfl (congrArg (Value.int .i64) hji) hlt2) rfl ?_
    refine sq (r_load rfl (by kernel_rfl) rfl (hs14.imm hb) hu) rfl ?_
    refine sq (r_convN (j := .u64) (a := ((k[j - 1]'hlt2).toNat)) (m := 64) (r_convInt rfl (by kernel_rfl) (by kernel_rfl) rfl) (by kernel_rfl) (Nat.lt_trans (u8_lt _) (by decide))) rfl ?_
    refine sq (r_addN (a := ((((k.take 8).drop j).foldr lowStep 0) * 2 ^ 8 % 2 ^ 64)) (b := ((k[j - 1]'hlt2).toNat)) (m := 64) (by kernel_rfl) rfl rfl rfl rfl) rfl ?_
    refine sq (r_assign rfl) rfl ?_
    refine wl_nil ?_
    refine hK22 _ _ ?_; (try clear hK22 K21)
    refine wl_begin ?_
    refine sq (r_move rfl) rfl ?_
    refine sq (r_subi rfl rfl rfl rfl (by omega)) rfl ?_
    refine sq (r_assign rfl) rfl ?_
    refine wl_nil ?_
    exact ⟨_, _, rfl, ⟨_, (j - 1), rfl, updL_self (.cons rfl (.cons rfl (.cons (congrArg (fun z : Nat => Value.int .u64 (z : Int)) hstep.symm) (.cons (congrArg (Value.int .i64) (show (((j : Nat) : Int) - 1 - 1 : Int) = ((j - 1 : Nat) : Int) - 1 by omega)) .nil)))), (by omega), hs14⟩, (by omega)⟩
  ·
    have p23 := of_decide_eq_false h19
    have hj0 : j = 0 := by omega
    refine wp_exit ?_
    refine hK6 _ _ ?_; (try clear hK6 K5)
    refine wp_seq_k fun K24 hK25 => ?_
    refine wl_begin ?_
    refine sq (r_move rfl) rfl ?_
    refine sq (r_assign rfl) rfl ?_
    refine wl_nil ?_
    refine hK25 _ _ ?_; (try clear hK25 K24)
    refine wp_ret ?_
    exact leave (X' := []) (L := []) hs14 rfl (res_one (v := .int .u64 ((((k.take 8).drop j).foldr lowStep 0 : Nat) : Int)) rfl (.tmp rfl rfl .nil)) ⟨by subst hj0; rfl, rfl⟩
end Go.Proofs.YtlnlodfnplkckaaDoor
/- The contracts of sip.Begin, sip.Hash. -/
namespace Go.Proofs.YtlnlodfnplkckaaDoor
set_option linter.unusedVariables false
set_option linter.unusedSimpArgs false
section
variable {P : Program} {f : Nat → Value} {n : Fr} {w : World} {d : Option Tmp} {ty : TypeId} {pos : String} {af : Array Edge} {g : Option (Nat × Bool)} {x : Operand}
theorem r_convM {src dst : TypeId} {j : IntKind} {a m : Nat} (hr : (execOp (FA f n).eval ⟨d, .convert src dst x, ty, pos, af, g⟩).run P w = .ok (.value (.int j (j.wrap (a : Int)))) w) (hk : unsT j m = true) :
    (execOp (FA f n).eval ⟨d, .convert src dst x, ty, pos, af, g⟩).run P w = .ok (.value (.int j ((a % 2 ^ m : Nat) : Int))) w := by rw [hr, wrapM hk]
end
/-- What a seed is laid over lies where it is laid. -/
def StartG (I : GH) : Prop := ∃ T fz, I 0 = some (.cells #[.int .u64 8317987319222330741, .int .u64 7237128888997146477, .int .u64 7816392313619706465, .int .u64 8387220255154660723] T fz)
theorem StartG.up {I J : GH} (h : StartG I) (hle : I.le J) : StartG J := by
  obtain ⟨T, fz, h1⟩ := h; exact ⟨T, fz, hle _ _ h1⟩
def beginN (s : Nat → UInt8) : S4 := (8317987319222330741 ^^^ lowN [s 0, s 1, s 2, s 3, s 4, s 5, s 6, s 7], 7237128888997146477 ^^^ lowN [s 8, s 9, s 10, s 11, s 12, s 13, s 14, s 15], 7816392313619706465 ^^^ lowN [s 0, s 1, s 2, s 3, s 4, s 5, s 6, s 7], 8387220255154660723 ^^^ lowN [s 8, s 9, s 10, s 11, s 12, s 13, s 14, s 15])
def absorbN : Nat → S4 → Bs → S4
  | 0, x, _ => x
  | i + 1, x, k => takeN (absorbN i x k) (lowN (k.drop (8 * i)))
def hashN (s : Nat → UInt8) (k : Bs) : Nat := endN (takeN (absorbN (k.length / 8) (beginN s) k) ((k.length % 2 ^ 8 * 2 ^ 56 % 2 ^ 64) ||| lowN (k.drop (8 * (k.length / 8)))))
def S4.ok (x : S4) : Prop := x.1 < 2 ^ 64 ∧ x.2.1 < 2 ^ 64 ∧ x.2.2.1 < 2 ^ 64 ∧ x.2.2.2 < 2 ^ 64
theorem round_S4 {x : S4} (h : S4.ok x) : S4.ok (roundN x) := by
  obtain ⟨h1, h2, h3, h4⟩ := h
  have m1 := mixN_lt (a := x.1) (k := 13) h2
  have m2 := mixN_lt (a := x.2.2.1) (k := 16) h4
  have m3 := mixN_lt (a := rotN (mixN x.1 x.2.1 13).1 32) (k := 21) m2.2
  have m4 := mixN_lt (a := (mixN x.2.2.1 x.2.2.2 16).1) (k := 17) m1.2
  exact ⟨m3.1, m4.2, rotN_lt m4.1, m3.2⟩
theorem end_S4 {x : S4} (h : S4.ok x) : endN x < 2 ^ 64 := by
  have h1 : S4.ok (x.1, x.2.1, x.2.2.1 ^^^ 255, x.2.2.2) := ⟨h.1, h.2.1, Nat.xor_lt_two_pow h.2.2.1 (by decide), h.2.2.2⟩
  have h5 := round_S4 (round_S4 (round_S4 (round_S4 h1)))
  exact Nat.xor_lt_two_pow (Nat.xor_lt_two_pow (Nat.xor_lt_two_pow h5.1 h5.2.1) h5.2.2.1) h5.2.2.2
theorem endN_lt {a b c d : Nat} (ha : a < 2 ^ 64) (hb : b < 2 ^ 64) (hc : c < 2 ^ 64) (hd : d < 2 ^ 64) : endN (a, b, c, d) < 2 ^ 64 := end_S4 ⟨ha, hb, hc, hd⟩
theorem take_S4 {x : S4} {m : Nat} (h : S4.ok x) (hm : m < 2 ^ 64) : S4.ok (takeN x m) := by
  have h1 : S4.ok (x.1, x.2.1, x.2.2.1, x.2.2.2 ^^^ m) := ⟨h.1, h.2.1, h.2.2.1, Nat.xor_lt_two_pow h.2.2.2 hm⟩
  have h3 := round_S4 (round_S4 h1)
  exact ⟨Nat.xor_lt_two_pow h3.1 hm, h3.2.1, h3.2.2.1, h3.2.2.2⟩
theorem begin_S4 (s : Nat → UInt8) : S4.ok (beginN s) :=
  ⟨Nat.xor_lt_two_pow (by decide) (lowN_lt _), Nat.xor_lt_two_pow (by decide) (lowN_lt _), Nat.xor_lt_two_pow (by decide) (lowN_lt _), Nat.xor_lt_two_pow (by decide) (lowN_lt _)⟩
theorem absorb_S4 {x : S4} (h : S4.ok x) (k : Bs) : ∀ i, S4.ok (absorbN i x k)
  | 0 => h
  | i + 1 => take_S4 (absorb_S4 h k i) (lowN_lt _)
theorem hashN_lt (s : Nat → UInt8) (k : Bs) : hashN s k < 2 ^ 64 :=
  end_S4 (take_S4 (absorb_S4 (begin_S4 s) k _) (Nat.or_lt_two_pow (Nat.mod_lt _ (by decide)) (lowN_lt _)))
set_option maxRecDepth 100000 in
theorem begin_ok {I : GH} (hst : StartG I) {s : Nat → UInt8} : Fn Tryd.prog 105 #[.agg #[bV (s 0), bV (s 1), bV (s 2), bV (s 3), bV (s 4), bV (s 5), bV (s 6), bV (s 7), bV (s 8), bV (s 9), bV (s 10), bV (s 11), bV (s 12), bV (s 13), bV (s 14), bV (s 15)]] I [] (fun v J _ => ∃ p q r t, v = .agg #[.int .u64 ((p : Nat) : Int), .int .u64 ((q : Nat) : Int), .int .u64 ((r : Nat) : Int), .int .u64 ((t : Nat) : Int)] ∧ p < 2 ^ 64 ∧ q < 2 ^ 64 ∧ r < 2 ^ 64 ∧ t < 2 ^ 64 ∧ (p, q, r, t) = beginN s) := by
  obtain ⟨T0, fz, hst⟩ := hst
  refine enter (args := [.agg #[(bV (s 0)), (bV (s 1)), (bV (s 2)), (bV (s 3)), (bV (s 4)), (bV (s 5)), (bV (s 6)), (bV (s 7)), (bV (s 8)), (bV (s 9)), (bV (s 10)), (bV (s 11)), (bV (s 12)), (bV (s 13)), (bV (s 14)), (bV (s 15))]]) Tryd.func105 rfl rfl fun w0 hs0 => ?_
  refine wp_seq_k fun K1 hK2 => ?_
  refine wl_begin ?_
  refine sqo rfl fun K3 hK4 => ow_newimm (mk := fun b => .pointer (some ⟨b, 0, none⟩)) hs0 (r_box rfl rfl) rfl ?_
  rintro b5 G1 w6 hb7 le8 hs9 ge10
  clear hs0
  replace hb7 : G1 b5 = some (.cells #[(bV (s 0)), (bV (s 1)), (bV (s 2)), (bV (s 3)), (bV (s 4)), (bV (s 5)), (bV (s 6)), (bV (s 7)), (bV (s 8)), (bV (s 9)), (bV (s 10)), (bV (s 11)), (bV (s 12)), (bV (s 13)), (bV (s 14)), (bV (s 15))] 23 (0, 0)) := hb7
  refine hK4 _ _ ?_; clear hK4 K3
  refine sqo rfl fun K11 hK12 => ow_newbox (mk := fun b => .pointer (some ⟨b, 0, none⟩)) hs9 (r_alloc (cs := [.int .u64 0, .int .u64 0, .int .u64 0, .int .u64 0]) (by kernel_rfl)) rfl ?_
  rintro b13 w14 (hs15 : St w0 I (ids []) G1 [⟨b13, #[.int .u64 0, .int .u64 0, .int .u64 0, .int .u64 0], 182⟩] w14)
  clear hs9
  refine hK12 _ _ ?_; clear hK12 K11
  refine wl_nil ?_
  refine hK2 _ _ ?_; (try clear hK2 K1)
  refine wp_seq_k fun K16 hK17 => ?_
  refine wl_begin ?_
  refine sqo rfl fun K18 hK19 => ow_newbox (mk := fun b => .pointer (some ⟨b, 0, none⟩)) hs15 (r_alloc (cs := [.int .u64 0, .int .u64 0, .int .u64 0, .int .u64 0]) (by kernel_rfl)) rfl ?_
  rintro b20 w21 (hs22 : St w0 I (ids []) G1 [⟨b20, #[.int .u64 0, .int .u64 0, .int .u64 0, .int .u64 0], 182⟩, ⟨b13, #[.int .u64 0, .int .u64 0, .int .u64 0, .int .u64 0], 182⟩] w21)
  clear hs15
  refine hK19 _ _ ?_; clear hK19 K18
  refine wl_nil ?_
  refine hK17 _ _ ?_; (try clear hK17 K16)
  refine wp_seq_k fun K23 hK24 => ?_
  refine wp_seq_k fun K25 hK26 => ?_
  refine wl_begin ?_
  refine sq (r_move rfl) rfl ?_
  refine wl_nil ?_
  refine hK26 _ _ ?_; (try clear hK26 K25)
  refine wp_block ?_
  refine wp_loop_rounds 5 ?_
  refine rounds_S (m := 4) ?_
  refine nrm (vals := [(0, .agg #[(bV (s 0)), (bV (s 1)), (bV (s 2)), (bV (s 3)), (bV (s 4)), (bV (s 5)), (bV (s 6)), (bV (s 7)), (bV (s 8)), (bV (s 9)), (bV (s 10)), (bV (s 11)), (bV (s 12)), (bV (s 13)), (bV (s 14)), (bV (s 15))]), (1, .pointer (some ⟨b5, 0, none⟩)), (2, .pointer (some ⟨b13, 0, none⟩)), (3, .pointer (some ⟨b20, 0, none⟩)), (6, .int .i64 0)]) (.cons rfl (.cons rfl (.cons rfl (.cons rfl (.cons rfl .nil))))) fun g27 => ?_
  refine wp_seq_k fun K28 hK29 => ?_
  refine wl_begin ?_
  refine sq (r_lti rfl rfl rfl rfl) rfl ?_
  refine wl_nil ?_
  refine hK29 _ _ ?_; (try clear hK29 K28)
  refine wp_seq_k fun K30 hK31 => ?_
  refine condT rfl rfl ?_
  refine wp_skip ?_
  refine hK31 _ _ ?_; (try clear hK31 K30)
  refine wp_seq_k fun K32 hK33 => ?_
  refine wp_block ?_
  refine wp_seq_k fun K34 hK35 => ?_
  refine wl_begin ?_
  refine sq (r_move rfl) rfl ?_
  refine sq (r_assign rfl) rfl ?_
  refine wl_nil ?_
  refine hK35 _ _ ?_; (try clear hK35 K34)
  refine wp_seq_k fun K36 hK37 => ?_
  refine wl_begin ?_
  refine sq (r_move rfl) rfl ?_
  refine sq (r_remN (a := 0) (b := 2) rfl rfl rfl rfl (by omega)) rfl ?_
  refine sq (r_muli rfl rfl rfl rfl (by omega)) rfl ?_
  refine sq (r_assign rfl) rfl ?_
  refine wl_nil ?_
  refine hK37 _ _ ?_; (try clear hK37 K36)
  refine draw_begin (S := SS G1 [⟨b13, #[.int .u64 0, .int .u64 0, .int .u64 0, .int .u64 0], 182⟩]) (by kernel_rfl) ?_
  have hs38 := hs22.drew; clear hs22
  have hss := hs38.ss (I := G1) (GH.le.refl _) (SubL.sub (.cons (.tail _ (.head _)) .nil))
  refine dt 0 rfl (by kernel_rfl) (fun _ _ _ h => h) hss (fun _ h => r_move rfl) rfl ?_
  refine dt 1 rfl (by kernel_rfl) (fun _ _ _ h => h) hss (fun _ h => r_move rfl) rfl ?_
  refine dt 2 rfl (by kernel_rfl) (fun _ _ _ h => h) hss (fun _ h => (r_indexArr (len := 4) (e := 50) (sz := 1) (i := 0) rfl rfl (by kernel_rfl) rfl rfl (by first | decide | exact Nat.zero_lt_succ _))) rfl ?_
  refine dt 3 rfl (by kernel_rfl) (fun _ _ _ h => h) hss (fun _ h => r_load rfl (by kernel_rfl) rfl (h.imm (le8 _ _ hst)) rfl) rfl ?_
  refine dt 4 rfl (by kernel_rfl) (fun _ _ _ h => h) hss (fun _ h => r_move rfl) rfl ?_
  refine dt 5 rfl (by kernel_rfl) (fun _ _ _ h => h) hss (fun _ h => r_move rfl) rfl ?_
  refine nrmD (vals := [(0, .agg #[(bV (s 0)), (bV (s 1)), (bV (s 2)), (bV (s 3)), (bV (s 4)), (bV (s 5)), (bV (s 6)), (bV (s 7)), (bV (s 8)), (bV (s 9)), (bV (s 10)), (bV (s 11)), (bV (s 12)), (bV (s 13)), (bV (s 14)), (bV (s 15))]), (1, .pointer (some ⟨b5, 0, none⟩)), (2, .pointer (some ⟨b13, 0, none⟩)), (3, .pointer (some ⟨b20, 0, none⟩)), (4, .int .i64 0), (5, .int .i64 0), (6, .int .i64 0), (7, .bool true), (12, .int .i64 0), (15, .int .u64 8317987319222330741), (16, .int .i64 0), (17, .int .i64 0)]) (.cons rfl (.cons rfl (.cons rfl (.cons rfl (.cons rfl (.cons rfl (.cons rfl (.cons rfl (.cons rfl (.cons rfl (.cons rfl (.cons rfl .nil)))))))))))) fun g39 => ?_
  refine dt 6 rfl (by kernel_rfl) (fun _ _ _ h => h) hss (fun _ h => (r_addi rfl rfl rfl rfl (by omega))) rfl ?_
  refine dt 7 rfl (by kernel_rfl) (fun _ _ _ h => h) hss (fun _ h => (r_sliceArr (len := 16) (e := 5) (sz := 1) (l := 0) (h := 8) rfl rfl rfl (by kernel_rfl) rfl rfl rfl (by decide) (by decide))) rfl ?_
  refine dro 8 (by kernel_rfl) rfl (ow_call (X := []) (L := [⟨b20, #[.int .u64 0, .int .u64 0, .int .u64 0, .int .u64 0], 182⟩, ⟨b13, #[.int .u64 0, .int .u64 0, .int .u64 0, .int .u64 0], 182⟩]) (lb := []) hs38 (low_ok (k := [s 0, s 1, s 2, s 3, s 4, s 5, s 6, s 7]) (bytes_lit (off := 0) (len := 8) (cap := 16) (k := [s 0, s 1, s 2, s 3, s 4, s 5, s 6, s 7]) hb7 rfl (by decide) rfl) (by simp)) (by kernel_rfl) rfl rfl rfl rfl rfl ?_)
  rintro _ _ X1 w40 ⟨rfl, rfl⟩ - hs41 hid42
  obtain rfl : X1 = [] := List.map_eq_nil_iff.1 hid42
  replace hs41 : St w0 I (ids []) G1 [⟨b20, #[.int .u64 0, .int .u64 0, .int .u64 0, .int .u64 0], 182⟩, ⟨b13, #[.int .u64 0, .int .u64 0, .int .u64 0, .int .u64 0], 182⟩] w40 := hs41
  clear hs38 hid42
  replace hss := hs41.ss (I := G1) (GH.le.refl _) (SubL.sub (.cons (.tail _ (.head _)) .nil))
  refine ⟨hss, ?_⟩
  refine dt 9 rfl (by kernel_rfl) (fun _ _ _ h => h) hss (fun _ h => (r_xorN (a := 8317987319222330741) (b := (lowN [s 0, s 1, s 2, s 3, s 4, s 5, s 6, s 7])) (m := 64) (by kernel_rfl) rfl rfl rfl rfl (by decide) (lowN_lt _))) rfl ?_
  refine dt 10 rfl (by kernel_rfl) (fun _ _ _ h => h) hss (fun _ h => (r_indexArr (len := 4) (e := 50) (sz := 1) (i := 0) rfl rfl (by kernel_rfl) rfl rfl (by first | decide | exact Nat.zero_lt_succ _))) rfl ?_
  refine dro 11 (by kernel_rfl) rfl (ow_store (vs := [.int .u64 (((8317987319222330741 ^^^ (lowN [s 0, s 1, s 2, s 3, s 4, s 5, s 6, s 7])) : Nat) : Int)]) hs41 rfl rfl (by kernel_rfl) rfl rfl (.cons trivial .nil) rfl ?_)
  rintro w43 (hs44 : St w0 I (ids []) G1 [⟨b20, #[.int .u64 (((8317987319222330741 ^^^ (lowN [s 0, s 1, s 2, s 3, s 4, s 5, s 6, s 7])) : Nat) : Int), .int .u64 0, .int .u64 0, .int .u64 0], 182⟩, ⟨b13, #[.int .u64 0, .int .u64 0, .int .u64 0, .int .u64 0], 182⟩] w43)
  clear hs41
  replace hss := hs44.ss (I := G1) (GH.le.refl _) (SubL.sub (.cons (.tail _ (.head _)) .nil))
  refine ⟨hss, ?_⟩
  refine draw_done (by kernel_rfl) ?_
  refine hK33 _ _ ?_; (try clear hK33 K32)
  refine wl_begin ?_
  refine sq (r_addi rfl rfl rfl rfl (by omega)) rfl ?_
  refine sq (r_move rfl) rfl ?_
  refine wl_nil ?_
  refine rounds_S (m := 3) ?_
  refine nrm (vals := [(0, .agg #[(bV (s 0)), (bV (s 1)), (bV (s 2)), (bV (s 3)), (bV (s 4)), (bV (s 5)), (bV (s 6)), (bV (s 7)), (bV (s 8)), (bV (s 9)), (bV (s 10)), (bV (s 11)), (bV (s 12)), (bV (s 13)), (bV (s 14)), (bV (s 15))]), (1, .pointer (some ⟨b5, 0, none⟩)), (2, .pointer (some ⟨b13, 0, none⟩)), (3, .pointer (some ⟨b20, 0, none⟩)), (4, .int .i64 0), (5, .int .i64 0), (6, .int .i64 1), (7, .bool true)]) (.cons rfl (.cons rfl (.cons rfl (.cons rfl (.cons rfl (.cons rfl (.cons rfl (.cons rfl .nil)))))))) fun g45 => ?_
  refine wp_seq_k fun K46 hK47 => ?_
  refine wl_begin ?_
  refine sq (r_lti rfl rfl rfl rfl) rfl ?_
  refine wl_nil ?_
  refine hK47 _ _ ?_; (try clear hK47 K46)
  refine wp_seq_k fun K48 hK49 => ?_
  refine condT rfl rfl ?_
  refine wp_skip ?_
  refine hK49 _ _ ?_; (try clear hK49 K48)
  refine wp_seq_k fun K50 hK51 => ?_
  refine wp_block ?_
  refine wp_seq_k fun K52 hK53 => ?_
  refine wl_begin ?_
  refine sq (r_move rfl) rfl ?_
  refine sq (r_assign rfl) rfl ?_
  refine wl_nil ?_
  refine hK53 _ _ ?_; (try clear hK53 K52)
  refine wp_seq_k fun K54 hK55 => ?_
  refine wl_begin ?_
  refine sq (r_move rfl) rfl ?_
  refine sq (r_remN (a := 1) (b := 2) rfl rfl rfl rfl (by omega)) rfl ?_
  refine sq (r_muli rfl rfl rfl rfl (by omega)) rfl ?_
  refine sq (r_assign rfl) rfl ?_
  refine wl_nil ?_
  refine hK55 _ _ ?_; (try clear hK55 K54)
  refine draw_begin (S := SS G1 [⟨b13, #[.int .u64 0, .int .u64 0, .int .u64 0, .int .u64 0], 182⟩]) (by kernel_rfl) ?_
  have hs56 := hs44.drew; clear hs44
  have hss := hs56.ss (I := G1) (GH.le.refl _) (SubL.sub (.cons (.tail _ (.head _)) .nil))
  refine dt 0 rfl (by kernel_rfl) (fun _ _ _ h => h) hss (fun _ h => r_move rfl) rfl ?_
  refine dt 1 rfl (by kernel_rfl) (fun _ _ _ h => h) hss (fun _ h => r_move rfl) rfl ?_
  refine dt 2 rfl (by kernel_rfl) (fun _ _ _ h => h) hss (fun _ h => (r_indexArr (len := 4) (e := 50) (sz := 1) (i := 1) rfl rfl (by kernel_rfl) rfl rfl (by first | decide | exact Nat.zero_lt_succ _))) rfl ?_
  refine dt 3 rfl (by kernel_rfl) (fun _ _ _ h => h) hss (fun _ h => r_load rfl (by kernel_rfl) rfl (h.imm (le8 _ _ hst)) rfl) rfl ?_
  refine dt 4 rfl (by kernel_rfl) (fun _ _ _ h => h) hss (fun _ h => r_move rfl) rfl ?_
  refine dt 5 rfl (by kernel_rfl) (fun _ _ _ h => h) hss (fun _ h => r_move rfl) rfl ?_
  refine nrmD (vals := [(0, .agg #[(bV (s 0)), (bV (s 1)), (bV (s 2)), (bV (s 3)), (bV (s 4)), (bV (s 5)), (bV (s 6)), (bV (s 7)), (bV (s 8)), (bV (s 9)), (bV (s 10)), (bV (s 11)), (bV (s 12)), (bV (s 13)), (bV (s 14)), (bV (s 15))]), (1, .pointer (some ⟨b5, 0, none⟩)), (2, .pointer (some ⟨b13, 0, none⟩)), (3, .pointer (some ⟨b20, 0, none⟩)), (4, .int .i64 1), (5, .int .i64 8), (6, .int .i64 1), (7, .bool true), (12, .int .i64 1), (15, .int .u64 7237128888997146477), (16, .int .i64 8), (17, .int .i64 8)]) (.cons rfl (.cons rfl (.cons rfl (.cons rfl (.cons rfl (.cons rfl (.cons rfl (.cons rfl (.cons rfl (.cons rfl (.cons rfl (.cons rfl .nil)))))))))))) fun g57 => ?_
  refine dt 6 rfl (by kernel_rfl) (fun _ _ _ h => h) hss (fun _ h => (r_addi rfl rfl rfl rfl (by omega))) rfl ?_
  refine dt 7 rfl (by kernel_rfl) (fun _ _ _ h => h) hss (fun _ h => (r_sliceArr (len := 16) (e := 5) (sz := 1) (l := 8) (h := 16) rfl rfl rfl (by kernel_rfl) rfl rfl rfl (by decide) (by decide))) rfl ?_
  refine dro 8 (by kernel_rfl) rfl (ow_call (X := []) (L := [⟨b20, #[.int .u64 (((8317987319222330741 ^^^ (lowN [s 0, s 1, s 2, s 3, s 4, s 5, s 6, s 7])) : Nat) : Int), .int .u64 0, .int .u64 0, .int .u64 0], 182⟩, ⟨b13, #[.int .u64 0, .int .u64 0, .int .u64 0, .int .u64 0], 182⟩]) (lb := []) hs56 (low_ok (k := [s 8, s 9, s 10, s 11, s 12, s 13, s 14, s 15]) (bytes_lit (off := 8) (len := 8) (cap := 8) (k := [s 8, s 9, s 10, s 11, s 12, s 13, s 14, s 15]) hb7 rfl (by decide) rfl) (by simp)) (by kernel_rfl) rfl rfl rfl rfl rfl ?_)
  rintro _ _ X1 w58 ⟨rfl, rfl⟩ - hs59 hid60
  obtain rfl : X1 = [] := List.map_eq_nil_iff.1 hid60
  replace hs59 : St w0 I (ids []) G1 [⟨b20, #[.int .u64 (((8317987319222330741 ^^^ (lowN [s 0, s 1, s 2, s 3, s 4, s 5, s 6, s 7])) : Nat) : Int), .int .u64 0, .int .u64 0, .int .u64 0], 182⟩, ⟨b13, #[.int .u64 0, .int .u64 0, .int .u64 0, .int .u64 0], 182⟩] w58 := hs59
  clear hs56 hid60
  replace hss := hs59.ss (I := G1) (GH.le.refl _) (SubL.sub (.cons (.tail _ (.head _)) .nil))
  refine ⟨hss, ?_⟩
  refine dt 9 rfl (by kernel_rfl) (fun _ _ _ h => h) hss (fun _ h => (r_xorN (a := 7237128888997146477) (b := (lowN [s 8, s 9, s 10, s 11, s 12, s 13, s 14, s 15])) (m := 64) (by kernel_rfl) rfl rfl rfl rfl (by decide) (lowN_lt _))) rfl ?_
  refine dt 10 rfl (by kernel_rfl) (fun _ _ _ h => h) hss (fun _ h => (r_indexArr (len := 4) (e := 50) (sz := 1) (i := 1) rfl rfl (by kernel_rfl) rfl rfl (by first | decide | exact Nat.zero_lt_succ _))) rfl ?_
  refine dro 11 (by kernel_rfl) rfl (ow_store (vs := [.int .u64 (((7237128888997146477 ^^^ (lowN [s 8, s 9, s 10, s 11, s 12, s 13, s 14, s 15])) : Nat) : Int)]) hs59 rfl rfl (by kernel_rfl) rfl rfl (.cons trivial .nil) rfl ?_)
  rintro w61 (hs62 : St w0 I (ids []) G1 [⟨b20, #[.int .u64 (((8317987319222330741 ^^^ (lowN [s 0, s 1, s 2, s 3, s 4, s 5, s 6, s 7])) : Nat) : Int), .int .u64 (((7237128888997146477 ^^^ (lowN [s 8, s 9, s 10, s 11, s 12, s 13, s 14, s 15])) : Nat) : Int), .int .u64 0, .int .u64 0], 182⟩, ⟨b13, #[.int .u64 0, .int .u64 0, .int .u64 0, .int .u64 0], 182⟩] w61)
  clear hs59
  replace hss := hs62.ss (I := G1) (GH.le.refl _) (SubL.sub (.cons (.tail _ (.head _)) .nil))
  refine ⟨hss, ?_⟩
  refine draw_done (by kernel_rfl) ?_
  refine hK51 _ _ ?_; (try clear hK51 K50)
  refine wl_begin ?_
  refine sq (r_addi rfl rfl rfl rfl (by omega)) rfl ?_
  refine sq (r_move rfl) rfl ?_
  refine wl_nil ?_
  refine rounds_S (m := 2) ?_
  refine nrm (vals := [(0, .agg #[(bV (s 0)), (bV (s 1)), (bV (s 2)), (bV (s 3)), (bV (s 4)), (bV (s 5)), (bV (s 6)), (bV (s 7)), (bV (s 8)), (bV (s 9)), (bV (s 10)), (bV (s 11)), (bV (s 12)), (bV (s 13)), (bV (s 14)), (bV (s 15))]), (1, .pointer (some ⟨b5, 0, none⟩)), (2, .pointer (some ⟨b13, 0, none⟩)), (3, .pointer (some ⟨b20, 0, none⟩)), (4, .int .i64 1), (5, .int .i64 8), (6, .int .i64 2), (7, .bool true)]) (.cons rfl (.cons rfl (.cons rfl (.cons rfl (.cons rfl (.cons rfl (.cons rfl (.cons rfl .nil)))))))) fun g63 => ?_
  refine wp_seq_k fun K64 hK65 => ?_
  refine wl_begin ?_
  refine sq (r_lti rfl rfl rfl rfl) rfl ?_
  refine wl_nil ?_
  refine hK65 _ _ ?_; (try clear hK65 K64)
  refine wp_seq_k fun K66 hK67 => ?_
  refine condT rfl rfl ?_
  refine wp_skip ?_
  refine hK67 _ _ ?_; (try clear hK67 K66)
  refine wp_seq_k fun K68 hK69 => ?_
  refine wp_block ?_
  refine wp_seq_k fun K70 hK71 => ?_
  refine wl_begin ?_
  refine sq (r_move rfl) rfl ?_
  refine sq (r_assign rfl) rfl ?_
  refine wl_nil ?_
  refine hK71 _ _ ?_; (try clear hK71 K70)
  refine wp_seq_k fun K72 hK73 => ?_
  refine wl_begin ?_
  refine sq (r_move rfl) rfl ?_
  refine sq (r_remN (a := 2) (b := 2) rfl rfl rfl rfl (by omega)) rfl ?_
  refine sq (r_muli rfl rfl rfl rfl (by omega)) rfl ?_
  refine sq (r_assign rfl) rfl ?_
  refine wl_nil ?_
  refine hK73 _ _ ?_; (try clear hK73 K72)
  refine draw_begin (S := SS G1 [⟨b13, #[.int .u64 0, .int .u64 0, .int .u64 0, .int .u64 0], 182⟩]) (by kernel_rfl) ?_
  have hs74 := hs62.drew; clear hs62
  have hss := hs74.ss (I := G1) (GH.le.refl _) (SubL.sub (.cons (.tail _ (.head _)) .nil))
  refine dt 0 rfl (by kernel_rfl) (fun _ _ _ h => h) hss (fun _ h => r_move rfl) rfl ?_
  refine dt 1 rfl (by kernel_rfl) (fun _ _ _ h => h) hss (fun _ h => r_move rfl) rfl ?_
  refine dt 2 rfl (by kernel_rfl) (fun _ _ _ h => h) hss (fun _ h => (r_indexArr (len := 4) (e := 50) (sz := 1) (i := 2) rfl rfl (by kernel_rfl) rfl rfl (by first | decide | exact Nat.zero_lt_succ _))) rfl ?_
  refine dt 3 rfl (by kernel_rfl) (fun _ _ _ h => h) hss (fun _ h => r_load rfl (by kernel_rfl) rfl (h.imm (le8 _ _ hst)) rfl) rfl ?_
  refine dt 4 rfl (by kernel_rfl) (fun _ _ _ h => h) hss (fun _ h => r_move rfl) rfl ?_
  refine dt 5 rfl (by kernel_rfl) (fun _ _ _ h => h) hss (fun _ h => r_move rfl) rfl ?_
  refine nrmD (vals := [(0, .agg #[(bV (s 0)), (bV (s 1)), (bV (s 2)), (bV (s 3)), (bV (s 4)), (bV (s 5)), (bV (s 6)), (bV (s 7)), (bV (s 8)), (bV (s 9)), (bV (s 10)), (bV (s 11)), (bV (s 12)), (bV (s 13)), (bV (s 14)), (bV (s 15))]), (1, .pointer (some ⟨b5, 0, none⟩)), (2, .pointer (some ⟨b13, 0, none⟩)), (3, .pointer (some ⟨b20, 0, none⟩)), (4, .int .i64 2), (5, .int .i64 0), (6, .int .i64 2), (7, .bool true), (12, .int .i64 2), (15, .int .u64 7816392313619706465), (16, .int .i64 0), (17, .int .i64 0)]) (.cons rfl (.cons rfl (.cons rfl (.cons rfl (.cons rfl (.cons rfl (.cons rfl (.cons rfl (.cons rfl (.cons rfl (.cons rfl (.cons rfl .nil)))))))))))) fun g75 => ?_
  refine dt 6 rfl (by kernel_rfl) (fun _ _ _ h => h) hss (fun _ h => (r_addi rfl rfl rfl rfl (by omega))) rfl ?_
  refine dt 7 rfl (by kernel_rfl) (fun _ _ _ h => h) hss (fun _ h => (r_sliceArr (len := 16) (e := 5) (sz := 1) (l := 0) (h := 8) rfl rfl rfl (by kernel_rfl) rfl rfl rfl (by decide) (by decide))) rfl ?_
  refine dro 8 (by kernel_rfl) rfl (ow_call (X := []) (L := [⟨b20, #[.int .u64 (((8317987319222330741 ^^^ (lowN [s 0, s 1, s 2, s 3, s 4, s 5, s 6, s 7])) : Nat) : Int), .int .u64 (((7237128888997146477 ^^^ (lowN [s 8, s 9, s 10, s 11, s 12, s 13, s 14, s 15])) : Nat) : Int), .int .u64 0, .int .u64 0], 182⟩, ⟨b13, #[.int .u64 0, .int .u64 0, .int .u64 0, .int .u64 0], 182⟩]) (lb := []) hs74 (low_ok (k := [s 0, s 1, s 2, s 3, s 4, s 5, s 6, s 7]) (bytes_lit (off := 0) (len := 8) (cap := 16) (k := [s 0, s 1, s 2, s 3, s 4, s 5, s 6, s 7]) hb7 rfl (by decide) rfl) (by simp)) (by kernel_rfl) rfl rfl rfl rfl rfl ?_)
  rintro _ _ X1 w76 ⟨rfl, rfl⟩ - hs77 hid78
  obtain rfl : X1 = [] := List.map_eq_nil_iff.1 hid78
  replace hs77 : St w0 I (ids []) G1 [⟨b20, #[.int .u64 (((8317987319222330741 ^^^ (lowN [s 0, s 1, s 2, s 3, s 4, s 5, s 6, s 7])) : Nat) : Int), .int .u64 (((7237128888997146477 ^^^ (lowN [s 8, s 9, s 10, s 11, s 12, s 13, s 14, s 15])) : Nat) : Int), .int .u64 0, .int .u64 0], 182⟩, ⟨b13, #[.int .u64 0, .int .u64 0, .int .u64 0, .int .u64 0], 182⟩] w76 := hs77
  clear hs74 hid78
  replace hss := hs77.ss (I := G1) (GH.le.refl _) (SubL.sub (.cons (.tail _ (.head _)) .nil))
  refine ⟨hss, ?_⟩
  refine dt 9 rfl (by kernel_rfl) (fun _ _ _ h => h) hss (fun _ h => (r_xorN (a := 7816392313619706465) (b := (lowN [s 0, s 1, s 2, s 3, s 4, s 5, s 6, s 7])) (m := 64) (by kernel_rfl) rfl rfl rfl rfl (by decide) (lowN_lt _))) rfl ?_
  refine dt 10 rfl (by kernel_rfl) (fun _ _ _ h => h) hss (fun _ h => (r_indexArr (len := 4) (e := 50) (sz := 1) (i := 2) rfl rfl (by kernel_rfl) rfl rfl (by first | decide | exact Nat.zero_lt_succ _))) rfl ?_
  refine dro 11 (by kernel_rfl) rfl (ow_store (vs := [.int .u64 (((7816392313619706465 ^^^ (lowN [s 0, s 1, s 2, s 3, s 4, s 5, s 6, s 7])) : Nat) : Int)]) hs77 rfl rfl (by kernel_rfl) rfl rfl (.cons trivial .nil) rfl ?_)
  rintro w79 (hs80 : St w0 I (ids []) G1 [⟨b20, #[.int .u64 (((8317987319222330741 ^^^ (lowN [s 0, s 1, s 2, s 3, s 4, s 5, s 6, s 7])) : Nat) : Int), .int .u64 (((7237128888997146477 ^^^ (lowN [s 8, s 9, s 10, s 11, s 12, s 13, s 14, s 15])) : Nat) : Int), .int .u64 (((7816392313619706465 ^^^ (lowN [s 0, s 1, s 2, s 3, s 4, s 5, s 6, s 7])) : Nat) : Int), .int .u64 0], 182⟩, ⟨b13, #[.int .u64 0, .int .u64 0, .int .u64 0, .int .u64 0], 182⟩] w79)
  clear hs77
  replace hss := hs80.ss (I := G1) (GH.le.refl _) (SubL.sub (.cons (.tail _ (.head _)) .nil))
  refine ⟨hss, ?_⟩
  refine draw_done (by kernel_rfl) ?_
  refine hK69 _ _ ?_; (try clear hK69 K68)
  refine wl_begin ?_
  refine sq (r_addi rfl rfl rfl rfl (by omega)) rfl ?_
  refine sq (r_move rfl) rfl ?_
  refine wl_nil ?_
  refine rounds_S (m := 1) ?_
  refine nrm (vals := [(0, .agg #[(bV (s 0)), (bV (s 1)), (bV (s 2)), (bV (s 3)), (bV (s 4)), (bV (s 5)), (bV (s 6)), (bV (s 7)), (bV (s 8)), (bV (s 9)), (bV (s 10)), (bV (s 11)), (bV (s 12)), (bV (s 13)), (bV (s 14)), (bV (s 15))]), (1, .pointer (some ⟨b5, 0, none⟩)), (2, .pointer (some ⟨b13, 0, none⟩)), (3, .pointer (some ⟨b20, 0, none⟩)), (4, .int .i64 2), (5, .int .i64 0), (6, .int .i64 3), (7, .bool true)]) (.cons rfl (.cons rfl (.cons rfl (.cons rfl (.cons rfl (.cons rfl (.cons rfl (.cons rfl .nil)))))))) fun g81 => ?_
  refine wp_seq_k fun K82 hK83 => ?_
  refine wl_begin ?_
  refine sq (r_lti rfl rfl rfl rfl) rfl ?_
  refine wl_nil ?_
  refine hK83 _ _ ?_; (try clear hK83 K82)
  refine wp_seq_k fun K84 hK85 => ?_
  refine condT rfl rfl ?_
  refine wp_skip ?_
  refine hK85 _ _ ?_; (try clear hK85 K84)
  refine wp_seq_k fun K86 hK87 => ?_
  refine wp_block ?_
  refine wp_seq_k fun K88 hK89 => ?_
  refine wl_begin ?_
  refine sq (r_move rfl) rfl ?_
  refine sq (r_assign rfl) rfl ?_
  refine wl_nil ?_
  refine hK89 _ _ ?_; (try clear hK89 K88)
  refine wp_seq_k fun K90 hK91 => ?_
  refine wl_begin ?_
  refine sq (r_move rfl) rfl ?_
  refine sq (r_remN (a := 3) (b := 2) rfl rfl rfl rfl (by omega)) rfl ?_
  refine sq (r_muli rfl rfl rfl rfl (by omega)) rfl ?_
  refine sq (r_assign rfl) rfl ?_
  refine wl_nil ?_
  refine hK91 _ _ ?_; (try clear hK91 K90)
  refine draw_begin (S := SS G1 [⟨b13, #[.int .u64 0, .int .u64 0, .int .u64 0, .int .u64 0], 182⟩]) (by kernel_rfl) ?_
  have hs92 := hs80.drew; clear hs80
  have hss := hs92.ss (I := G1) (GH.le.refl _) (SubL.sub (.cons (.tail _ (.head _)) .nil))
  refine dt 0 rfl (by kernel_rfl) (fun _ _ _ h => h) hss (fun _ h => r_move rfl) rfl ?_
  refine dt 1 rfl (by kernel_rfl) (fun _ _ _ h => h) hss (fun _ h => r_move rfl) rfl ?_
  refine dt 2 rfl (by kernel_rfl) (fun _ _ _ h => h) hss (fun _ h => (r_indexArr (len := 4) (e := 50) (sz := 1) (i := 3) rfl rfl (by kernel_rfl) rfl rfl (by first | decide | exact Nat.zero_lt_succ _))) rfl ?_
  refine dt 3 rfl (by kernel_rfl) (fun _ _ _ h => h) hss (fun _ h => r_load rfl (by kernel_rfl) rfl (h.imm (le8 _ _ hst)) rfl) rfl ?_
  refine dt 4 rfl (by kernel_rfl) (fun _ _ _ h => h) hss (fun _ h => r_move rfl) rfl ?_
  refine dt 5 rfl (by kernel_rfl) (fun _ _ _ h => h) hss (fun _ h => r_move rfl) rfl ?_
  refine nrmD (vals := [(0, .agg #[(bV (s 0)), (bV (s 1)), (bV (s 2)), (bV (s 3)), (bV (s 4)), (bV (s 5)), (bV (s 6)), (bV (s 7)), (bV (s 8)), (bV (s 9)), (bV (s 10)), (bV (s 11)), (bV (s 12)), (bV (s 13)), (bV (s 14)), (bV (s 15))]), (1, .pointer (some ⟨b5, 0, none⟩)), (2, .pointer (some ⟨b13, 0, none⟩)), (3, .pointer (some ⟨b20, 0, none⟩)), (4, .int .i64 3), (5, .int .i64 8), (6, .int .i64 3), (7, .bool true), (12, .int .i64 3), (15, .int .u64 8387220255154660723), (16, .int .i64 8), (17, .int .i64 8)]) (.cons rfl (.cons rfl (.cons rfl (.cons rfl (.cons rfl (.cons rfl (.cons rfl (.cons rfl (.cons rfl (.cons rfl (.cons rfl (.cons rfl .nil)))))))))))) fun g93 => ?_
  refine dt 6 rfl (by kernel_rfl) (fun _ _ _ h => h) hss (fun _ h => (r_addi rfl rfl rfl rfl (by omega))) rfl ?_
  refine dt 7 rfl (by kernel_rfl) (fun _ _ _ h => h) hss (fun _ h => (r_sliceArr (len := 16) (e := 5) (sz := 1) (l := 8) (h := 16) rfl rfl rfl (by kernel_rfl) rfl rfl rfl (by decide) (by decide))) rfl ?_
  refine dro 8 (by kernel_rfl) rfl (ow_call (X := []) (L := [⟨b20, #[.int .u64 (((8317987319222330741 ^^^ (lowN [s 0, s 1, s 2, s 3, s 4, s 5, s 6, s 7])) : Nat) : Int), .int .u64 (((7237128888997146477 ^^^ (lowN [s 8, s 9, s 10, s 11, s 12, s 13, s 14, s 15])) : Nat) : Int), .int .u64 (((7816392313619706465 ^^^ (lowN [s 0, s 1, s 2, s 3, s 4, s 5, s 6, s 7])) : Nat) : Int), .int .u64 0], 182⟩, ⟨b13, #[.int .u64 0, .int .u64 0, .int .u64 0, .int .u64 0], 182⟩]) (lb := []) hs92 (low_ok (k := [s 8, s 9, s 10, s 11, s 12, s 13, s 14, s 15]) (bytes_lit (off := 8) (len := 8) (cap := 8) (k := [s 8, s 9, s 10, s 11, s 12, s 13, s 14, s 15]) hb7 rfl (by decide) rfl) (by simp)) (by kernel_rfl) rfl rfl rfl rfl rfl ?_)
  rintro _ _ X1 w94 ⟨rfl, rfl⟩ - hs95 hid96
  obtain rfl : X1 = [] := List.map_eq_nil_iff.1 hid96
  replace hs95 : St w0 I (ids []) G1 [⟨b20, #[.int .u64 (((8317987319222330741 ^^^ (lowN [s 0, s 1, s 2, s 3, s 4, s 5, s 6, s 7])) : Nat) : Int), .int .u64 (((7237128888997146477 ^^^ (lowN [s 8, s 9, s 10, s 11, s 12, s 13, s 14, s 15])) : Nat) : Int), .int .u64 (((7816392313619706465 ^^^ (lowN [s 0, s 1, s 2, s 3, s 4, s 5, s 6, s 7])) : Nat) : Int), .int .u64 0], 182⟩, ⟨b13, #[.int .u64 0, .int .u64 0, .int .u64 0, .int .u64 0], 182⟩] w94 := hs95
  clear hs92 hid96
  replace hss := hs95.ss (I := G1) (GH.le.refl _) (SubL.sub (.cons (.tail _ (.head _)) .nil))
  refine ⟨hss, ?_⟩
  refine dt 9 rfl (by kernel_rfl) (fun _ _ _ h => h) hss (fun _ h => (r_xorN (a := 8387220255154660723) (b := (lowN [s 8, s 9, s 10, s 11, s 12, s 13, s 14, s 15])) (m := 64) (by kernel_rfl) rfl rfl rfl rfl (by decide) (lowN_lt _))) rfl ?_
  refine dt 10 rfl (by kernel_rfl) (fun _ _ _ h => h) hss (fun _ h => (r_indexArr (len := 4) (e := 50) (sz := 1) (i := 3) rfl rfl (by kernel_rfl) rfl rfl (by first | decide | exact Nat.zero_lt_succ _))) rfl ?_
  refine dro 11 (by kernel_rfl) rfl (ow_store (vs := [.int .u64 (((8387220255154660723 ^^^ (lowN [s 8, s 9, s 10, s 11, s 12, s 13, s 14, s 15])) : Nat) : Int)]) hs95 rfl rfl (by kernel_rfl) rfl rfl (.cons trivial .nil) rfl ?_)
  rintro w97 (hs98 : St w0 I (ids []) G1 [⟨b20, #[.int .u64 (((8317987319222330741 ^^^ (lowN [s 0, s 1, s 2, s 3, s 4, s 5, s 6, s 7])) : Nat) : Int), .int .u64 (((7237128888997146477 ^^^ (lowN [s 8, s 9, s 10, s 11, s 12, s 13, s 14, s 15])) : Nat) : Int), .int .u64 (((7816392313619706465 ^^^ (lowN [s 0, s 1, s 2, s 3, s 4, s 5, s 6, s 7])) : Nat) : Int), .int .u64 (((8387220255154660723 ^^^ (lowN [s 8, s 9, s 10, s 11, s 12, s 13, s 14, s 15])) : Nat) : Int)], 182⟩, ⟨b13, #[.int .u64 0, .int .u64 0, .int .u64 0, .int .u64 0], 182⟩] w97)
  clear hs95
  replace hss := hs98.ss (I := G1) (GH.le.refl _) (SubL.sub (.cons (.tail _ (.head _)) .nil))
  refine ⟨hss, ?_⟩
  refine draw_done (by kernel_rfl) ?_
  refine hK87 _ _ ?_; (try clear hK87 K86)
  refine wl_begin ?_
  refine sq (r_addi rfl rfl rfl rfl (by omega)) rfl ?_
  refine sq (r_move rfl) rfl ?_
  refine wl_nil ?_
  refine rounds_S (m := 0) ?_
  refine nrm (vals := [(0, .agg #[(bV (s 0)), (bV (s 1)), (bV (s 2)), (bV (s 3)), (bV (s 4)), (bV (s 5)), (bV (s 6)), (bV (s 7)), (bV (s 8)), (bV (s 9)), (bV (s 10)), (bV (s 11)), (bV (s 12)), (bV (s 13)), (bV (s 14)), (bV (s 15))]), (1, .pointer (some ⟨b5, 0, none⟩)), (2, .pointer (some ⟨b13, 0, none⟩)), (3, .pointer (some ⟨b20, 0, none⟩)), (4, .int .i64 3), (5, .int .i64 8), (6, .int .i64 4), (7, .bool true)]) (.cons rfl (.cons rfl (.cons rfl (.cons rfl (.cons rfl (.cons rfl (.cons rfl (.cons rfl .nil)))))))) fun g99 => ?_
  refine wp_seq_k fun K100 hK101 => ?_
  refine wl_begin ?_
  refine sq (r_lti rfl rfl rfl rfl) rfl ?_
  refine wl_nil ?_
  refine hK101 _ _ ?_; (try clear hK101 K100)
  refine wp_seq_k fun K102 hK103 => ?_
  refine condF rfl rfl ?_
  refine wp_exit ?_
  refine hK24 _ _ ?_; (try clear hK24 K23)
  refine wp_seq_k fun K104 hK105 => ?_
  refine wl_begin ?_
  refine sq (r_loadN (m := 4) rfl (by kernel_rfl) rfl (hs98.box (.head _)) rfl rfl) rfl ?_
  have hs108 : St w0 I (ids []) G1 [⟨b13, #[.int .u64 0, .int .u64 0, .int .u64 0, .int .u64 0], 182⟩, ⟨b20, #[.int .u64 (((8317987319222330741 ^^^ (lowN [s 0, s 1, s 2, s 3, s 4, s 5, s 6, s 7])) : Nat) : Int), .int .u64 (((7237128888997146477 ^^^ (lowN [s 8, s 9, s 10, s 11, s 12, s 13, s 14, s 15])) : Nat) : Int), .int .u64 (((7816392313619706465 ^^^ (lowN [s 0, s 1, s 2, s 3, s 4, s 5, s 6, s 7])) : Nat) : Int), .int .u64 (((8387220255154660723 ^^^ (lowN [s 8, s 9, s 10, s 11, s 12, s 13, s 14, s 15])) : Nat) : Int)], 182⟩] w97 := hs98.perm (List.Perm.trans ((List.Perm.refl _).cons _) (List.Perm.swap _ _ _)); clear hs98
  refine sqo rfl fun K106 hK107 => ow_store (vs := [.int .u64 (((8317987319222330741 ^^^ (lowN [s 0, s 1, s 2, s 3, s 4, s 5, s 6, s 7])) : Nat) : Int), .int .u64 (((7237128888997146477 ^^^ (lowN [s 8, s 9, s 10, s 11, s 12, s 13, s 14, s 15])) : Nat) : Int), .int .u64 (((7816392313619706465 ^^^ (lowN [s 0, s 1, s 2, s 3, s 4, s 5, s 6, s 7])) : Nat) : Int), .int .u64 (((8387220255154660723 ^^^ (lowN [s 8, s 9, s 10, s 11, s 12, s 13, s 14, s 15])) : Nat) : Int)]) hs108 rfl rfl (by kernel_rfl) rfl rfl (.cons trivial (.cons trivial (.cons trivial (.cons trivial .nil)))) rfl ?_
  rintro w109 (hs110 : St w0 I (ids []) G1 [⟨b13, #[.int .u64 (((8317987319222330741 ^^^ (lowN [s 0, s 1, s 2, s 3, s 4, s 5, s 6, s 7])) : Nat) : Int), .int .u64 (((7237128888997146477 ^^^ (lowN [s 8, s 9, s 10, s 11, s 12, s 13, s 14, s 15])) : Nat) : Int), .int .u64 (((7816392313619706465 ^^^ (lowN [s 0, s 1, s 2, s 3, s 4, s 5, s 6, s 7])) : Nat) : Int), .int .u64 (((8387220255154660723 ^^^ (lowN [s 8, s 9, s 10, s 11, s 12, s 13, s 14, s 15])) : Nat) : Int)], 182⟩, ⟨b20, #[.int .u64 (((8317987319222330741 ^^^ (lowN [s 0, s 1, s 2, s 3, s 4, s 5, s 6, s 7])) : Nat) : Int), .int .u64 (((7237128888997146477 ^^^ (lowN [s 8, s 9, s 10, s 11, s 12, s 13, s 14, s 15])) : Nat) : Int), .int .u64 (((7816392313619706465 ^^^ (lowN [s 0, s 1, s 2, s 3, s 4, s 5, s 6, s 7])) : Nat) : Int), .int .u64 (((8387220255154660723 ^^^ (lowN [s 8, s 9, s 10, s 11, s 12, s 13, s 14, s 15])) : Nat) : Int)], 182⟩] w109)
  clear hs108
  refine hK107 _ _ ?_; clear hK107 K106
  refine wl_nil ?_
  refine hK105 _ _ ?_; (try clear hK105 K104)
  refine wp_ret ?_
  exact leave (X' := []) (L := [⟨b13, #[.int .u64 (((8317987319222330741 ^^^ (lowN [s 0, s 1, s 2, s 3, s 4, s 5, s 6, s 7])) : Nat) : Int), .int .u64 (((7237128888997146477 ^^^ (lowN [s 8, s 9, s 10, s 11, s 12, s 13, s 14, s 15])) : Nat) : Int), .int .u64 (((7816392313619706465 ^^^ (lowN [s 0, s 1, s 2, s 3, s 4, s 5, s 6, s 7])) : Nat) : Int), .int .u64 (((8387220255154660723 ^^^ (lowN [s 8, s 9, s 10, s 11, s 12, s 13, s 14, s 15])) : Nat) : Int)], 182⟩, ⟨b20, #[.int .u64 (((8317987319222330741 ^^^ (lowN [s 0, s 1, s 2, s 3, s 4, s 5, s 6, s 7])) : Nat) : Int), .int .u64 (((7237128888997146477 ^^^ (lowN [s 8, s 9, s 10, s 11, s 12, s 13, s 14, s 15])) : Nat) : Int), .int .u64 (((7816392313619706465 ^^^ (lowN [s 0, s 1, s 2, s 3, s 4, s 5, s 6, s 7])) : Nat) : Int), .int .u64 (((8387220255154660723 ^^^ (lowN [s 8, s 9, s 10, s 11, s 12, s 13, s 14, s 15])) : Nat) : Int)], 182⟩]) hs110 rfl (res_one (v := .agg #[.int .u64 (((8317987319222330741 ^^^ (lowN [s 0, s 1, s 2, s 3, s 4, s 5, s 6, s 7])) : Nat) : Int), .int .u64 (((7237128888997146477 ^^^ (lowN [s 8, s 9, s 10, s 11, s 12, s 13, s 14, s 15])) : Nat) : Int), .int .u64 (((7816392313619706465 ^^^ (lowN [s 0, s 1, s 2, s 3, s 4, s 5, s 6, s 7])) : Nat) : Int), .int .u64 (((8387220255154660723 ^^^ (lowN [s 8, s 9, s 10, s 11, s 12, s 13, s 14, s 15])) : Nat) : Int)]) rfl (.agg (m := 4) rfl rfl (by kernel_rfl) (hs110.box (.head _)) rfl rfl .nil)) ⟨_, _, _, _, rfl, (Nat.xor_lt_two_pow (by decide) (lowN_lt _)), (Nat.xor_lt_two_pow (by decide) (lowN_lt _)), (Nat.xor_lt_two_pow (by decide) (lowN_lt _)), (Nat.xor_lt_two_pow (by decide) (lowN_lt _)), rfl⟩
set_option maxRecDepth 100000 in
theorem hash_sip_ok {I : GH} (hst : StartG I) {s : Nat → UInt8} {kv : Value} {k : Bs} (hk : BytesAt I kv k) (hl : k.length ≤ 1000000000) : Fn Tryd.prog 76 #[.agg #[bV (s 0), bV (s 1), bV (s 2), bV (s 3), bV (s 4), bV (s 5), bV (s 6), bV (s 7), bV (s 8), bV (s 9), bV (s 10), bV (s 11), bV (s 12), bV (s 13), bV (s 14), bV (s 15)], kv] I [] (fun v J _ => v = .int .u64 ((hashN s k : Nat) : Int)) := by
  obtain ⟨ad, cap, rfl⟩ := bytes_slc hk
  refine enter (args := [.agg #[(bV (s 0)), (bV (s 1)), (bV (s 2)), (bV (s 3)), (bV (s 4)), (bV (s 5)), (bV (s 6)), (bV (s 7)), (bV (s 8)), (bV (s 9)), (bV (s 10)), (bV (s 11)), (bV (s 12)), (bV (s 13)), (bV (s 14)), (bV (s 15))], .slice ad k.length cap]) Tryd.func76 rfl rfl fun w0 hs0 => ?_
  refine wp_seq_k fun K1 hK2 => ?_
  refine wl_begin ?_
  refine sqo rfl fun K3 hK4 => ow_newbox (mk := fun b => .pointer (some ⟨b, 0, none⟩)) hs0 (r_box rfl rfl) rfl ?_
  rintro b5 w6 (hs7 : St w0 I (ids []) I [⟨b5, #[(bV (s 0)), (bV (s 1)), (bV (s 2)), (bV (s 3)), (bV (s 4)), (bV (s 5)), (bV (s 6)), (bV (s 7)), (bV (s 8)), (bV (s 9)), (bV (s 10)), (bV (s 11)), (bV (s 12)), (bV (s 13)), (bV (s 14)), (bV (s 15))], 23⟩] w6)
  clear hs0
  refine hK4 _ _ ?_; clear hK4 K3
  refine sq (r_assign rfl) rfl ?_
  refine wl_nil ?_
  refine hK2 _ _ ?_; (try clear hK2 K1)
  refine wp_seq_k fun K8 hK9 => ?_
  refine wl_begin ?_
  refine sq (r_loadN (m := 16) rfl (by kernel_rfl) rfl (hs7.box (.head _)) rfl rfl) rfl ?_
  refine sqo rfl fun K10 hK11 => ow_call (X := []) (L := [⟨b5, #[(bV (s 0)), (bV (s 1)), (bV (s 2)), (bV (s 3)), (bV (s 4)), (bV (s 5)), (bV (s 6)), (bV (s 7)), (bV (s 8)), (bV (s 9)), (bV (s 10)), (bV (s 11)), (bV (s 12)), (bV (s 13)), (bV (s 14)), (bV (s 15))], 23⟩]) (lb := []) hs7 (begin_ok hst) (by kernel_rfl) rfl rfl rfl rfl rfl ?_
  rintro _ G1 X1 w21 ⟨p12, q13, r14, s15, rfl, hp16, hq17, hr18, hs_19, es20⟩ le24 hs22 hid23
  obtain rfl : X1 = [] := List.map_eq_nil_iff.1 hid23
  replace hs22 : St w0 I (ids []) G1 [⟨b5, #[(bV (s 0)), (bV (s 1)), (bV (s 2)), (bV (s 3)), (bV (s 4)), (bV (s 5)), (bV (s 6)), (bV (s 7)), (bV (s 8)), (bV (s 9)), (bV (s 10)), (bV (s 11)), (bV (s 12)), (bV (s 13)), (bV (s 14)), (bV (s 15))], 23⟩] w21 := hs22
  clear hs7 hid23
  refine hK11 _ _ ?_; clear hK11 K10
  refine sqo rfl fun K25 hK26 => ow_newbox (mk := fun b => .pointer (some ⟨b, 0, none⟩)) hs22 (r_alloc (cs := [.int .u64 0, .int .u64 0, .int .u64 0, .int .u64 0]) (by kernel_rfl)) rfl ?_
  rintro b27 w28 (hs29 : St w0 I (ids []) G1 [⟨b27, #[.int .u64 0, .int .u64 0, .int .u64 0, .int .u64 0], 182⟩, ⟨b5, #[(bV (s 0)), (bV (s 1)), (bV (s 2)), (bV (s 3)), (bV (s 4)), (bV (s 5)), (bV (s 6)), (bV (s 7)), (bV (s 8)), (bV (s 9)), (bV (s 10)), (bV (s 11)), (bV (s 12)), (bV (s 13)), (bV (s 14)), (bV (s 15))], 23⟩] w28)
  clear hs22
  refine hK26 _ _ ?_; clear hK26 K25
  refine sqo rfl fun K30 hK31 => ow_store (vs := [.int .u64 ((p12 : Nat) : Int), .int .u64 ((q13 : Nat) : Int), .int .u64 ((r14 : Nat) : Int), .int .u64 ((s15 : Nat) : Int)]) hs29 rfl rfl (by kernel_rfl) rfl rfl (.cons trivial (.cons trivial (.cons trivial (.cons trivial .nil)))) rfl ?_
  rintro w32 (hs33 : St w0 I (ids []) G1 [⟨b27, #[.int .u64 ((p12 : Nat) : Int), .int .u64 ((q13 : Nat) : Int), .int .u64 ((r14 : Nat) : Int), .int .u64 ((s15 : Nat) : Int)], 182⟩, ⟨b5, #[(bV (s 0)), (bV (s 1)), (bV (s 2)), (bV (s 3)), (bV (s 4)), (bV (s 5)), (bV (s 6)), (bV (s 7)), (bV (s 8)), (bV (s 9)), (bV (s 10)), (bV (s 11)), (bV (s 12)), (bV (s 13)), (bV (s 14)), (bV (s 15))], 23⟩] w32)
  clear hs29
  refine hK31 _ _ ?_; clear hK31 K30
  refine wl_nil ?_
  refine hK9 _ _ ?_; (try clear hK9 K8)
  refine wp_seq_k fun K34 hK35 => ?_
  refine wl_begin ?_
  refine sq (r_move rfl) rfl ?_
  refine sq (r_lens rfl (by kernel_rfl) rfl) rfl ?_
  refine sq (r_convM (j := .u8) (a := k.length) (m := 8) (r_convInt rfl (by kernel_rfl) (by kernel_rfl) rfl) (by kernel_rfl)) rfl ?_
  refine sq (r_convN (j := .u64) (a := (k.length % 2 ^ 8)) (m := 64) (r_convInt rfl (by kernel_rfl) (by kernel_rfl) rfl) (by kernel_rfl) (Nat.lt_of_lt_of_le (Nat.mod_lt _ (by decide)) (by decide))) rfl ?_
  refine sq (r_shlN (a := (k.length % 2 ^ 8)) (b := 56) (m := 64) (by kernel_rfl) rfl rfl rfl rfl (by omega)) rfl ?_
  refine sq (r_assign rfl) rfl ?_
  refine wl_nil ?_
  refine hK35 _ _ ?_; (try clear hK35 K34)
  refine wp_seq_k fun K36 hK37 => ?_
  refine wp_block ?_
  refine lp (σ := Nat) (fun m39 f40 w41 => ∃ (g38 : Nat → Value) (j : Nat) (adj : Option Addr) (capj : Nat) (a : Nat) (b : Nat) (c : Nat) (d : Nat), m39 = k.length - j ∧ f40 = updL g38 [(0, .agg #[(bV (s 0)), (bV (s 1)), (bV (s 2)), (bV (s 3)), (bV (s 4)), (bV (s 5)), (bV (s 6)), (bV (s 7)), (bV (s 8)), (bV (s 9)), (bV (s 10)), (bV (s 11)), (bV (s 12)), (bV (s 13)), (bV (s 14)), (bV (s 15))]), (1, .slice adj (k.drop (8 * j)).length capj), (2, .pointer (some ⟨b5, 0, none⟩)), (4, .int .u64 0), (5, .pointer (some ⟨b27, 0, none⟩)), (6, .int .u64 ((((k.length % 2 ^ 8) * 2 ^ 56 % 2 ^ 64) : Nat) : Int))] ∧ (8 * j ≤ k.length) ∧ (BytesAt G1 (.slice adj (k.drop (8 * j)).length capj) (k.drop (8 * j))) ∧ (a < 2 ^ 64) ∧ (b < 2 ^ 64) ∧ (c < 2 ^ 64) ∧ (d < 2 ^ 64) ∧ ((a, b, c, d) = absorbN j (beginN s) k) ∧ St w0 I (ids []) G1 [⟨b27, #[.int .u64 ((a : Nat) : Int), .int .u64 ((b : Nat) : Int), .int .u64 ((c : Nat) : Int), .int .u64 ((d : Nat) : Int)], 182⟩, ⟨b5, #[(bV (s 0)), (bV (s 1)), (bV (s 2)), (bV (s 3)), (bV (s 4)), (bV (s 5)), (bV (s 6)), (bV (s 7)), (bV (s 8)), (bV (s 9)), (bV (s 10)), (bV (s 11)), (bV (s 12)), (bV (s 13)), (bV (s 14)), (bV (s 15))], 23⟩] w41) (fun m => m) (k.length - 0) ⟨_, 0, ad, cap, p12, q13, r14, s15, rfl, updL_self (.cons rfl (.cons rfl (.cons rfl (.cons rfl (.cons rfl (.cons rfl .nil)))))), (by omega), (hk.up le24), hp16, hq17, hr18, hs_19, es20, hs33⟩ ?_
  clear hs33
  rintro m39 f40 w41 ⟨g38, j, adj, capj, a, b, c, d, rfl, rfl, hj, hkj, ha, hb, hc, hd, hab, hs42⟩
  refine wp_seq_k fun K43 hK44 => ?_
  refine wp_seq_k fun K45 hK46 => ?_
  refine wl_begin ?_
  refine sq (r_move rfl) rfl ?_
  refine sq (r_lens rfl (by kernel_rfl) rfl) rfl ?_
  refine sq (r_gei rfl rfl rfl rfl) rfl ?_
  refine wl_nil ?_
  refine hK46 _ _ ?_; (try clear hK46 K45)
  refine condS rfl rfl (fun h47 => ?_) (fun h47 => ?_)
  ·
    have p48 := of_decide_eq_true h47
    have h8 : 8 ≤ (k.drop (8 * j)).length := by omega
    refine wp_skip ?_
    refine hK44 _ _ ?_; (try clear hK44 K43)
    refine wp_seq_k fun K49 hK50 => ?_
    refine wp_block ?_
    refine nrm (vals := [(0, .agg #[(bV (s 0)), (bV (s 1)), (bV (s 2)), (bV (s 3)), (bV (s 4)), (bV (s 5)), (bV (s 6)), (bV (s 7)), (bV (s 8)), (bV (s 9)), (bV (s 10)), (bV (s 11)), (bV (s 12)), (bV (s 13)), (bV (s 14)), (bV (s 15))]), (1, .slice adj (k.drop (8 * j)).length capj), (2, .pointer (some ⟨b5, 0, none⟩)), (4, .int .u64 0), (5, .pointer (some ⟨b27, 0, none⟩)), (6, .int .u64 ((((k.length % 2 ^ 8) * 2 ^ 56 % 2 ^ 64) : Nat) : Int)), (16, .bool (decide (8 ≤ (((k.drop (8 * j)).length : Nat) : Int))))]) (.cons rfl (.cons rfl (.cons rfl (.cons rfl (.cons rfl (.cons rfl (.cons rfl .nil))))))) fun g51 => ?_
    refine draw_begin (S := SS G1 [⟨b5, #[(bV (s 0)), (bV (s 1)), (bV (s 2)), (bV (s 3)), (bV (s 4)), (bV (s 5)), (bV (s 6)), (bV (s 7)), (bV (s 8)), (bV (s 9)), (bV (s 10)), (bV (s 11)), (bV (s 12)), (bV (s 13)), (bV (s 14)), (bV (s 15))], 23⟩]) (by kernel_rfl) ?_
    have hs52 := hs42.drew; clear hs42
    have hss := hs52.ss (I := G1) (GH.le.refl _) (SubL.sub (.cons (.tail _ (.head _)) .nil))
    refine dt 1 rfl (by kernel_rfl) (fun _ _ _ h => h) hss (fun _ h => r_move rfl) rfl ?_
    refine draw_all [0, 2] (by kernel_rfl) rfl (forall_2 ?_ ?_)
    ·
      refine dmo rfl (ow_val (r_loadN (m := 4) rfl (by kernel_rfl) rfl (hs52.box (.head _)) rfl rfl) rfl ?_)
      replace hss := hs52.ss (I := G1) (GH.le.refl _) (SubL.sub (.cons (.tail _ (.head _)) .nil))
      refine ⟨hss, ?_⟩
      refine dro 2 (by kernel_rfl) rfl (ow_call (X := []) (L := [⟨b27, #[.int .u64 ((a : Nat) : Int), .int .u64 ((b : Nat) : Int), .int .u64 ((c : Nat) : Int), .int .u64 ((d : Nat) : Int)], 182⟩, ⟨b5, #[(bV (s 0)), (bV (s 1)), (bV (s 2)), (bV (s 3)), (bV (s 4)), (bV (s 5)), (bV (s 6)), (bV (s 7)), (bV (s 8)), (bV (s 9)), (bV (s 10)), (bV (s 11)), (bV (s 12)), (bV (s 13)), (bV (s 14)), (bV (s 15))], 23⟩]) (lb := []) hs52 (low_ok (k := (k.drop (8 * j))) hkj (by simp only [List.length_drop]; omega)) (by kernel_rfl) rfl rfl rfl rfl rfl ?_)
      rintro _ _ X1 w53 ⟨rfl, rfl⟩ - hs54 hid55
      obtain rfl : X1 = [] := List.map_eq_nil_iff.1 hid55
      replace hs54 : St w0 I (ids []) G1 [⟨b27, #[.int .u64 ((a : Nat) : Int), .int .u64 ((b : Nat) : Int), .int .u64 ((c : Nat) : Int), .int .u64 ((d : Nat) : Int)], 182⟩, ⟨b5, #[(bV (s 0)), (bV (s 1)), (bV (s 2)), (bV (s 3)), (bV (s 4)), (bV (s 5)), (bV (s 6)), (bV (s 7)), (bV (s 8)), (bV (s 9)), (bV (s 10)), (bV (s 11)), (bV (s 12)), (bV (s 13)), (bV (s 14)), (bV (s 15))], 23⟩] w53 := hs54
      clear hs52 hid55
      replace hss := hs54.ss (I := G1) (GH.le.refl _) (SubL.sub (.cons (.tail _ (.head _)) .nil))
      refine ⟨hss, ?_⟩
      refine dro 3 (by kernel_rfl) rfl (ow_call (X := []) (L := [⟨b27, #[.int .u64 ((a : Nat) : Int), .int .u64 ((b : Nat) : Int), .int .u64 ((c : Nat) : Int), .int .u64 ((d : Nat) : Int)], 182⟩, ⟨b5, #[(bV (s 0)), (bV (s 1)), (bV (s 2)), (bV (s 3)), (bV (s 4)), (bV (s 5)), (bV (s 6)), (bV (s 7)), (bV (s 8)), (bV (s 9)), (bV (s 10)), (bV (s 11)), (bV (s 12)), (bV (s 13)), (bV (s 14)), (bV (s 15))], 23⟩]) (lb := []) hs54 (take_ok ha hb hc hd (lowN_lt _)) (by kernel_rfl) rfl rfl rfl rfl rfl ?_)
      rintro _ _ X1 w65 ⟨p56, q57, r58, s59, rfl, rfl, hp60, hq61, hr62, hs_63, es64⟩ - hs66 hid67
      obtain rfl : X1 = [] := List.map_eq_nil_iff.1 hid67
      replace hs66 : St w0 I (ids []) G1 [⟨b27, #[.int .u64 ((a : Nat) : Int), .int .u64 ((b : Nat) : Int), .int .u64 ((c : Nat) : Int), .int .u64 ((d : Nat) : Int)], 182⟩, ⟨b5, #[(bV (s 0)), (bV (s 1)), (bV (s 2)), (bV (s 3)), (bV (s 4)), (bV (s 5)), (bV (s 6)), (bV (s 7)), (bV (s 8)), (bV (s 9)), (bV (s 10)), (bV (s 11)), (bV (s 12)), (bV (s 13)), (bV (s 14)), (bV (s 15))], 23⟩] w65 := hs66
      clear hs54 hid67
      replace hss := hs66.ss (I := G1) (GH.le.refl _) (SubL.sub (.cons (.tail _ (.head _)) .nil))
      refine ⟨hss, ?_⟩
      refine dro 4 (by kernel_rfl) rfl (ow_store (vs := [.int .u64 ((p56 : Nat) : Int), .int .u64 ((q57 : Nat) : Int), .int .u64 ((r58 : Nat) : Int), .int .u64 ((s59 : Nat) : Int)]) hs66 rfl rfl (by kernel_rfl) rfl rfl (.cons trivial (.cons trivial (.cons trivial (.cons trivial .nil)))) rfl ?_)
      rintro w68 (hs69 : St w0 I (ids []) G1 [⟨b27, #[.int .u64 ((p56 : Nat) : Int), .int .u64 ((q57 : Nat) : Int), .int .u64 ((r58 : Nat) : Int), .int .u64 ((s59 : Nat) : Int)], 182⟩, ⟨b5, #[(bV (s 0)), (bV (s 1)), (bV (s 2)), (bV (s 3)), (bV (s 4)), (bV (s 5)), (bV (s 6)), (bV (s 7)), (bV (s 8)), (bV (s 9)), (bV (s 10)), (bV (s 11)), (bV (s 12)), (bV (s 13)), (bV (s 14)), (bV (s 15))], 23⟩] w68)
      clear hs66
      replace hss := hs69.ss (I := G1) (GH.le.refl _) (SubL.sub (.cons (.tail _ (.head _)) .nil))
      refine ⟨hss, ?_⟩
      refine draw_done (by kernel_rfl) ?_
      refine hK50 _ _ ?_; (try clear hK50 K49)
      refine wl_begin ?_
      refine sq (r_move rfl) rfl ?_
      refine sq (r_sliceL (e := 5) (sz := 1) (l := 8) rfl rfl (by kernel_rfl) rfl rfl h8) rfl ?_
      refine sq (r_assign rfl) rfl ?_
      refine wl_nil ?_
      have hdd : (k.drop (8 * j)).drop 8 = k.drop (8 * (j + 1)) := by rw [List.drop_drop]; rfl
      obtain ⟨ad2, cap2, he2⟩ := bytes_slc (bytes_back hkj h8)
      have hb2 := bytes_back hkj h8
      rw [he2] at hb2
      rw [hdd] at he2 hb2
      exact ⟨_, _, rfl, ⟨_, (j + 1), ad2, cap2, p56, q57, r58, s59, rfl, updL_self (.cons rfl (.cons he2 (.cons rfl (.cons rfl (.cons rfl (.cons rfl .nil)))))), (by simp only [List.length_drop] at h8; omega), hb2, hp60, hq61, hr62, hs_63, (by rw [es64, hab]; rfl), hs69⟩, (by simp only [List.length_drop] at h8; omega)⟩
    ·
      refine dmo rfl (ow_call (X := []) (L := [⟨b27, #[.int .u64 ((a : Nat) : Int), .int .u64 ((b : Nat) : Int), .int .u64 ((c : Nat) : Int), .int .u64 ((d : Nat) : Int)], 182⟩, ⟨b5, #[(bV (s 0)), (bV (s 1)), (bV (s 2)), (bV (s 3)), (bV (s 4)), (bV (s 5)), (bV (s 6)), (bV (s 7)), (bV (s 8)), (bV (s 9)), (bV (s 10)), (bV (s 11)), (bV (s 12)), (bV (s 13)), (bV (s 14)), (bV (s 15))], 23⟩]) (lb := []) hs52 (low_ok (k := (k.drop (8 * j))) hkj (by simp only [List.length_drop]; omega)) (by kernel_rfl) rfl rfl rfl rfl rfl ?_)
      rintro _ _ X1 w70 ⟨rfl, rfl⟩ - hs71 hid72
      obtain rfl : X1 = [] := List.map_eq_nil_iff.1 hid72
      replace hs71 : St w0 I (ids []) G1 [⟨b27, #[.int .u64 ((a : Nat) : Int), .int .u64 ((b : Nat) : Int), .int .u64 ((c : Nat) : Int), .int .u64 ((d : Nat) : Int)], 182⟩, ⟨b5, #[(bV (s 0)), (bV (s 1)), (bV (s 2)), (bV (s 3)), (bV (s 4)), (bV (s 5)), (bV (s 6)), (bV (s 7)), (bV (s 8)), (bV (s 9)), (bV (s 10)), (bV (s 11)), (bV (s 12)), (bV (s 13)), (bV (s 14)), (bV (s 15))], 23⟩] w70 := hs71
      clear hs52 hid72
      replace hss := hs71.ss (I := G1) (GH.le.refl _) (SubL.sub (.cons (.tail _ (.head _)) .nil))
      refine ⟨hss, ?_⟩
      refine dro 0 (by kernel_rfl) rfl (ow_val (r_loadN (m := 4) rfl (by kernel_rfl) rfl (hs71.box (.head _)) rfl rfl) rfl ?_)
      replace hss := hs71.ss (I := G1) (GH.le.refl _) (SubL.sub (.cons (.tail _ (.head _)) .nil))
      refine ⟨hss, ?_⟩
      refine dro 3 (by kernel_rfl) rfl (ow_call (X := []) (L := [⟨b27, #[.int .u64 ((a : Nat) : Int), .int .u64 ((b : Nat) : Int), .int .u64 ((c : Nat) : Int), .int .u64 ((d : Nat) : Int)], 182⟩, ⟨b5, #[(bV (s 0)), (bV (s 1)), (bV (s 2)), (bV (s 3)), (bV (s 4)), (bV (s 5)), (bV (s 6)), (bV (s 7)), (bV (s 8)), (bV (s 9)), (bV (s 10)), (bV (s 11)), (bV (s 12)), (bV (s 13)), (bV (s 14)), (bV (s 15))], 23⟩]) (lb := []) hs71 (take_ok ha hb hc hd (lowN_lt _)) (by kernel_rfl) rfl rfl rfl rfl rfl ?_)
      rintro _ _ X1 w82 ⟨p73, q74, r75, s76, rfl, rfl, hp77, hq78, hr79, hs_80, es81⟩ - hs83 hid84
      obtain rfl : X1 = [] := List.map_eq_nil_iff.1 hid84
      replace hs83 : St w0 I (ids []) G1 [⟨b27, #[.int .u64 ((a : Nat) : Int), .int .u64 ((b : Nat) : Int), .int .u64 ((c : Nat) : Int), .int .u64 ((d : Nat) : Int)], 182⟩, ⟨b5, #[(bV (s 0)), (bV (s 1)), (bV (s 2)), (bV (s 3)), (bV (s 4)), (bV (s 5)), (bV (s 6)), (bV (s 7)), (bV (s 8)), (bV (s 9)), (bV (s 10)), (bV (s 11)), (bV (s 12)), (bV (s 13)), (bV (s 14)), (bV (s 15))], 23⟩] w82 := hs83
      clear hs71 hid84
      replace hss := hs83.ss (I := G1) (GH.le.refl _) (SubL.sub (.cons (.tail _ (.head _)) .nil))
      refine ⟨hss, ?_⟩
      refine dro 4 (by kernel_rfl) rfl (ow_store (vs := [.int .u64 ((p73 : Nat) : Int), .int .u64 ((q74 : Nat) : Int), .int .u64 ((r75 : Nat) : Int), .int .u64 ((s76 : Nat) : Int)]) hs83 rfl rfl (by kernel_rfl) rfl rfl (.cons trivial (.cons trivial (.cons trivial (.cons trivial .nil)))) rfl ?_)
      rintro w85 (hs86 : St w0 I (ids []) G1 [⟨b27, #[.int .u64 ((p73 : Nat) : Int), .int .u64 ((q74 : Nat) : Int), .int .u64 ((r75 : Nat) : Int), .int .u64 ((s76 : Nat) : Int)], 182⟩, ⟨b5, #[(bV (s 0)), (bV (s 1)), (bV (s 2)), (bV (s 3)), (bV (s 4)), (bV (s 5)), (bV (s 6)), (bV (s 7)), (bV (s 8)), (bV (s 9)), (bV (s 10)), (bV (s 11)), (bV (s 12)), (bV (s 13)), (bV (s 14)), (bV (s 15))], 23⟩] w85)
      clear hs83
      replace hss := hs86.ss (I := G1) (GH.le.refl _) (SubL.sub (.cons (.tail _ (.head _)) .nil))
      refine ⟨hss, ?_⟩
      refine draw_done (by kernel_rfl) ?_
      refine hK50 _ _ ?_; (try clear hK50 K49)
      refine wl_begin ?_
      refine sq (r_move rfl) rfl ?_
      refine sq (r_sliceL (e := 5) (sz := 1) (l := 8) rfl rfl (by kernel_rfl) rfl rfl h8) rfl ?_
      refine sq (r_assign rfl) rfl ?_
      refine wl_nil ?_
      have hdd : (k.drop (8 * j)).drop 8 = k.drop (8 * (j + 1)) := by rw [List.drop_drop]; rfl
      obtain ⟨ad2, cap2, he2⟩ := bytes_slc (bytes_back hkj h8)
      have hb2 := bytes_back hkj h8
      rw [he2] at hb2
      rw [hdd] at he2 hb2
      exact ⟨_, _, rfl, ⟨_, (j + 1), ad2, cap2, p73, q74, r75, s76, rfl, updL_self (.cons rfl (.cons he2 (.cons rfl (.cons rfl (.cons rfl (.cons rfl .nil)))))), (by simp only [List.length_drop] at h8; omega), hb2, hp77, hq78, hr79, hs_80, (by rw [es81, hab]; rfl), hs86⟩, (by simp only [List.length_drop] at h8; omega)⟩
  ·
    have p87 := of_decide_eq_false h47
    have hj8 : j = k.length / 8 := by have := @List.length_drop _ (8 * j) k; omega
    refine wp_exit ?_
    refine hK37 _ _ ?_; (try clear hK37 K36)
    refine wp_seq_k fun K88 hK89 => ?_
    refine nrm (vals := [(0, .agg #[(bV (s 0)), (bV (s 1)), (bV (s 2)), (bV (s 3)), (bV (s 4)), (bV (s 5)), (bV (s 6)), (bV (s 7)), (bV (s 8)), (bV (s 9)), (bV (s 10)), (bV (s 11)), (bV (s 12)), (bV (s 13)), (bV (s 14)), (bV (s 15))]), (1, .slice adj (k.drop (8 * j)).length capj), (2, .pointer (some ⟨b5, 0, none⟩)), (4, .int .u64 0), (5, .pointer (some ⟨b27, 0, none⟩)), (6, .int .u64 ((((k.length % 2 ^ 8) * 2 ^ 56 % 2 ^ 64) : Nat) : Int)), (16, .bool (decide (8 ≤ (((k.drop (8 * j)).length : Nat) : Int))))]) (.cons rfl (.cons rfl (.cons rfl (.cons rfl (.cons rfl (.cons rfl (.cons rfl .nil))))))) fun g90 => ?_
    refine draw_begin (S := SS G1 [⟨b27, #[.int .u64 ((a : Nat) : Int), .int .u64 ((b : Nat) : Int), .int .u64 ((c : Nat) : Int), .int .u64 ((d : Nat) : Int)], 182⟩, ⟨b5, #[(bV (s 0)), (bV (s 1)), (bV (s 2)), (bV (s 3)), (bV (s 4)), (bV (s 5)), (bV (s 6)), (bV (s 7)), (bV (s 8)), (bV (s 9)), (bV (s 10)), (bV (s 11)), (bV (s 12)), (bV (s 13)), (bV (s 14)), (bV (s 15))], 23⟩]) (by kernel_rfl) ?_
    have hs91 := hs42.drew; clear hs42
    have hss := hs91.ss (I := G1) (GH.le.refl _) (fun _ h => h)
    refine dt 0 rfl (by kernel_rfl) (fun _ _ _ h => h) hss (fun _ h => r_loadN (m := 4) rfl (by kernel_rfl) rfl (h.box (.head _)) rfl rfl) rfl ?_
    refine dt 1 rfl (by kernel_rfl) (fun _ _ _ h => h) hss (fun _ h => r_move rfl) rfl ?_
    refine dt 2 rfl (by kernel_rfl) (fun _ _ _ h => h) hss (fun _ h => r_move rfl) rfl ?_
    refine dro 3 (by kernel_rfl) rfl (ow_call (X := []) (L := [⟨b27, #[.int .u64 ((a : Nat) : Int), .int .u64 ((b : Nat) : Int), .int .u64 ((c : Nat) : Int), .int .u64 ((d : Nat) : Int)], 182⟩, ⟨b5, #[(bV (s 0)), (bV (s 1)), (bV (s 2)), (bV (s 3)), (bV (s 4)), (bV (s 5)), (bV (s 6)), (bV (s 7)), (bV (s 8)), (bV (s 9)), (bV (s 10)), (bV (s 11)), (bV (s 12)), (bV (s 13)), (bV (s 14)), (bV (s 15))], 23⟩]) (lb := []) hs91 (low_ok (k := (k.drop (8 * j))) hkj (by simp only [List.length_drop]; omega)) (by kernel_rfl) rfl rfl rfl rfl rfl ?_)
    rintro _ _ X1 w92 ⟨rfl, rfl⟩ - hs93 hid94
    obtain rfl : X1 = [] := List.map_eq_nil_iff.1 hid94
    replace hs93 : St w0 I (ids []) G1 [⟨b27, #[.int .u64 ((a : Nat) : Int), .int .u64 ((b : Nat) : Int), .int .u64 ((c : Nat) : Int), .int .u64 ((d : Nat) : Int)], 182⟩, ⟨b5, #[(bV (s 0)), (bV (s 1)), (bV (s 2)), (bV (s 3)), (bV (s 4)), (bV (s 5)), (bV (s 6)), (bV (s 7)), (bV (s 8)), (bV (s 9)), (bV (s 10)), (bV (s 11)), (bV (s 12)), (bV (s 13)), (bV (s 14)), (bV (s 15))], 23⟩] w92 := hs93
    clear hs91 hid94
    replace hss := hs93.ss (I := G1) (GH.le.refl _) (fun _ h => h)
    refine ⟨hss, ?_⟩
    refine dt 4 rfl (by kernel_rfl) (fun _ _ _ h => h) hss (fun _ h => (r_orN (a := ((k.length % 2 ^ 8) * 2 ^ 56 % 2 ^ 64)) (b := (lowN (k.drop (8 * j)))) (m := 64) (by kernel_rfl) rfl rfl rfl rfl (Nat.mod_lt _ (by decide)) (lowN_lt _))) rfl ?_
    refine dro 5 (by kernel_rfl) rfl (ow_call (X := []) (L := [⟨b27, #[.int .u64 ((a : Nat) : Int), .int .u64 ((b : Nat) : Int), .int .u64 ((c : Nat) : Int), .int .u64 ((d : Nat) : Int)], 182⟩, ⟨b5, #[(bV (s 0)), (bV (s 1)), (bV (s 2)), (bV (s 3)), (bV (s 4)), (bV (s 5)), (bV (s 6)), (bV (s 7)), (bV (s 8)), (bV (s 9)), (bV (s 10)), (bV (s 11)), (bV (s 12)), (bV (s 13)), (bV (s 14)), (bV (s 15))], 23⟩]) (lb := []) hs93 (take_ok ha hb hc hd (Nat.or_lt_two_pow (Nat.mod_lt _ (by decide)) (lowN_lt _))) (by kernel_rfl) rfl rfl rfl rfl rfl ?_)
    rintro _ _ X1 w104 ⟨p95, q96, r97, s98, rfl, rfl, hp99, hq100, hr101, hs_102, es103⟩ - hs105 hid106
    obtain rfl : X1 = [] := List.map_eq_nil_iff.1 hid106
    replace hs105 : St w0 I (ids []) G1 [⟨b27, #[.int .u64 ((a : Nat) : Int), .int .u64 ((b : Nat) : Int), .int .u64 ((c : Nat) : Int), .int .u64 ((d : Nat) : Int)], 182⟩, ⟨b5, #[(bV (s 0)), (bV (s 1)), (bV (s 2)), (bV (s 3)), (bV (s 4)), (bV (s 5)), (bV (s 6)), (bV (s 7)), (bV (s 8)), (bV (s 9)), (bV (s 10)), (bV (s 11)), (bV (s 12)), (bV (s 13)), (bV (s 14)), (bV (s 15))], 23⟩] w104 := hs105
    clear hs93 hid106
    replace hss := hs105.ss (I := G1) (GH.le.refl _) (fun _ h => h)
    refine ⟨hss, ?_⟩
    refine dro 6 (by kernel_rfl) rfl (ow_call (X := []) (L := [⟨b27, #[.int .u64 ((a : Nat) : Int), .int .u64 ((b : Nat) : Int), .int .u64 ((c : Nat) : Int), .int .u64 ((d : Nat) : Int)], 182⟩, ⟨b5, #[(bV (s 0)), (bV (s 1)), (bV (s 2)), (bV (s 3)), (bV (s 4)), (bV (s 5)), (bV (s 6)), (bV (s 7)), (bV (s 8)), (bV (s 9)), (bV (s 10)), (bV (s 11)), (bV (s 12)), (bV (s 13)), (bV (s 14)), (bV (s 15))], 23⟩]) (lb := []) hs105 (end_ok hp99 hq100 hr101 hs_102) (by kernel_rfl) rfl rfl rfl rfl rfl ?_)
    rintro _ _ X1 w107 ⟨rfl, rfl⟩ - hs108 hid109
    obtain rfl : X1 = [] := List.map_eq_nil_iff.1 hid109
    replace hs108 : St w0 I (ids []) G1 [⟨b27, #[.int .u64 ((a : Nat) : Int), .int .u64 ((b : Nat) : Int), .int .u64 ((c : Nat) : Int), .int .u64 ((d : Nat) : Int)], 182⟩, ⟨b5, #[(bV (s 0)), (bV (s 1)), (bV (s 2)), (bV (s 3)), (bV (s 4)), (bV (s 5)), (bV (s 6)), (bV (s 7)), (bV (s 8)), (bV (s 9)), (bV (s 10)), (bV (s 11)), (bV (s 12)), (bV (s 13)), (bV (s 14)), (bV (s 15))], 23⟩] w107 := hs108
    clear hs105 hid109
    replace hss := hs108.ss (I := G1) (GH.le.refl _) (fun _ h => h)
    refine ⟨hss, ?_⟩
    refine dt 7 rfl (by kernel_rfl) (fun _ _ _ h => h) hss (fun _ h => r_assign rfl) rfl ?_
    refine draw_done (by kernel_rfl) ?_
    refine hK89 _ _ ?_; (try clear hK89 K88)
    refine wp_ret ?_
    exact leave (X' := []) (L := [⟨b27, #[.int .u64 ((a : Nat) : Int), .int .u64 ((b : Nat) : Int), .int .u64 ((c : Nat) : Int), .int .u64 ((d : Nat) : Int)], 182⟩, ⟨b5, #[(bV (s 0)), (bV (s 1)), (bV (s 2)), (bV (s 3)), (bV (s 4)), (bV (s 5)), (bV (s 6)), (bV (s 7)), (bV (s 8)), (bV (s 9)), (bV (s 10)), (bV (s 11)), (bV (s 12)), (bV (s 13)), (bV (s 14)), (bV (s 15))], 23⟩]) hs108 rfl (res_one (v := .int .u64 (((endN (p95, q96, r97, s98)) : Nat) : Int)) rfl (.tmp rfl rfl .nil)) (by subst hj8; unfold hashN; rw [← hab, ← es103])
end Go.Proofs.YtlnlodfnplkckaaDoor
/- The contracts of package trie (New, Seed, Len, Put, Get, Delete). -/
namespace Go.Proofs.YtlnlodfnplkckaaDoor
set_option linter.unusedVariables false
set_option linter.unusedSimpArgs false
set_option maxRecDepth 100000 in
theorem trie_new_ok {I : GH} {s : Nat → UInt8} : Fn Tryd.prog 13 #[.agg #[bV (s 0), bV (s 1), bV (s 2), bV (s 3), bV (s 4), bV (s 5), bV (s 6), bV (s 7), bV (s 8), bV (s 9), bV (s 10), bV (s 11), bV (s 12), bV (s 13), bV (s 14), bV (s 15)]] I [] (fun v J _ => v = .agg #[bV (s 0), bV (s 1), bV (s 2), bV (s 3), bV (s 4), bV (s 5), bV (s 6), bV (s 7), bV (s 8), bV (s 9), bV (s 10), bV (s 11), bV (s 12), bV (s 13), bV (s 14), bV (s 15), .nilIface] ∧ I = J) := by
  refine enter (args := [.agg #[(bV (s 0)), (bV (s 1)), (bV (s 2)), (bV (s 3)), (bV (s 4)), (bV (s 5)), (bV (s 6)), (bV (s 7)), (bV (s 8)), (bV (s 9)), (bV (s 10)), (bV (s 11)), (bV (s 12)), (bV (s 13)), (bV (s 14)), (bV (s 15))]]) Tryd.func13 rfl rfl fun w0 hs0 => ?_
  refine wp_seq_k fun K1 hK2 => ?_
  refine wl_begin ?_
  refine sqo rfl fun K3 hK4 => ow_newbox (mk := fun b => .pointer (some ⟨b, 0, none⟩)) hs0 (r_box rfl rfl) rfl ?_
  rintro b5 w6 (hs7 : St w0 I (ids []) I [⟨b5, #[(bV (s 0)), (bV (s 1)), (bV (s 2)), (bV (s 3)), (bV (s 4)), (bV (s 5)), (bV (s 6)), (bV (s 7)), (bV (s 8)), (bV (s 9)), (bV (s 10)), (bV (s 11)), (bV (s 12)), (bV (s 13)), (bV (s 14)), (bV (s 15))], 23⟩] w6)
  clear hs0
  refine hK4 _ _ ?_; clear hK4 K3
  refine sqo rfl fun K8 hK9 => ow_newbox (mk := fun b => .pointer (some ⟨b, 0, none⟩)) hs7 (r_alloc (cs := [.int .u8 0, .int .u8 0, .int .u8 0, .int .u8 0, .int .u8 0, .int .u8 0, .int .u8 0, .int .u8 0, .int .u8 0, .int .u8 0, .int .u8 0, .int .u8 0, .int .u8 0, .int .u8 0, .int .u8 0, .int .u8 0, .nilIface]) (by kernel_rfl)) rfl ?_
  rintro b10 w11 (hs12 : St w0 I (ids []) I [⟨b10, #[.int .u8 0, .int .u8 0, .int .u8 0, .int .u8 0, .int .u8 0, .int .u8 0, .int .u8 0, .int .u8 0, .int .u8 0, .int .u8 0, .int .u8 0, .int .u8 0, .int .u8 0, .int .u8 0, .int .u8 0, .int .u8 0, .nilIface], 30⟩, ⟨b5, #[(bV (s 0)), (bV (s 1)), (bV (s 2)), (bV (s 3)), (bV (s 4)), (bV (s 5)), (bV (s 6)), (bV (s 7)), (bV (s 8)), (bV (s 9)), (bV (s 10)), (bV (s 11)), (bV (s 12)), (bV (s 13)), (bV (s 14)), (bV (s 15))], 23⟩] w11)
  clear hs7
  refine hK9 _ _ ?_; clear hK9 K8
  refine wl_nil ?_
  refine hK2 _ _ ?_; (try clear hK2 K1)
  refine wp_seq_k fun K13 hK14 => ?_
  refine wl_begin ?_
  refine sq (r_loadN (m := 16) (vs := [(bV (s 0)), (bV (s 1)), (bV (s 2)), (bV (s 3)), (bV (s 4)), (bV (s 5)), (bV (s 6)), (bV (s 7)), (bV (s 8)), (bV (s 9)), (bV (s 10)), (bV (s 11)), (bV (s 12)), (bV (s 13)), (bV (s 14)), (bV (s 15))]) rfl (by kernel_rfl) rfl (hs12.box (.tail _ (.head _))) (by kernel_rfl) rfl) rfl ?_
  refine sq (r_build (.cons rfl rfl .nil) (cells := #[(bV (s 0)), (bV (s 1)), (bV (s 2)), (bV (s 3)), (bV (s 4)), (bV (s 5)), (bV (s 6)), (bV (s 7)), (bV (s 8)), (bV (s 9)), (bV (s 10)), (bV (s 11)), (bV (s 12)), (bV (s 13)), (bV (s 14)), (bV (s 15)), .nilIface]) (by kernel_rfl)) rfl ?_
  refine sqo rfl fun K15 hK16 => ow_storeK (vs := [(bV (s 0)), (bV (s 1)), (bV (s 2)), (bV (s 3)), (bV (s 4)), (bV (s 5)), (bV (s 6)), (bV (s 7)), (bV (s 8)), (bV (s 9)), (bV (s 10)), (bV (s 11)), (bV (s 12)), (bV (s 13)), (bV (s 14)), (bV (s 15)), .nilIface]) (cs' := #[(bV (s 0)), (bV (s 1)), (bV (s 2)), (bV (s 3)), (bV (s 4)), (bV (s 5)), (bV (s 6)), (bV (s 7)), (bV (s 8)), (bV (s 9)), (bV (s 10)), (bV (s 11)), (bV (s 12)), (bV (s 13)), (bV (s 14)), (bV (s 15)), .nilIface]) hs12 rfl rfl (by kernel_rfl) rfl rfl (.cons trivial (.cons trivial (.cons trivial (.cons trivial (.cons trivial (.cons trivial (.cons trivial (.cons trivial (.cons trivial (.cons trivial (.cons trivial (.cons trivial (.cons trivial (.cons trivial (.cons trivial (.cons trivial (.cons trivial .nil))))))))))))))))) (by kernel_rfl) (by kernel_rfl) ?_
  rintro w17 (hs18 : St w0 I (ids []) I [⟨b10, #[(bV (s 0)), (bV (s 1)), (bV (s 2)), (bV (s 3)), (bV (s 4)), (bV (s 5)), (bV (s 6)), (bV (s 7)), (bV (s 8)), (bV (s 9)), (bV (s 10)), (bV (s 11)), (bV (s 12)), (bV (s 13)), (bV (s 14)), (bV (s 15)), .nilIface], 30⟩, ⟨b5, #[(bV (s 0)), (bV (s 1)), (bV (s 2)), (bV (s 3)), (bV (s 4)), (bV (s 5)), (bV (s 6)), (bV (s 7)), (bV (s 8)), (bV (s 9)), (bV (s 10)), (bV (s 11)), (bV (s 12)), (bV (s 13)), (bV (s 14)), (bV (s 15))], 23⟩] w17)
  clear hs12
  refine hK16 _ _ ?_; clear hK16 K15
  refine wl_nil ?_
  refine hK14 _ _ ?_; (try clear hK14 K13)
  refine wp_ret ?_
  exact leave (X' := []) (L := [⟨b10, #[(bV (s 0)), (bV (s 1)), (bV (s 2)), (bV (s 3)), (bV (s 4)), (bV (s 5)), (bV (s 6)), (bV (s 7)), (bV (s 8)), (bV (s 9)), (bV (s 10)), (bV (s 11)), (bV (s 12)), (bV (s 13)), (bV (s 14)), (bV (s 15)), .nilIface], 30⟩, ⟨b5, #[(bV (s 0)), (bV (s 1)), (bV (s 2)), (bV (s 3)), (bV (s 4)), (bV (s 5)), (bV (s 6)), (bV (s 7)), (bV (s 8)), (bV (s 9)), (bV (s 10)), (bV (s 11)), (bV (s 12)), (bV (s 13)), (bV (s 14)), (bV (s 15))], 23⟩]) hs18 rfl (res_one (v := .agg #[(bV (s 0)), (bV (s 1)), (bV (s 2)), (bV (s 3)), (bV (s 4)), (bV (s 5)), (bV (s 6)), (bV (s 7)), (bV (s 8)), (bV (s 9)), (bV (s 10)), (bV (s 11)), (bV (s 12)), (bV (s 13)), (bV (s 14)), (bV (s 15)), .nilIface]) rfl (.agg (m := 17) (us := [(bV (s 0)), (bV (s 1)), (bV (s 2)), (bV (s 3)), (bV (s 4)), (bV (s 5)), (bV (s 6)), (bV (s 7)), (bV (s 8)), (bV (s 9)), (bV (s 10)), (bV (s 11)), (bV (s 12)), (bV (s 13)), (bV (s 14)), (bV (s 15)), .nilIface]) rfl rfl (by kernel_rfl) (hs18.box (.head _)) (by kernel_rfl) rfl .nil)) ⟨rfl, rfl⟩
set_option maxRecDepth 100000 in
theorem trie_seed_ok {I : GH} {s : Nat → UInt8} {nv : Value} {n : N} (hn : NodeAt I nv n) : Fn Tryd.prog 39 #[.agg #[bV (s 0), bV (s 1), bV (s 2), bV (s 3), bV (s 4), bV (s 5), bV (s 6), bV (s 7), bV (s 8), bV (s 9), bV (s 10), bV (s 11), bV (s 12), bV (s 13), bV (s 14), bV (s 15), nv]] I [] (fun v J _ => v = .agg #[bV (s 0), bV (s 1), bV (s 2), bV (s 3), bV (s 4), bV (s 5), bV (s 6), bV (s 7), bV (s 8), bV (s 9), bV (s 10), bV (s 11), bV (s 12), bV (s 13), bV (s 14), bV (s 15)] ∧ I = J) := by
  refine enter (args := [.agg #[(bV (s 0)), (bV (s 1)), (bV (s 2)), (bV (s 3)), (bV (s 4)), (bV (s 5)), (bV (s 6)), (bV (s 7)), (bV (s 8)), (bV (s 9)), (bV (s 10)), (bV (s 11)), (bV (s 12)), (bV (s 13)), (bV (s 14)), (bV (s 15)), nv]]) Tryd.func39 rfl rfl fun w0 hs0 => ?_
  refine wp_seq_k fun K1 hK2 => ?_
  refine wl_begin ?_
  refine sqo rfl fun K3 hK4 => ow_newbox (mk := fun b => .pointer (some ⟨b, 0, none⟩)) hs0 (r_box rfl rfl) rfl ?_
  rintro b5 w6 (hs7 : St w0 I (ids []) I [⟨b5, #[(bV (s 0)), (bV (s 1)), (bV (s 2)), (bV (s 3)), (bV (s 4)), (bV (s 5)), (bV (s 6)), (bV (s 7)), (bV (s 8)), (bV (s 9)), (bV (s 10)), (bV (s 11)), (bV (s 12)), (bV (s 13)), (bV (s 14)), (bV (s 15)), nv], 30⟩] w6)
  clear hs0
  refine hK4 _ _ ?_; clear hK4 K3
  refine sqo rfl fun K8 hK9 => ow_newbox (mk := fun b => .pointer (some ⟨b, 0, none⟩)) hs7 (r_alloc (cs := [.int .u8 0, .int .u8 0, .int .u8 0, .int .u8 0, .int .u8 0, .int .u8 0, .int .u8 0, .int .u8 0, .int .u8 0, .int .u8 0, .int .u8 0, .int .u8 0, .int .u8 0, .int .u8 0, .int .u8 0, .int .u8 0]) (by kernel_rfl)) rfl ?_
  rintro b10 w11 (hs12 : St w0 I (ids []) I [⟨b10, #[.int .u8 0, .int .u8 0, .int .u8 0, .int .u8 0, .int .u8 0, .int .u8 0, .int .u8 0, .int .u8 0, .int .u8 0, .int .u8 0, .int .u8 0, .int .u8 0, .int .u8 0, .int .u8 0, .int .u8 0, .int .u8 0], 23⟩, ⟨b5, #[(bV (s 0)), (bV (s 1)), (bV (s 2)), (bV (s 3)), (bV (s 4)), (bV (s 5)), (bV (s 6)), (bV (s 7)), (bV (s 8)), (bV (s 9)), (bV (s 10)), (bV (s 11)), (bV (s 12)), (bV (s 13)), (bV (s 14)), (bV (s 15)), nv], 30⟩] w11)
  clear hs7
  refine hK9 _ _ ?_; clear hK9 K8
  refine wl_nil ?_
  refine hK2 _ _ ?_; (try clear hK2 K1)
  refine wp_seq_k fun K13 hK14 => ?_
  refine wl_begin ?_
  refine sq (r_fieldAddr (off := 0) rfl (by kernel_rfl) rfl) rfl ?_
  refine sq (r_loadN (m := 16) (vs := [(bV (s 0)), (bV (s 1)), (bV (s 2)), (bV (s 3)), (bV (s 4)), (bV (s 5)), (bV (s 6)), (bV (s 7)), (bV (s 8)), (bV (s 9)), (bV (s 10)), (bV (s 11)), (bV (s 12)), (bV (s 13)), (bV (s 14)), (bV (s 15))]) rfl (by kernel_rfl) rfl (hs12.box (.tail _ (.head _))) (by kernel_rfl) rfl) rfl ?_
  refine sqo rfl fun K15 hK16 => ow_storeK (vs := [(bV (s 0)), (bV (s 1)), (bV (s 2)), (bV (s 3)), (bV (s 4)), (bV (s 5)), (bV (s 6)), (bV (s 7)), (bV (s 8)), (bV (s 9)), (bV (s 10)), (bV (s 11)), (bV (s 12)), (bV (s 13)), (bV (s 14)), (bV (s 15))]) (cs' := #[(bV (s 0)), (bV (s 1)), (bV (s 2)), (bV (s 3)), (bV (s 4)), (bV (s 5)), (bV (s 6)), (bV (s 7)), (bV (s 8)), (bV (s 9)), (bV (s 10)), (bV (s 11)), (bV (s 12)), (bV (s 13)), (bV (s 14)), (bV (s 15))]) hs12 rfl rfl (by kernel_rfl) rfl rfl (.cons trivial (.cons trivial (.cons trivial (.cons trivial (.cons trivial (.cons trivial (.cons trivial (.cons trivial (.cons trivial (.cons trivial (.cons trivial (.cons trivial (.cons trivial (.cons trivial (.cons trivial (.cons trivial .nil)))))))))))))))) (by kernel_rfl) (by kernel_rfl) ?_
  rintro w17 (hs18 : St w0 I (ids []) I [⟨b10, #[(bV (s 0)), (bV (s 1)), (bV (s 2)), (bV (s 3)), (bV (s 4)), (bV (s 5)), (bV (s 6)), (bV (s 7)), (bV (s 8)), (bV (s 9)), (bV (s 10)), (bV (s 11)), (bV (s 12)), (bV (s 13)), (bV (s 14)), (bV (s 15))], 23⟩, ⟨b5, #[(bV (s 0)), (bV (s 1)), (bV (s 2)), (bV (s 3)), (bV (s 4)), (bV (s 5)), (bV (s 6)), (bV (s 7)), (bV (s 8)), (bV (s 9)), (bV (s 10)), (bV (s 11)), (bV (s 12)), (bV (s 13)), (bV (s 14)), (bV (s 15)), nv], 30⟩] w17)
  clear hs12
  refine hK16 _ _ ?_; clear hK16 K15
  refine wl_nil ?_
  refine hK14 _ _ ?_; (try clear hK14 K13)
  refine wp_ret ?_
  exact leave (X' := []) (L := [⟨b10, #[(bV (s 0)), (bV (s 1)), (bV (s 2)), (bV (s 3)), (bV (s 4)), (bV (s 5)), (bV (s 6)), (bV (s 7)), (bV (s 8)), (bV (s 9)), (bV (s 10)), (bV (s 11)), (bV (s 12)), (bV (s 13)), (bV (s 14)), (bV (s 15))], 23⟩, ⟨b5, #[(bV (s 0)), (bV (s 1)), (bV (s 2)), (bV (s 3)), (bV (s 4)), (bV (s 5)), (bV (s 6)), (bV (s 7)), (bV (s 8)), (bV (s 9)), (bV (s 10)), (bV (s 11)), (bV (s 12)), (bV (s 13)), (bV (s 14)), (bV (s 15)), nv], 30⟩]) hs18 rfl (res_one (v := .agg #[(bV (s 0)), (bV (s 1)), (bV (s 2)), (bV (s 3)), (bV (s 4)), (bV (s 5)), (bV (s 6)), (bV (s 7)), (bV (s 8)), (bV (s 9)), (bV (s 10)), (bV (s 11)), (bV (s 12)), (bV (s 13)), (bV (s 14)), (bV (s 15))]) rfl (.agg (m := 16) (us := [(bV (s 0)), (bV (s 1)), (bV (s 2)), (bV (s 3)), (bV (s 4)), (bV (s 5)), (bV (s 6)), (bV (s 7)), (bV (s 8)), (bV (s 9)), (bV (s 10)), (bV (s 11)), (bV (s 12)), (bV (s 13)), (bV (s 14)), (bV (s 15))]) rfl rfl (by kernel_rfl) (hs18.box (.head _)) (by kernel_rfl) rfl .nil)) ⟨rfl, rfl⟩
set_option maxRecDepth 100000 in
theorem trie_len_ok {I : GH} {s : Nat → UInt8} {nv : Value} {n : N} (hn : NodeAt I nv n) : Fn Tryd.prog 14 #[.agg #[bV (s 0), bV (s 1), bV (s 2), bV (s 3), bV (s 4), bV (s 5), bV (s 6), bV (s 7), bV (s 8), bV (s 9), bV (s 10), bV (s 11), bV (s 12), bV (s 13), bV (s 14), bV (s 15), nv]] I [] (fun v J _ => v = .int .i64 ((n.size : Nat) : Int) ∧ I = J) := by
  refine enter (args := [.agg #[(bV (s 0)), (bV (s 1)), (bV (s 2)), (bV (s 3)), (bV (s 4)), (bV (s 5)), (bV (s 6)), (bV (s 7)), (bV (s 8)), (bV (s 9)), (bV (s 10)), (bV (s 11)), (bV (s 12)), (bV (s 13)), (bV (s 14)), (bV (s 15)), nv]]) Tryd.func14 rfl rfl fun w0 hs0 => ?_
  refine wp_seq_k fun K1 hK2 => ?_
  refine wl_begin ?_
  refine sqo rfl fun K3 hK4 => ow_newbox (mk := fun b => .pointer (some ⟨b, 0, none⟩)) hs0 (r_box rfl rfl) rfl ?_
  rintro b5 w6 (hs7 : St w0 I (ids []) I [⟨b5, #[(bV (s 0)), (bV (s 1)), (bV (s 2)), (bV (s 3)), (bV (s 4)), (bV (s 5)), (bV (s 6)), (bV (s 7)), (bV (s 8)), (bV (s 9)), (bV (s 10)), (bV (s 11)), (bV (s 12)), (bV (s 13)), (bV (s 14)), (bV (s 15)), nv], 30⟩] w6)
  clear hs0
  refine hK4 _ _ ?_; clear hK4 K3
  refine sq (r_assign rfl) rfl ?_
  refine wl_nil ?_
  refine hK2 _ _ ?_; (try clear hK2 K1)
  refine wp_seq_k fun K8 hK9 => ?_
  refine wp_seq_k fun K10 hK11 => ?_
  refine wl_begin ?_
  refine sq (r_fieldAddr (off := 16) rfl (by kernel_rfl) rfl) rfl ?_
  refine sq (r_load rfl (by kernel_rfl) rfl (hs7.box (.head _)) rfl) rfl ?_
  refine sq (r_eqf rfl (by kernel_rfl) rfl hn.pif) rfl ?_
  refine wl_nil ?_
  refine hK11 _ _ ?_; (try clear hK11 K10)
  refine condS rfl rfl (fun h12 => ?_) (fun h12 => ?_)
  ·
    refine wp_seq_k fun K13 hK14 => ?_
    refine wl_begin ?_
    refine sq (r_assign rfl) rfl ?_
    refine wl_nil ?_
    refine hK14 _ _ ?_; (try clear hK14 K13)
    refine wp_ret ?_
    exact leave (X' := []) (L := [⟨b5, #[(bV (s 0)), (bV (s 1)), (bV (s 2)), (bV (s 3)), (bV (s 4)), (bV (s 5)), (bV (s 6)), (bV (s 7)), (bV (s 8)), (bV (s 9)), (bV (s 10)), (bV (s 11)), (bV (s 12)), (bV (s 13)), (bV (s 14)), (bV (s 15)), nv], 30⟩]) hs7 rfl (res_one (v := .int .i64 0) rfl (.tmp rfl rfl .nil)) ⟨by rw [N.isN_iff.1 (show n.isN = true by rw [← hn.isN]; assumption)]; rfl, rfl⟩
  ·
    refine wp_skip ?_
    refine hK9 _ _ ?_; (try clear hK9 K8)
    refine wp_seq_k fun K15 hK16 => ?_
    refine wl_begin ?_
    refine sq (r_fieldAddr (off := 16) rfl (by kernel_rfl) rfl) rfl ?_
    refine sq (r_load rfl (by kernel_rfl) rfl (hs7.box (.head _)) rfl) rfl ?_
    refine sqo rfl fun K17 hK18 => ow_count (L := [⟨b5, #[(bV (s 0)), (bV (s 1)), (bV (s 2)), (bV (s 3)), (bV (s 4)), (bV (s 5)), (bV (s 6)), (bV (s 7)), (bV (s 8)), (bV (s 9)), (bV (s 10)), (bV (s 11)), (bV (s 12)), (bV (s 13)), (bV (s 14)), (bV (s 15)), nv], 30⟩]) hs7 hn (N.ne_of (by rw [← hn.isN]; assumption)) rfl rfl rfl ?_
    rintro _ _ X1 w19 ⟨rfl, rfl⟩ - hs20 hid21
    obtain rfl : X1 = [] := List.map_eq_nil_iff.1 hid21
    replace hs20 : St w0 I (ids []) I [⟨b5, #[(bV (s 0)), (bV (s 1)), (bV (s 2)), (bV (s 3)), (bV (s 4)), (bV (s 5)), (bV (s 6)), (bV (s 7)), (bV (s 8)), (bV (s 9)), (bV (s 10)), (bV (s 11)), (bV (s 12)), (bV (s 13)), (bV (s 14)), (bV (s 15)), nv], 30⟩] w19 := hs20
    clear hs7 hid21
    refine hK18 _ _ ?_; clear hK18 K17
    refine sq (r_assign rfl) rfl ?_
    refine wl_nil ?_
    refine hK16 _ _ ?_; (try clear hK16 K15)
    refine wp_ret ?_
    exact leave (X' := []) (L := [⟨b5, #[(bV (s 0)), (bV (s 1)), (bV (s 2)), (bV (s 3)), (bV (s 4)), (bV (s 5)), (bV (s 6)), (bV (s 7)), (bV (s 8)), (bV (s 9)), (bV (s 10)), (bV (s 11)), (bV (s 12)), (bV (s 13)), (bV (s 14)), (bV (s 15)), nv], 30⟩]) hs20 rfl (res_one (v := .int .i64 (((N.size n) : Nat) : Int)) rfl (.tmp rfl rfl .nil)) ⟨rfl, rfl⟩
set_option maxRecDepth 100000 in
theorem trie_put_ok {I : GH} {m : Option Nat} {v c : Nat} {s : Nat → UInt8} {n : N} {nv kv xv : Value} {k x : Bs} (ht : TabG I) (hst : StartG I) (h1 : k.length ≤ 1000000) (h2 : x.length ≤ 1000000) (hw : N.WF 0 0 n) (hsz : n.size ≤ 999000) (hn : NodeAt I nv n) (hk : BytesAt I kv k) (hx : BytesAt I xv x) : Fn Tryd.prog 37 #[.agg #[bV (s 0), bV (s 1), bV (s 2), bV (s 3), bV (s 4), bV (s 5), bV (s 6), bV (s 7), bV (s 8), bV (s 9), bV (s 10), bV (s 11), bV (s 12), bV (s 13), bV (s 14), bV (s 15), nv], .agg #[kv, xv], mV m] I (mX m v c) (fun r J X => ∃ u, r = .tuple #[.agg #[bV (s 0), bV (s 1), bV (s 2), bV (s 3), bV (s 4), bV (s 5), bV (s 6), bV (s 7), bV (s 8), bV (s 9), bV (s 10), bV (s 11), bV (s 12), bV (s 13), bV (s 14), bV (s 15), u], .bool (N.ins (hashN s k) k x n 0).2] ∧ NodeAt J u (N.ins (hashN s k) k x n 0).1 ∧ X = mX m (v + N.insV (hashN s k) k n 0) (c + N.insC (hashN s k) k n 0)) := by
  refine enter (args := [.agg #[(bV (s 0)), (bV (s 1)), (bV (s 2)), (bV (s 3)), (bV (s 4)), (bV (s 5)), (bV (s 6)), (bV (s 7)), (bV (s 8)), (bV (s 9)), (bV (s 10)), (bV (s 11)), (bV (s 12)), (bV (s 13)), (bV (s 14)), (bV (s 15)), nv], .agg #[kv, xv], (mV m)]) Tryd.func37 rfl rfl fun w0 hs0 => ?_
  replace hs0 : St w0 I (ids (mX m (v) (c))) I (mX m (v) (c) ++ []) w0 := by simpa using hs0
  refine wp_seq_k fun K1 hK2 => ?_
  refine wl_begin ?_
  refine sqo rfl fun K3 hK4 => ow_newbox (mk := fun b => .pointer (some ⟨b, 0, none⟩)) hs0 (r_box rfl rfl) rfl ?_
  rintro b5 w6 (hs7 : St w0 I (ids (mX m (v) (c))) I (⟨b5, #[(bV (s 0)), (bV (s 1)), (bV (s 2)), (bV (s 3)), (bV (s 4)), (bV (s 5)), (bV (s 6)), (bV (s 7)), (bV (s 8)), (bV (s 9)), (bV (s 10)), (bV (s 11)), (bV (s 12)), (bV (s 13)), (bV (s 14)), (bV (s 15)), nv], 30⟩ :: (mX m (v) (c) ++ [])) w6)
  clear hs0
  refine hK4 _ _ ?_; clear hK4 K3
  refine sqo rfl fun K8 hK9 => ow_newbox (mk := fun b => .pointer (some ⟨b, 0, none⟩)) hs7 (r_box rfl rfl) rfl ?_
  rintro b10 w11 (hs12 : St w0 I (ids (mX m (v) (c))) I (⟨b10, #[kv, xv], 56⟩ :: (⟨b5, #[(bV (s 0)), (bV (s 1)), (bV (s 2)), (bV (s 3)), (bV (s 4)), (bV (s 5)), (bV (s 6)), (bV (s 7)), (bV (s 8)), (bV (s 9)), (bV (s 10)), (bV (s 11)), (bV (s 12)), (bV (s 13)), (bV (s 14)), (bV (s 15)), nv], 30⟩ :: (mX m (v) (c) ++ []))) w11)
  clear hs7
  refine hK9 _ _ ?_; clear hK9 K8
  refine sqo rfl fun K13 hK14 => ow_newbox (mk := fun b => .pointer (some ⟨b, 0, none⟩)) hs12 (r_alloc (cs := [.int .u8 0, .int .u8 0, .int .u8 0, .int .u8 0, .int .u8 0, .int .u8 0, .int .u8 0, .int .u8 0, .int .u8 0, .int .u8 0, .int .u8 0, .int .u8 0, .int .u8 0, .int .u8 0, .int .u8 0, .int .u8 0, .nilIface]) (by kernel_rfl)) rfl ?_
  rintro b15 w16 (hs17 : St w0 I (ids (mX m (v) (c))) I (⟨b15, #[.int .u8 0, .int .u8 0, .int .u8 0, .int .u8 0, .int .u8 0, .int .u8 0, .int .u8 0, .int .u8 0, .int .u8 0, .int .u8 0, .int .u8 0, .int .u8 0, .int .u8 0, .int .u8 0, .int .u8 0, .int .u8 0, .nilIface], 30⟩ :: (⟨b10, #[kv, xv], 56⟩ :: (⟨b5, #[(bV (s 0)), (bV (s 1)), (bV (s 2)), (bV (s 3)), (bV (s 4)), (bV (s 5)), (bV (s 6)), (bV (s 7)), (bV (s 8)), (bV (s 9)), (bV (s 10)), (bV (s 11)), (bV (s 12)), (bV (s 13)), (bV (s 14)), (bV (s 15)), nv], 30⟩ :: (mX m (v) (c) ++ [])))) w16)
  clear hs12
  refine hK14 _ _ ?_; clear hK14 K13
  refine sq (r_assign rfl) rfl ?_
  refine wl_nil ?_
  refine hK2 _ _ ?_; (try clear hK2 K1)
  refine wp_seq_k fun K18 hK19 => ?_
  refine draw_begin (S := SS I [⟨b15, #[.int .u8 0, .int .u8 0, .int .u8 0, .int .u8 0, .int .u8 0, .int .u8 0, .int .u8 0, .int .u8 0, .int .u8 0, .int .u8 0, .int .u8 0, .int .u8 0, .int .u8 0, .int .u8 0, .int .u8 0, .int .u8 0, .nilIface], 30⟩, ⟨b10, #[kv, xv], 56⟩, ⟨b5, #[(bV (s 0)), (bV (s 1)), (bV (s 2)), (bV (s 3)), (bV (s 4)), (bV (s 5)), (bV (s 6)), (bV (s 7)), (bV (s 8)), (bV (s 9)), (bV (s 10)), (bV (s 11)), (bV (s 12)), (bV (s 13)), (bV (s 14)), (bV (s 15)), nv], 30⟩]) (by kernel_rfl) ?_
  have hs20 := hs17.drew; clear hs17
  have hss := hs20.ss (I := I) (GH.le.refl _) (SubL.sub (.cons (.head _) (.cons (.tail _ (.head _)) (.cons (.tail _ (.tail _ (.head _))) .nil))))
  refine dt 0 rfl (by kernel_rfl) (fun _ _ _ h => h) hss (fun _ h => (r_fieldAddr (off := 16) rfl (by kernel_rfl) rfl)) rfl ?_
  refine dt 1 rfl (by kernel_rfl) (fun _ _ _ h => h) hss (fun _ h => r_load rfl (by kernel_rfl) rfl (h.box (.tail _ (.tail _ (.head _)))) rfl) rfl ?_
  refine dt 2 rfl (by kernel_rfl) (fun _ _ _ h => h) hss (fun _ h => (r_fieldAddr (off := 0) rfl (by kernel_rfl) rfl)) rfl ?_
  refine dt 3 rfl (by kernel_rfl) (fun _ _ _ h => h) hss (fun _ h => r_loadN (m := 16) (vs := [(bV (s 0)), (bV (s 1)), (bV (s 2)), (bV (s 3)), (bV (s 4)), (bV (s 5)), (bV (s 6)), (bV (s 7)), (bV (s 8)), (bV (s 9)), (bV (s 10)), (bV (s 11)), (bV (s 12)), (bV (s 13)), (bV (s 14)), (bV (s 15))]) rfl (by kernel_rfl) rfl (h.box (.tail _ (.tail _ (.head _)))) (by kernel_rfl) rfl) rfl ?_
  refine dt 4 rfl (by kernel_rfl) (fun _ _ _ h => h) hss (fun _ h => (r_fieldAddr (off := 0) rfl (by kernel_rfl) rfl)) rfl ?_
  refine dt 5 rfl (by kernel_rfl) (fun _ _ _ h => h) hss (fun _ h => r_load rfl (by kernel_rfl) rfl (h.box (.tail _ (.head _))) rfl) rfl ?_
  refine dt 7 rfl (by kernel_rfl) (fun _ _ _ h => h) hss (fun _ h => r_loadN (m := 2) rfl (by kernel_rfl) rfl (h.box (.tail _ (.head _))) rfl rfl) rfl ?_
  refine dt 8 rfl (by kernel_rfl) (fun _ _ _ h => h) hss (fun _ h => r_move rfl) rfl ?_
  refine dro 6 (by kernel_rfl) rfl (ow_call (X := []) (L := (⟨b15, #[.int .u8 0, .int .u8 0, .int .u8 0, .int .u8 0, .int .u8 0, .int .u8 0, .int .u8 0, .int .u8 0, .int .u8 0, .int .u8 0, .int .u8 0, .int .u8 0, .int .u8 0, .int .u8 0, .int .u8 0, .int .u8 0, .nilIface], 30⟩ :: (⟨b10, #[kv, xv], 56⟩ :: (⟨b5, #[(bV (s 0)), (bV (s 1)), (bV (s 2)), (bV (s 3)), (bV (s 4)), (bV (s 5)), (bV (s 6)), (bV (s 7)), (bV (s 8)), (bV (s 9)), (bV (s 10)), (bV (s 11)), (bV (s 12)), (bV (s 13)), (bV (s 14)), (bV (s 15)), nv], 30⟩ :: (mX m (v) (c) ++ []))))) (lb := []) hs20 (hash_sip_ok hst hk (by omega)) (by kernel_rfl) rfl rfl rfl rfl rfl ?_)
  rintro _ G1 X1 w22 rfl le25 hs23 hid24
  obtain rfl : X1 = [] := List.map_eq_nil_iff.1 hid24
  replace hs23 : St w0 I (ids (mX m (v) (c))) G1 (⟨b15, #[.int .u8 0, .int .u8 0, .int .u8 0, .int .u8 0, .int .u8 0, .int .u8 0, .int .u8 0, .int .u8 0, .int .u8 0, .int .u8 0, .int .u8 0, .int .u8 0, .int .u8 0, .int .u8 0, .int .u8 0, .int .u8 0, .nilIface], 30⟩ :: (⟨b10, #[kv, xv], 56⟩ :: (⟨b5, #[(bV (s 0)), (bV (s 1)), (bV (s 2)), (bV (s 3)), (bV (s 4)), (bV (s 5)), (bV (s 6)), (bV (s 7)), (bV (s 8)), (bV (s 9)), (bV (s 10)), (bV (s 11)), (bV (s 12)), (bV (s 13)), (bV (s 14)), (bV (s 15)), nv], 30⟩ :: (mX m (v) (c) ++ [])))) w22 := hs23
  clear hs20 hid24
  replace hss := hs23.ss (I := I) le25 (SubL.sub (.cons (.head _) (.cons (.tail _ (.head _)) (.cons (.tail _ (.tail _ (.head _))) .nil))))
  refine ⟨hss, ?_⟩
  refine nrmD (vals := [(0, .agg #[(bV (s 0)), (bV (s 1)), (bV (s 2)), (bV (s 3)), (bV (s 4)), (bV (s 5)), (bV (s 6)), (bV (s 7)), (bV (s 8)), (bV (s 9)), (bV (s 10)), (bV (s 11)), (bV (s 12)), (bV (s 13)), (bV (s 14)), (bV (s 15)), nv]), (1, .agg #[kv, xv]), (2, (mV m)), (3, .pointer (some ⟨b5, 0, none⟩)), (4, .pointer (some ⟨b10, 0, none⟩)), (6, .pointer (some ⟨b15, 0, none⟩)), (7, .bool false), (12, nv), (17, .int .u64 (((hashN s k) : Nat) : Int)), (18, .agg #[kv, xv]), (19, (mV m))]) (.cons rfl (.cons rfl (.cons rfl (.cons rfl (.cons rfl (.cons rfl (.cons rfl (.cons rfl (.cons rfl (.cons rfl (.cons rfl .nil))))))))))) fun g26 => ?_
  have hs29 : St w0 I (ids (mX m (v) (c))) G1 (mX m (v) (c) ++ ([⟨b15, #[.int .u8 0, .int .u8 0, .int .u8 0, .int .u8 0, .int .u8 0, .int .u8 0, .int .u8 0, .int .u8 0, .int .u8 0, .int .u8 0, .int .u8 0, .int .u8 0, .int .u8 0, .int .u8 0, .int .u8 0, .int .u8 0, .nilIface], 30⟩, ⟨b10, #[kv, xv], 56⟩, ⟨b5, #[(bV (s 0)), (bV (s 1)), (bV (s 2)), (bV (s 3)), (bV (s 4)), (bV (s 5)), (bV (s 6)), (bV (s 7)), (bV (s 8)), (bV (s 9)), (bV (s 10)), (bV (s 11)), (bV (s 12)), (bV (s 13)), (bV (s 14)), (bV (s 15)), nv], 30⟩] : List Bx)) w22 := hs23.perm (List.Perm.trans ((List.Perm.trans ((List.Perm.trans ((List.Perm.refl _).cons _) (List.perm_middle (l₁ := (mX m (v) (c) : List Bx)) (a := (⟨b5, #[(bV (s 0)), (bV (s 1)), (bV (s 2)), (bV (s 3)), (bV (s 4)), (bV (s 5)), (bV (s 6)), (bV (s 7)), (bV (s 8)), (bV (s 9)), (bV (s 10)), (bV (s 11)), (bV (s 12)), (bV (s 13)), (bV (s 14)), (bV (s 15)), nv], 30⟩ : Bx)) (l₂ := [])).symm).cons _) (List.perm_middle (l₁ := (mX m (v) (c) : List Bx)) (a := (⟨b10, #[kv, xv], 56⟩ : Bx)) (l₂ := [⟨b5, #[(bV (s 0)), (bV (s 1)), (bV (s 2)), (bV (s 3)), (bV (s 4)), (bV (s 5)), (bV (s 6)), (bV (s 7)), (bV (s 8)), (bV (s 9)), (bV (s 10)), (bV (s 11)), (bV (s 12)), (bV (s 13)), (bV (s 14)), (bV (s 15)), nv], 30⟩])).symm).cons _) (List.perm_middle (l₁ := (mX m (v) (c) : List Bx)) (a := (⟨b15, #[.int .u8 0, .int .u8 0, .int .u8 0, .int .u8 0, .int .u8 0, .int .u8 0, .int .u8 0, .int .u8 0, .int .u8 0, .int .u8 0, .int .u8 0, .int .u8 0, .int .u8 0, .int .u8 0, .int .u8 0, .int .u8 0, .nilIface], 30⟩ : Bx)) (l₂ := [⟨b10, #[kv, xv], 56⟩, ⟨b5, #[(bV (s 0)), (bV (s 1)), (bV (s 2)), (bV (s 3)), (bV (s 4)), (bV (s 5)), (bV (s 6)), (bV (s 7)), (bV (s 8)), (bV (s 9)), (bV (s 10)), (bV (s 11)), (bV (s 12)), (bV (s 13)), (bV (s 14)), (bV (s 15)), nv], 30⟩])).symm); clear hs23
  refine dro 9 (by kernel_rfl) rfl (ow_call (X := mX m (v) (c)) (L := [⟨b15, #[.int .u8 0, .int .u8 0, .int .u8 0, .int .u8 0, .int .u8 0, .int .u8 0, .int .u8 0, .int .u8 0, .int .u8 0, .int .u8 0, .int .u8 0, .int .u8 0, .int .u8 0, .int .u8 0, .int .u8 0, .int .u8 0, .nilIface], 30⟩, ⟨b10, #[kv, xv], 56⟩, ⟨b5, #[(bV (s 0)), (bV (s 1)), (bV (s 2)), (bV (s 3)), (bV (s 4)), (bV (s 5)), (bV (s 6)), (bV (s 7)), (bV (s 8)), (bV (s 9)), (bV (s 10)), (bV (s 11)), (bV (s 12)), (bV (s 13)), (bV (s 14)), (bV (s 15)), nv], 30⟩]) (lb := []) hs29 (graft_put_ok (h := (hashN s k)) (ht.up le25) (hashN_lt _ _) h1 h2 hw hsz (hn.up le25) (hk.up le25) (hx.up le25)) (by kernel_rfl) rfl rfl rfl rfl rfl ?_)
  rintro _ G2 X1 w30 ⟨u27, rfl, hn28, rfl⟩ le33 hs31 hid32
  replace hs31 : St w0 I (ids (mX m (v) (c))) G2 (mX m (v + N.insV (hashN s k) k n 0) (c + N.insC (hashN s k) k n 0) ++ ([⟨b15, #[.int .u8 0, .int .u8 0, .int .u8 0, .int .u8 0, .int .u8 0, .int .u8 0, .int .u8 0, .int .u8 0, .int .u8 0, .int .u8 0, .int .u8 0, .int .u8 0, .int .u8 0, .int .u8 0, .int .u8 0, .int .u8 0, .nilIface], 30⟩, ⟨b10, #[kv, xv], 56⟩, ⟨b5, #[(bV (s 0)), (bV (s 1)), (bV (s 2)), (bV (s 3)), (bV (s 4)), (bV (s 5)), (bV (s 6)), (bV (s 7)), (bV (s 8)), (bV (s 9)), (bV (s 10)), (bV (s 11)), (bV (s 12)), (bV (s 13)), (bV (s 14)), (bV (s 15)), nv], 30⟩] : List Bx)) w30 := hs31
  clear hs29 hid32
  replace hss := hs31.ss (I := I) (le25.trans le33) (SubL.sub (.cons (List.mem_append_right _ (.head _)) (.cons (List.mem_append_right _ (.tail _ (.head _))) (.cons (List.mem_append_right _ (.tail _ (.tail _ (.head _)))) .nil))))
  refine ⟨hss, ?_⟩
  refine dt 10 rfl (by kernel_rfl) (fun _ _ _ h => h) hss (fun _ h => r_move rfl) rfl ?_
  refine dt 11 rfl (by kernel_rfl) (fun _ _ _ h => h) hss (fun _ h => r_extract rfl rfl rfl) rfl ?_
  refine dt 12 rfl (by kernel_rfl) (fun _ _ _ h => h) hss (fun _ h => r_extract rfl rfl rfl) rfl ?_
  refine dt 13 rfl (by kernel_rfl) (fun _ _ _ h => h) hss (fun _ h => r_assign rfl) rfl ?_
  refine dt 14 rfl (by kernel_rfl) (fun _ _ _ h => h) hss (fun _ h => r_assign rfl) rfl ?_
  refine draw_done (by kernel_rfl) ?_
  refine hK19 _ _ ?_; (try clear hK19 K18)
  refine wp_seq_k fun K34 hK35 => ?_
  refine wl_begin ?_
  refine sq (r_fieldAddr (off := 0) rfl (by kernel_rfl) rfl) rfl ?_
  refine sq (r_loadN (m := 16) (vs := [(bV (s 0)), (bV (s 1)), (bV (s 2)), (bV (s 3)), (bV (s 4)), (bV (s 5)), (bV (s 6)), (bV (s 7)), (bV (s 8)), (bV (s 9)), (bV (s 10)), (bV (s 11)), (bV (s 12)), (bV (s 13)), (bV (s 14)), (bV (s 15))]) rfl (by kernel_rfl) rfl (hs31.box (List.mem_append_right _ (.tail _ (.tail _ (.head _))))) (by kernel_rfl) rfl) rfl ?_
  refine sq (r_move rfl) rfl ?_
  refine sq (r_build (.cons rfl rfl (.cons rfl (One.cells hn28.one) .nil)) (cells := #[(bV (s 0)), (bV (s 1)), (bV (s 2)), (bV (s 3)), (bV (s 4)), (bV (s 5)), (bV (s 6)), (bV (s 7)), (bV (s 8)), (bV (s 9)), (bV (s 10)), (bV (s 11)), (bV (s 12)), (bV (s 13)), (bV (s 14)), (bV (s 15)), u27]) (by kernel_rfl)) rfl ?_
  refine sq (r_move rfl) rfl ?_
  have hs38 : St w0 I (ids (mX m (v) (c))) G2 (⟨b15, #[.int .u8 0, .int .u8 0, .int .u8 0, .int .u8 0, .int .u8 0, .int .u8 0, .int .u8 0, .int .u8 0, .int .u8 0, .int .u8 0, .int .u8 0, .int .u8 0, .int .u8 0, .int .u8 0, .int .u8 0, .int .u8 0, .nilIface], 30⟩ :: (mX m (v + N.insV (hashN s k) k n 0) (c + N.insC (hashN s k) k n 0) ++ ([⟨b10, #[kv, xv], 56⟩, ⟨b5, #[(bV (s 0)), (bV (s 1)), (bV (s 2)), (bV (s 3)), (bV (s 4)), (bV (s 5)), (bV (s 6)), (bV (s 7)), (bV (s 8)), (bV (s 9)), (bV (s 10)), (bV (s 11)), (bV (s 12)), (bV (s 13)), (bV (s 14)), (bV (s 15)), nv], 30⟩] : List Bx))) w30 := hs31.perm (List.Perm.trans ((List.Perm.refl _).append_left _) (List.perm_middle (l₁ := (mX m (v + N.insV (hashN s k) k n 0) (c + N.insC (hashN s k) k n 0) : List Bx)) (a := (⟨b15, #[.int .u8 0, .int .u8 0, .int .u8 0, .int .u8 0, .int .u8 0, .int .u8 0, .int .u8 0, .int .u8 0, .int .u8 0, .int .u8 0, .int .u8 0, .int .u8 0, .int .u8 0, .int .u8 0, .int .u8 0, .int .u8 0, .nilIface], 30⟩ : Bx)) (l₂ := [⟨b10, #[kv, xv], 56⟩, ⟨b5, #[(bV (s 0)), (bV (s 1)), (bV (s 2)), (bV (s 3)), (bV (s 4)), (bV (s 5)), (bV (s 6)), (bV (s 7)), (bV (s 8)), (bV (s 9)), (bV (s 10)), (bV (s 11)), (bV (s 12)), (bV (s 13)), (bV (s 14)), (bV (s 15)), nv], 30⟩]))); clear hs31
  refine sqo rfl fun K36 hK37 => ow_storeK (vs := [(bV (s 0)), (bV (s 1)), (bV (s 2)), (bV (s 3)), (bV (s 4)), (bV (s 5)), (bV (s 6)), (bV (s 7)), (bV (s 8)), (bV (s 9)), (bV (s 10)), (bV (s 11)), (bV (s 12)), (bV (s 13)), (bV (s 14)), (bV (s 15)), u27]) (cs' := #[(bV (s 0)), (bV (s 1)), (bV (s 2)), (bV (s 3)), (bV (s 4)), (bV (s 5)), (bV (s 6)), (bV (s 7)), (bV (s 8)), (bV (s 9)), (bV (s 10)), (bV (s 11)), (bV (s 12)), (bV (s 13)), (bV (s 14)), (bV (s 15)), u27]) hs38 rfl rfl (by kernel_rfl) rfl rfl (.cons trivial (.cons trivial (.cons trivial (.cons trivial (.cons trivial (.cons trivial (.cons trivial (.cons trivial (.cons trivial (.cons trivial (.cons trivial (.cons trivial (.cons trivial (.cons trivial (.cons trivial (.cons trivial (.cons hn28.one .nil))))))))))))))))) (by kernel_rfl) (by kernel_rfl) ?_
  rintro w39 (hs40 : St w0 I (ids (mX m (v) (c))) G2 (⟨b15, #[(bV (s 0)), (bV (s 1)), (bV (s 2)), (bV (s 3)), (bV (s 4)), (bV (s 5)), (bV (s 6)), (bV (s 7)), (bV (s 8)), (bV (s 9)), (bV (s 10)), (bV (s 11)), (bV (s 12)), (bV (s 13)), (bV (s 14)), (bV (s 15)), u27], 30⟩ :: (mX m (v + N.insV (hashN s k) k n 0) (c + N.insC (hashN s k) k n 0) ++ ([⟨b10, #[kv, xv], 56⟩, ⟨b5, #[(bV (s 0)), (bV (s 1)), (bV (s 2)), (bV (s 3)), (bV (s 4)), (bV (s 5)), (bV (s 6)), (bV (s 7)), (bV (s 8)), (bV (s 9)), (bV (s 10)), (bV (s 11)), (bV (s 12)), (bV (s 13)), (bV (s 14)), (bV (s 15)), nv], 30⟩] : List Bx))) w39)
  clear hs38
  refine hK37 _ _ ?_; clear hK37 K36
  refine sq (r_assign rfl) rfl ?_
  refine wl_nil ?_
  refine hK35 _ _ ?_; (try clear hK35 K34)
  refine wp_ret ?_
  have hs41 : St w0 I (ids (mX m (v) (c))) G2 (mX m (v + N.insV (hashN s k) k n 0) (c + N.insC (hashN s k) k n 0) ++ ([⟨b15, #[(bV (s 0)), (bV (s 1)), (bV (s 2)), (bV (s 3)), (bV (s 4)), (bV (s 5)), (bV (s 6)), (bV (s 7)), (bV (s 8)), (bV (s 9)), (bV (s 10)), (bV (s 11)), (bV (s 12)), (bV (s 13)), (bV (s 14)), (bV (s 15)), u27], 30⟩, ⟨b10, #[kv, xv], 56⟩, ⟨b5, #[(bV (s 0)), (bV (s 1)), (bV (s 2)), (bV (s 3)), (bV (s 4)), (bV (s 5)), (bV (s 6)), (bV (s 7)), (bV (s 8)), (bV (s 9)), (bV (s 10)), (bV (s 11)), (bV (s 12)), (bV (s 13)), (bV (s 14)), (bV (s 15)), nv], 30⟩] : List Bx)) w39 := hs40.perm (List.Perm.trans ((List.Perm.refl _).cons _) (List.perm_middle (l₁ := (mX m (v + N.insV (hashN s k) k n 0) (c + N.insC (hashN s k) k n 0) : List Bx)) (a := (⟨b15, #[(bV (s 0)), (bV (s 1)), (bV (s 2)), (bV (s 3)), (bV (s 4)), (bV (s 5)), (bV (s 6)), (bV (s 7)), (bV (s 8)), (bV (s 9)), (bV (s 10)), (bV (s 11)), (bV (s 12)), (bV (s 13)), (bV (s 14)), (bV (s 15)), u27], 30⟩ : Bx)) (l₂ := [⟨b10, #[kv, xv], 56⟩, ⟨b5, #[(bV (s 0)), (bV (s 1)), (bV (s 2)), (bV (s 3)), (bV (s 4)), (bV (s 5)), (bV (s 6)), (bV (s 7)), (bV (s 8)), (bV (s 9)), (bV (s 10)), (bV (s 11)), (bV (s 12)), (bV (s 13)), (bV (s 14)), (bV (s 15)), nv], 30⟩])).symm); clear hs40
  exact leave (X' := mX m (v + N.insV (hashN s k) k n 0) (c + N.insC (hashN s k) k n 0)) (L := [⟨b15, #[(bV (s 0)), (bV (s 1)), (bV (s 2)), (bV (s 3)), (bV (s 4)), (bV (s 5)), (bV (s 6)), (bV (s 7)), (bV (s 8)), (bV (s 9)), (bV (s 10)), (bV (s 11)), (bV (s 12)), (bV (s 13)), (bV (s 14)), (bV (s 15)), u27], 30⟩, ⟨b10, #[kv, xv], 56⟩, ⟨b5, #[(bV (s 0)), (bV (s 1)), (bV (s 2)), (bV (s 3)), (bV (s 4)), (bV (s 5)), (bV (s 6)), (bV (s 7)), (bV (s 8)), (bV (s 9)), (bV (s 10)), (bV (s 11)), (bV (s 12)), (bV (s 13)), (bV (s 14)), (bV (s 15)), nv], 30⟩]) hs41 (mX_ids _ _ _ _ _) (res_many (vs := [.agg #[(bV (s 0)), (bV (s 1)), (bV (s 2)), (bV (s 3)), (bV (s 4)), (bV (s 5)), (bV (s 6)), (bV (s 7)), (bV (s 8)), (bV (s 9)), (bV (s 10)), (bV (s 11)), (bV (s 12)), (bV (s 13)), (bV (s 14)), (bV (s 15)), u27], .bool ((N.ins (hashN s k) k x n 0).2)]) rfl (.agg (m := 17) (us := [(bV (s 0)), (bV (s 1)), (bV (s 2)), (bV (s 3)), (bV (s 4)), (bV (s 5)), (bV (s 6)), (bV (s 7)), (bV (s 8)), (bV (s 9)), (bV (s 10)), (bV (s 11)), (bV (s 12)), (bV (s 13)), (bV (s 14)), (bV (s 15)), u27]) rfl rfl (by kernel_rfl) (hs41.box (List.mem_append_right _ (.head _))) (by kernel_rfl) rfl (.tmp rfl rfl .nil)) rfl) ⟨_, rfl, hn28, rfl⟩
set_option maxRecDepth 100000 in
theorem trie_putn_ok {I : GH} {s : Nat → UInt8} {n : N} {nv kv xv : Value} {k x : Bs} (ht : TabG I) (hst : StartG I) (h1 : k.length ≤ 1000000) (h2 : x.length ≤ 1000000) (hw : N.WF 0 0 n) (hsz : n.size ≤ 999000) (hn : NodeAt I nv n) (hk : BytesAt I kv k) (hx : BytesAt I xv x) : Fn Tryd.prog 37 #[.agg #[bV (s 0), bV (s 1), bV (s 2), bV (s 3), bV (s 4), bV (s 5), bV (s 6), bV (s 7), bV (s 8), bV (s 9), bV (s 10), bV (s 11), bV (s 12), bV (s 13), bV (s 14), bV (s 15), nv], .agg #[kv, xv], .pointer none] I [] (fun r J X => ∃ u, r = .tuple #[.agg #[bV (s 0), bV (s 1), bV (s 2), bV (s 3), bV (s 4), bV (s 5), bV (s 6), bV (s 7), bV (s 8), bV (s 9), bV (s 10), bV (s 11), bV (s 12), bV (s 13), bV (s 14), bV (s 15), u], .bool (N.ins (hashN s k) k x n 0).2] ∧ NodeAt J u (N.ins (hashN s k) k x n 0).1 ∧ True) := by
  refine enter (args := [.agg #[(bV (s 0)), (bV (s 1)), (bV (s 2)), (bV (s 3)), (bV (s 4)), (bV (s 5)), (bV (s 6)), (bV (s 7)), (bV (s 8)), (bV (s 9)), (bV (s 10)), (bV (s 11)), (bV (s 12)), (bV (s 13)), (bV (s 14)), (bV (s 15)), nv], .agg #[kv, xv], .pointer none]) Tryd.func37 rfl rfl fun w0 hs0 => ?_
  refine wp_seq_k fun K1 hK2 => ?_
  refine wl_begin ?_
  refine sqo rfl fun K3 hK4 => ow_newbox (mk := fun b => .pointer (some ⟨b, 0, none⟩)) hs0 (r_box rfl rfl) rfl ?_
  rintro b5 w6 (hs7 : St w0 I (ids []) I [⟨b5, #[(bV (s 0)), (bV (s 1)), (bV (s 2)), (bV (s 3)), (bV (s 4)), (bV (s 5)), (bV (s 6)), (bV (s 7)), (bV (s 8)), (bV (s 9)), (bV (s 10)), (bV (s 11)), (bV (s 12)), (bV (s 13)), (bV (s 14)), (bV (s 15)), nv], 30⟩] w6)
  clear hs0
  refine hK4 _ _ ?_; clear hK4 K3
  refine sqo rfl fun K8 hK9 => ow_newbox (mk := fun b => .pointer (some ⟨b, 0, none⟩)) hs7 (r_box rfl rfl) rfl ?_
  rintro b10 w11 (hs12 : St w0 I (ids []) I [⟨b10, #[kv, xv], 56⟩, ⟨b5, #[(bV (s 0)), (bV (s 1)), (bV (s 2)), (bV (s 3)), (bV (s 4)), (bV (s 5)), (bV (s 6)), (bV (s 7)), (bV (s 8)), (bV (s 9)), (bV (s 10)), (bV (s 11)), (bV (s 12)), (bV (s 13)), (bV (s 14)), (bV (s 15)), nv], 30⟩] w11)
  clear hs7
  refine hK9 _ _ ?_; clear hK9 K8
  refine sqo rfl fun K13 hK14 => ow_newbox (mk := fun b => .pointer (some ⟨b, 0, none⟩)) hs12 (r_alloc (cs := [.int .u8 0, .int .u8 0, .int .u8 0, .int .u8 0, .int .u8 0, .int .u8 0, .int .u8 0, .int .u8 0, .int .u8 0, .int .u8 0, .int .u8 0, .int .u8 0, .int .u8 0, .int .u8 0, .int .u8 0, .int .u8 0, .nilIface]) (by kernel_rfl)) rfl ?_
  rintro b15 w16 (hs17 : St w0 I (ids []) I [⟨b15, #[.int .u8 0, .int .u8 0, .int .u8 0, .int .u8 0, .int .u8 0, .int .u8 0, .int .u8 0, .int .u8 0, .int .u8 0, .int .u8 0, .int .u8 0, .int .u8 0, .int .u8 0, .int .u8 0, .int .u8 0, .int .u8 0, .nilIface], 30⟩, ⟨b10, #[kv, xv], 56⟩, ⟨b5, #[(bV (s 0)), (bV (s 1)), (bV (s 2)), (bV (s 3)), (bV (s 4)), (bV (s 5)), (bV (s 6)), (bV (s 7)), (bV (s 8)), (bV (s 9)), (bV (s 10)), (bV (s 11)), (bV (s 12)), (bV (s 13)), (bV (s 14)), (bV (s 15)), nv], 30⟩] w16)
  clear hs12
  refine hK14 _ _ ?_; clear hK14 K13
  refine sq (r_assign rfl) rfl ?_
  refine wl_nil ?_
  refine hK2 _ _ ?_; (try clear hK2 K1)
  refine wp_seq_k fun K18 hK19 => ?_
  refine draw_begin (S := SS I [⟨b15, #[.int .u8 0, .int .u8 0, .int .u8 0, .int .u8 0, .int .u8 0, .int .u8 0, .int .u8 0, .int .u8 0, .int .u8 0, .int .u8 0, .int .u8 0, .int .u8 0, .int .u8 0, .int .u8 0, .int .u8 0, .int .u8 0, .nilIface], 30⟩, ⟨b10, #[kv, xv], 56⟩, ⟨b5, #[(bV (s 0)), (bV (s 1)), (bV (s 2)), (bV (s 3)), (bV (s 4)), (bV (s 5)), (bV (s 6)), (bV (s 7)), (bV (s 8)), (bV (s 9)), (bV (s 10)), (bV (s 11)), (bV (s 12)), (bV (s 13)), (bV (s 14)), (bV (s 15)), nv], 30⟩]) (by kernel_rfl) ?_
  have hs20 := hs17.drew; clear hs17
  have hss := hs20.ss (I := I) (GH.le.refl _) (fun _ h => h)
  refine dt 0 rfl (by kernel_rfl) (fun _ _ _ h => h) hss (fun _ h => (r_fieldAddr (off := 16) rfl (by kernel_rfl) rfl)) rfl ?_
  refine dt 1 rfl (by kernel_rfl) (fun _ _ _ h => h) hss (fun _ h => r_load rfl (by kernel_rfl) rfl (h.box (.tail _ (.tail _ (.head _)))) rfl) rfl ?_
  refine dt 2 rfl (by kernel_rfl) (fun _ _ _ h => h) hss (fun _ h => (r_fieldAddr (off := 0) rfl (by kernel_rfl) rfl)) rfl ?_
  refine dt 3 rfl (by kernel_rfl) (fun _ _ _ h => h) hss (fun _ h => r_loadN (m := 16) (vs := [(bV (s 0)), (bV (s 1)), (bV (s 2)), (bV (s 3)), (bV (s 4)), (bV (s 5)), (bV (s 6)), (bV (s 7)), (bV (s 8)), (bV (s 9)), (bV (s 10)), (bV (s 11)), (bV (s 12)), (bV (s 13)), (bV (s 14)), (bV (s 15))]) rfl (by kernel_rfl) rfl (h.box (.tail _ (.tail _ (.head _)))) (by kernel_rfl) rfl) rfl ?_
  refine dt 4 rfl (by kernel_rfl) (fun _ _ _ h => h) hss (fun _ h => (r_fieldAddr (off := 0) rfl (by kernel_rfl) rfl)) rfl ?_
  refine dt 5 rfl (by kernel_rfl) (fun _ _ _ h => h) hss (fun _ h => r_load rfl (by kernel_rfl) rfl (h.box (.tail _ (.head _))) rfl) rfl ?_
  refine dt 7 rfl (by kernel_rfl) (fun _ _ _ h => h) hss (fun _ h => r_loadN (m := 2) rfl (by kernel_rfl) rfl (h.box (.tail _ (.head _))) rfl rfl) rfl ?_
  refine dt 8 rfl (by kernel_rfl) (fun _ _ _ h => h) hss (fun _ h => r_move rfl) rfl ?_
  refine dro 6 (by kernel_rfl) rfl (ow_call (X := []) (L := [⟨b15, #[.int .u8 0, .int .u8 0, .int .u8 0, .int .u8 0, .int .u8 0, .int .u8 0, .int .u8 0, .int .u8 0, .int .u8 0, .int .u8 0, .int .u8 0, .int .u8 0, .int .u8 0, .int .u8 0, .int .u8 0, .int .u8 0, .nilIface], 30⟩, ⟨b10, #[kv, xv], 56⟩, ⟨b5, #[(bV (s 0)), (bV (s 1)), (bV (s 2)), (bV (s 3)), (bV (s 4)), (bV (s 5)), (bV (s 6)), (bV (s 7)), (bV (s 8)), (bV (s 9)), (bV (s 10)), (bV (s 11)), (bV (s 12)), (bV (s 13)), (bV (s 14)), (bV (s 15)), nv], 30⟩]) (lb := []) hs20 (hash_sip_ok hst hk (by omega)) (by kernel_rfl) rfl rfl rfl rfl rfl ?_)
  rintro _ G1 X1 w22 rfl le25 hs23 hid24
  obtain rfl : X1 = [] := List.map_eq_nil_iff.1 hid24
  replace hs23 : St w0 I (ids []) G1 [⟨b15, #[.int .u8 0, .int .u8 0, .int .u8 0, .int .u8 0, .int .u8 0, .int .u8 0, .int .u8 0, .int .u8 0, .int .u8 0, .int .u8 0, .int .u8 0, .int .u8 0, .int .u8 0, .int .u8 0, .int .u8 0, .int .u8 0, .nilIface], 30⟩, ⟨b10, #[kv, xv], 56⟩, ⟨b5, #[(bV (s 0)), (bV (s 1)), (bV (s 2)), (bV (s 3)), (bV (s 4)), (bV (s 5)), (bV (s 6)), (bV (s 7)), (bV (s 8)), (bV (s 9)), (bV (s 10)), (bV (s 11)), (bV (s 12)), (bV (s 13)), (bV (s 14)), (bV (s 15)), nv], 30⟩] w22 := hs23
  clear hs20 hid24
  replace hss := hs23.ss (I := I) le25 (fun _ h => h)
  refine ⟨hss, ?_⟩
  refine nrmD (vals := [(0, .agg #[(bV (s 0)), (bV (s 1)), (bV (s 2)), (bV (s 3)), (bV (s 4)), (bV (s 5)), (bV (s 6)), (bV (s 7)), (bV (s 8)), (bV (s 9)), (bV (s 10)), (bV (s 11)), (bV (s 12)), (bV (s 13)), (bV (s 14)), (bV (s 15)), nv]), (1, .agg #[kv, xv]), (2, .pointer none), (3, .pointer (some ⟨b5, 0, none⟩)), (4, .pointer (some ⟨b10, 0, none⟩)), (6, .pointer (some ⟨b15, 0, none⟩)), (7, .bool false), (12, nv), (17, .int .u64 (((hashN s k) : Nat) : Int)), (18, .agg #[kv, xv]), (19, .pointer none)]) (.cons rfl (.cons rfl (.cons rfl (.cons rfl (.cons rfl (.cons rfl (.cons rfl (.cons rfl (.cons rfl (.cons rfl (.cons rfl .nil))))))))))) fun g26 => ?_
  refine dro 9 (by kernel_rfl) rfl (ow_call (X := []) (L := [⟨b15, #[.int .u8 0, .int .u8 0, .int .u8 0, .int .u8 0, .int .u8 0, .int .u8 0, .int .u8 0, .int .u8 0, .int .u8 0, .int .u8 0, .int .u8 0, .int .u8 0, .int .u8 0, .int .u8 0, .int .u8 0, .int .u8 0, .nilIface], 30⟩, ⟨b10, #[kv, xv], 56⟩, ⟨b5, #[(bV (s 0)), (bV (s 1)), (bV (s 2)), (bV (s 3)), (bV (s 4)), (bV (s 5)), (bV (s 6)), (bV (s 7)), (bV (s 8)), (bV (s 9)), (bV (s 10)), (bV (s 11)), (bV (s 12)), (bV (s 13)), (bV (s 14)), (bV (s 15)), nv], 30⟩]) (lb := []) hs23 (graft_put_ok (m := none) (v := 0) (c := 0) (h := (hashN s k)) (ht.up le25) (hashN_lt _ _) h1 h2 hw hsz (hn.up le25) (hk.up le25) (hx.up le25)) (by kernel_rfl) rfl rfl rfl rfl rfl ?_)
  rintro _ G2 X1 w29 ⟨u27, rfl, hn28, _⟩ le32 hs30 hid31
  obtain rfl : X1 = [] := List.map_eq_nil_iff.1 hid31
  replace hs30 : St w0 I (ids []) G2 [⟨b15, #[.int .u8 0, .int .u8 0, .int .u8 0, .int .u8 0, .int .u8 0, .int .u8 0, .int .u8 0, .int .u8 0, .int .u8 0, .int .u8 0, .int .u8 0, .int .u8 0, .int .u8 0, .int .u8 0, .int .u8 0, .int .u8 0, .nilIface], 30⟩, ⟨b10, #[kv, xv], 56⟩, ⟨b5, #[(bV (s 0)), (bV (s 1)), (bV (s 2)), (bV (s 3)), (bV (s 4)), (bV (s 5)), (bV (s 6)), (bV (s 7)), (bV (s 8)), (bV (s 9)), (bV (s 10)), (bV (s 11)), (bV (s 12)), (bV (s 13)), (bV (s 14)), (bV (s 15)), nv], 30⟩] w29 := hs30
  clear hs23 hid31
  replace hss := hs30.ss (I := I) (le25.trans le32) (fun _ h => h)
  refine ⟨hss, ?_⟩
  refine dt 10 rfl (by kernel_rfl) (fun _ _ _ h => h) hss (fun _ h => r_move rfl) rfl ?_
  refine dt 11 rfl (by kernel_rfl) (fun _ _ _ h => h) hss (fun _ h => r_extract rfl rfl rfl) rfl ?_
  refine dt 12 rfl (by kernel_rfl) (fun _ _ _ h => h) hss (fun _ h => r_extract rfl rfl rfl) rfl ?_
  refine dt 13 rfl (by kernel_rfl) (fun _ _ _ h => h) hss (fun _ h => r_assign rfl) rfl ?_
  refine dt 14 rfl (by kernel_rfl) (fun _ _ _ h => h) hss (fun _ h => r_assign rfl) rfl ?_
  refine draw_done (by kernel_rfl) ?_
  refine hK19 _ _ ?_; (try clear hK19 K18)
  refine wp_seq_k fun K33 hK34 => ?_
  refine wl_begin ?_
  refine sq (r_fieldAddr (off := 0) rfl (by kernel_rfl) rfl) rfl ?_
  refine sq (r_loadN (m := 16) (vs := [(bV (s 0)), (bV (s 1)), (bV (s 2)), (bV (s 3)), (bV (s 4)), (bV (s 5)), (bV (s 6)), (bV (s 7)), (bV (s 8)), (bV (s 9)), (bV (s 10)), (bV (s 11)), (bV (s 12)), (bV (s 13)), (bV (s 14)), (bV (s 15))]) rfl (by kernel_rfl) rfl (hs30.box (.tail _ (.tail _ (.head _)))) (by kernel_rfl) rfl) rfl ?_
  refine sq (r_move rfl) rfl ?_
  refine sq (r_build (.cons rfl rfl (.cons rfl (One.cells hn28.one) .nil)) (cells := #[(bV (s 0)), (bV (s 1)), (bV (s 2)), (bV (s 3)), (bV (s 4)), (bV (s 5)), (bV (s 6)), (bV (s 7)), (bV (s 8)), (bV (s 9)), (bV (s 10)), (bV (s 11)), (bV (s 12)), (bV (s 13)), (bV (s 14)), (bV (s 15)), u27]) (by kernel_rfl)) rfl ?_
  refine sq (r_move rfl) rfl ?_
  refine sqo rfl fun K35 hK36 => ow_storeK (vs := [(bV (s 0)), (bV (s 1)), (bV (s 2)), (bV (s 3)), (bV (s 4)), (bV (s 5)), (bV (s 6)), (bV (s 7)), (bV (s 8)), (bV (s 9)), (bV (s 10)), (bV (s 11)), (bV (s 12)), (bV (s 13)), (bV (s 14)), (bV (s 15)), u27]) (cs' := #[(bV (s 0)), (bV (s 1)), (bV (s 2)), (bV (s 3)), (bV (s 4)), (bV (s 5)), (bV (s 6)), (bV (s 7)), (bV (s 8)), (bV (s 9)), (bV (s 10)), (bV (s 11)), (bV (s 12)), (bV (s 13)), (bV (s 14)), (bV (s 15)), u27]) hs30 rfl rfl (by kernel_rfl) rfl rfl (.cons trivial (.cons trivial (.cons trivial (.cons trivial (.cons trivial (.cons trivial (.cons trivial (.cons trivial (.cons trivial (.cons trivial (.cons trivial (.cons trivial (.cons trivial (.cons trivial (.cons trivial (.cons trivial (.cons hn28.one .nil))))))))))))))))) (by kernel_rfl) (by kernel_rfl) ?_
  rintro w37 (hs38 : St w0 I (ids []) G2 [⟨b15, #[(bV (s 0)), (bV (s 1)), (bV (s 2)), (bV (s 3)), (bV (s 4)), (bV (s 5)), (bV (s 6)), (bV (s 7)), (bV (s 8)), (bV (s 9)), (bV (s 10)), (bV (s 11)), (bV (s 12)), (bV (s 13)), (bV (s 14)), (bV (s 15)), u27], 30⟩, ⟨b10, #[kv, xv], 56⟩, ⟨b5, #[(bV (s 0)), (bV (s 1)), (bV (s 2)), (bV (s 3)), (bV (s 4)), (bV (s 5)), (bV (s 6)), (bV (s 7)), (bV (s 8)), (bV (s 9)), (bV (s 10)), (bV (s 11)), (bV (s 12)), (bV (s 13)), (bV (s 14)), (bV (s 15)), nv], 30⟩] w37)
  clear hs30
  refine hK36 _ _ ?_; clear hK36 K35
  refine sq (r_assign rfl) rfl ?_
  refine wl_nil ?_
  refine hK34 _ _ ?_; (try clear hK34 K33)
  refine wp_ret ?_
  exact leave (X' := []) (L := [⟨b15, #[(bV (s 0)), (bV (s 1)), (bV (s 2)), (bV (s 3)), (bV (s 4)), (bV (s 5)), (bV (s 6)), (bV (s 7)), (bV (s 8)), (bV (s 9)), (bV (s 10)), (bV (s 11)), (bV (s 12)), (bV (s 13)), (bV (s 14)), (bV (s 15)), u27], 30⟩, ⟨b10, #[kv, xv], 56⟩, ⟨b5, #[(bV (s 0)), (bV (s 1)), (bV (s 2)), (bV (s 3)), (bV (s 4)), (bV (s 5)), (bV (s 6)), (bV (s 7)), (bV (s 8)), (bV (s 9)), (bV (s 10)), (bV (s 11)), (bV (s 12)), (bV (s 13)), (bV (s 14)), (bV (s 15)), nv], 30⟩]) hs38 rfl (res_many (vs := [.agg #[(bV (s 0)), (bV (s 1)), (bV (s 2)), (bV (s 3)), (bV (s 4)), (bV (s 5)), (bV (s 6)), (bV (s 7)), (bV (s 8)), (bV (s 9)), (bV (s 10)), (bV (s 11)), (bV (s 12)), (bV (s 13)), (bV (s 14)), (bV (s 15)), u27], .bool ((N.ins (hashN s k) k x n 0).2)]) rfl (.agg (m := 17) (us := [(bV (s 0)), (bV (s 1)), (bV (s 2)), (bV (s 3)), (bV (s 4)), (bV (s 5)), (bV (s 6)), (bV (s 7)), (bV (s 8)), (bV (s 9)), (bV (s 10)), (bV (s 11)), (bV (s 12)), (bV (s 13)), (bV (s 14)), (bV (s 15)), u27]) rfl rfl (by kernel_rfl) (hs38.box (.head _)) (by kernel_rfl) rfl (.tmp rfl rfl .nil)) rfl) ⟨_, rfl, hn28, trivial⟩
set_option maxRecDepth 100000 in
theorem trie_get_ok {I : GH} {m : Option Nat} {v c : Nat} {s : Nat → UInt8} {n : N} {nv kv : Value} {k : Bs} (ht : TabG I) (hst : StartG I) (h1 : k.length ≤ 1000000) (hw : N.WF 0 0 n) (hsz : n.size ≤ 999000) (hn : NodeAt I nv n) (hk : BytesAt I kv k) : Fn Tryd.prog 38 #[.agg #[bV (s 0), bV (s 1), bV (s 2), bV (s 3), bV (s 4), bV (s 5), bV (s 6), bV (s 7), bV (s 8), bV (s 9), bV (s 10), bV (s 11), bV (s 12), bV (s 13), bV (s 14), bV (s 15), nv], kv, mV m] I (mX m v c) (fun r J X => ∃ xv, r = .tuple #[xv, .bool (N.endGet (hashN s k) k (N.way (hashN s k) n 0).1).isSome] ∧ BytesAt J xv ((N.endGet (hashN s k) k (N.way (hashN s k) n 0).1).getD []) ∧ X = mX m (v + (N.way (hashN s k) n 0).2 + N.endV (hashN s k) k (N.way (hashN s k) n 0).1) (c + N.endC (hashN s k) k (N.way (hashN s k) n 0).1)) := by
  refine enter (args := [.agg #[(bV (s 0)), (bV (s 1)), (bV (s 2)), (bV (s 3)), (bV (s 4)), (bV (s 5)), (bV (s 6)), (bV (s 7)), (bV (s 8)), (bV (s 9)), (bV (s 10)), (bV (s 11)), (bV (s 12)), (bV (s 13)), (bV (s 14)), (bV (s 15)), nv], kv, (mV m)]) Tryd.func38 rfl rfl fun w0 hs0 => ?_
  replace hs0 : St w0 I (ids (mX m (v) (c))) I (mX m (v) (c) ++ []) w0 := by simpa using hs0
  refine wp_seq_k fun K1 hK2 => ?_
  refine wl_begin ?_
  refine sqo rfl fun K3 hK4 => ow_newbox (mk := fun b => .pointer (some ⟨b, 0, none⟩)) hs0 (r_box rfl rfl) rfl ?_
  rintro b5 w6 (hs7 : St w0 I (ids (mX m (v) (c))) I (⟨b5, #[(bV (s 0)), (bV (s 1)), (bV (s 2)), (bV (s 3)), (bV (s 4)), (bV (s 5)), (bV (s 6)), (bV (s 7)), (bV (s 8)), (bV (s 9)), (bV (s 10)), (bV (s 11)), (bV (s 12)), (bV (s 13)), (bV (s 14)), (bV (s 15)), nv], 30⟩ :: (mX m (v) (c) ++ [])) w6)
  clear hs0
  refine hK4 _ _ ?_; clear hK4 K3
  refine sq (r_assign rfl) rfl ?_
  refine sq (r_assign rfl) rfl ?_
  refine wl_nil ?_
  refine hK2 _ _ ?_; (try clear hK2 K1)
  refine wp_seq_k fun K8 hK9 => ?_
  refine draw_begin (S := SS I [⟨b5, #[(bV (s 0)), (bV (s 1)), (bV (s 2)), (bV (s 3)), (bV (s 4)), (bV (s 5)), (bV (s 6)), (bV (s 7)), (bV (s 8)), (bV (s 9)), (bV (s 10)), (bV (s 11)), (bV (s 12)), (bV (s 13)), (bV (s 14)), (bV (s 15)), nv], 30⟩]) (by kernel_rfl) ?_
  have hs10 := hs7.drew; clear hs7
  have hss := hs10.ss (I := I) (GH.le.refl _) (SubL.sub (.cons (.head _) .nil))
  refine dt 0 rfl (by kernel_rfl) (fun _ _ _ h => h) hss (fun _ h => (r_fieldAddr (off := 16) rfl (by kernel_rfl) rfl)) rfl ?_
  refine dt 1 rfl (by kernel_rfl) (fun _ _ _ h => h) hss (fun _ h => r_load rfl (by kernel_rfl) rfl (h.box (.head _)) rfl) rfl ?_
  refine dt 2 rfl (by kernel_rfl) (fun _ _ _ h => h) hss (fun _ h => (r_fieldAddr (off := 0) rfl (by kernel_rfl) rfl)) rfl ?_
  refine dt 3 rfl (by kernel_rfl) (fun _ _ _ h => h) hss (fun _ h => r_loadN (m := 16) (vs := [(bV (s 0)), (bV (s 1)), (bV (s 2)), (bV (s 3)), (bV (s 4)), (bV (s 5)), (bV (s 6)), (bV (s 7)), (bV (s 8)), (bV (s 9)), (bV (s 10)), (bV (s 11)), (bV (s 12)), (bV (s 13)), (bV (s 14)), (bV (s 15))]) rfl (by kernel_rfl) rfl (h.box (.head _)) (by kernel_rfl) rfl) rfl ?_
  refine dt 4 rfl (by kernel_rfl) (fun _ _ _ h => h) hss (fun _ h => r_move rfl) rfl ?_
  refine dt 6 rfl (by kernel_rfl) (fun _ _ _ h => h) hss (fun _ h => r_move rfl) rfl ?_
  refine dt 7 rfl (by kernel_rfl) (fun _ _ _ h => h) hss (fun _ h => r_move rfl) rfl ?_
  refine dro 5 (by kernel_rfl) rfl (ow_call (X := []) (L := (⟨b5, #[(bV (s 0)), (bV (s 1)), (bV (s 2)), (bV (s 3)), (bV (s 4)), (bV (s 5)), (bV (s 6)), (bV (s 7)), (bV (s 8)), (bV (s 9)), (bV (s 10)), (bV (s 11)), (bV (s 12)), (bV (s 13)), (bV (s 14)), (bV (s 15)), nv], 30⟩ :: (mX m (v) (c) ++ []))) (lb := []) hs10 (hash_sip_ok hst hk (by omega)) (by kernel_rfl) rfl rfl rfl rfl rfl ?_)
  rintro _ G1 X1 w12 rfl le15 hs13 hid14
  obtain rfl : X1 = [] := List.map_eq_nil_iff.1 hid14
  replace hs13 : St w0 I (ids (mX m (v) (c))) G1 (⟨b5, #[(bV (s 0)), (bV (s 1)), (bV (s 2)), (bV (s 3)), (bV (s 4)), (bV (s 5)), (bV (s 6)), (bV (s 7)), (bV (s 8)), (bV (s 9)), (bV (s 10)), (bV (s 11)), (bV (s 12)), (bV (s 13)), (bV (s 14)), (bV (s 15)), nv], 30⟩ :: (mX m (v) (c) ++ [])) w12 := hs13
  clear hs10 hid14
  replace hss := hs13.ss (I := I) le15 (SubL.sub (.cons (.head _) .nil))
  refine ⟨hss, ?_⟩
  have hs18 : St w0 I (ids (mX m (v) (c))) G1 (mX m (v) (c) ++ ([⟨b5, #[(bV (s 0)), (bV (s 1)), (bV (s 2)), (bV (s 3)), (bV (s 4)), (bV (s 5)), (bV (s 6)), (bV (s 7)), (bV (s 8)), (bV (s 9)), (bV (s 10)), (bV (s 11)), (bV (s 12)), (bV (s 13)), (bV (s 14)), (bV (s 15)), nv], 30⟩] : List Bx)) w12 := hs13.perm (List.Perm.trans ((List.Perm.refl _).cons _) (List.perm_middle (l₁ := (mX m (v) (c) : List Bx)) (a := (⟨b5, #[(bV (s 0)), (bV (s 1)), (bV (s 2)), (bV (s 3)), (bV (s 4)), (bV (s 5)), (bV (s 6)), (bV (s 7)), (bV (s 8)), (bV (s 9)), (bV (s 10)), (bV (s 11)), (bV (s 12)), (bV (s 13)), (bV (s 14)), (bV (s 15)), nv], 30⟩ : Bx)) (l₂ := [])).symm); clear hs13
  refine dro 8 (by kernel_rfl) rfl (ow_call (X := mX m (v) (c)) (L := [⟨b5, #[(bV (s 0)), (bV (s 1)), (bV (s 2)), (bV (s 3)), (bV (s 4)), (bV (s 5)), (bV (s 6)), (bV (s 7)), (bV (s 8)), (bV (s 9)), (bV (s 10)), (bV (s 11)), (bV (s 12)), (bV (s 13)), (bV (s 14)), (bV (s 15)), nv], 30⟩]) (lb := []) hs18 (find_get_ok (h := (hashN s k)) (k := k) (e := (N.way (hashN s k) n 0).1) (d := (N.way (hashN s k) n 0).2) hw (hn.up le15) (hashN_lt _ _) (hk.up le15) rfl) (by kernel_rfl) rfl rfl rfl rfl rfl ?_)
  rintro _ G2 X1 w19 ⟨xv16, rfl, hx17, rfl⟩ le22 hs20 hid21
  replace hs20 : St w0 I (ids (mX m (v) (c))) G2 (mX m (v + (N.way (hashN s k) n 0).2 + N.endV (hashN s k) k (N.way (hashN s k) n 0).1) (c + N.endC (hashN s k) k (N.way (hashN s k) n 0).1) ++ ([⟨b5, #[(bV (s 0)), (bV (s 1)), (bV (s 2)), (bV (s 3)), (bV (s 4)), (bV (s 5)), (bV (s 6)), (bV (s 7)), (bV (s 8)), (bV (s 9)), (bV (s 10)), (bV (s 11)), (bV (s 12)), (bV (s 13)), (bV (s 14)), (bV (s 15)), nv], 30⟩] : List Bx)) w19 := hs20
  clear hs18 hid21
  replace hss := hs20.ss (I := I) (le15.trans le22) (SubL.sub (.cons (List.mem_append_right _ (.head _)) .nil))
  refine ⟨hss, ?_⟩
  refine dt 9 rfl (by kernel_rfl) (fun _ _ _ h => h) hss (fun _ h => r_extract rfl rfl rfl) rfl ?_
  refine nrmD (vals := [(0, .agg #[(bV (s 0)), (bV (s 1)), (bV (s 2)), (bV (s 3)), (bV (s 4)), (bV (s 5)), (bV (s 6)), (bV (s 7)), (bV (s 8)), (bV (s 9)), (bV (s 10)), (bV (s 11)), (bV (s 12)), (bV (s 13)), (bV (s 14)), (bV (s 15)), nv]), (1, kv), (2, (mV m)), (3, .pointer (some ⟨b5, 0, none⟩)), (6, .slice none 0 0), (7, .bool false), (16, .tuple #[xv16, .bool ((N.endGet (hashN s k) k (N.way (hashN s k) n 0).1).isSome)]), (17, xv16)]) (.cons rfl (.cons rfl (.cons rfl (.cons rfl (.cons rfl (.cons rfl (.cons rfl (.cons rfl .nil)))))))) fun g23 => ?_
  refine dt 10 rfl (by kernel_rfl) (fun _ _ _ h => h) hss (fun _ h => r_extract rfl rfl rfl) rfl ?_
  refine dt 11 rfl (by kernel_rfl) (fun _ _ _ h => h) hss (fun _ h => r_assign rfl) rfl ?_
  refine dt 12 rfl (by kernel_rfl) (fun _ _ _ h => h) hss (fun _ h => r_assign rfl) rfl ?_
  refine draw_done (by kernel_rfl) ?_
  refine hK9 _ _ ?_; (try clear hK9 K8)
  refine wp_ret ?_
  exact leave (X' := mX m (v + (N.way (hashN s k) n 0).2 + N.endV (hashN s k) k (N.way (hashN s k) n 0).1) (c + N.endC (hashN s k) k (N.way (hashN s k) n 0).1)) (L := [⟨b5, #[(bV (s 0)), (bV (s 1)), (bV (s 2)), (bV (s 3)), (bV (s 4)), (bV (s 5)), (bV (s 6)), (bV (s 7)), (bV (s 8)), (bV (s 9)), (bV (s 10)), (bV (s 11)), (bV (s 12)), (bV (s 13)), (bV (s 14)), (bV (s 15)), nv], 30⟩]) hs20 (mX_ids _ _ _ _ _) (res_many (vs := [xv16, .bool ((N.endGet (hashN s k) k (N.way (hashN s k) n 0).1).isSome)]) rfl (.tmp rfl rfl (.tmp rfl rfl .nil)) rfl) ⟨_, rfl, hx17, rfl⟩
set_option maxRecDepth 100000 in
theorem trie_getn_ok {I : GH} {s : Nat → UInt8} {n : N} {nv kv : Value} {k : Bs} (ht : TabG I) (hst : StartG I) (h1 : k.length ≤ 1000000) (hw : N.WF 0 0 n) (hsz : n.size ≤ 999000) (hn : NodeAt I nv n) (hk : BytesAt I kv k) : Fn Tryd.prog 38 #[.agg #[bV (s 0), bV (s 1), bV (s 2), bV (s 3), bV (s 4), bV (s 5), bV (s 6), bV (s 7), bV (s 8), bV (s 9), bV (s 10), bV (s 11), bV (s 12), bV (s 13), bV (s 14), bV (s 15), nv], kv, .pointer none] I [] (fun r J X => ∃ xv, r = .tuple #[xv, .bool (N.endGet (hashN s k) k (N.way (hashN s k) n 0).1).isSome] ∧ BytesAt J xv ((N.endGet (hashN s k) k (N.way (hashN s k) n 0).1).getD []) ∧ True) := by
  refine enter (args := [.agg #[(bV (s 0)), (bV (s 1)), (bV (s 2)), (bV (s 3)), (bV (s 4)), (bV (s 5)), (bV (s 6)), (bV (s 7)), (bV (s 8)), (bV (s 9)), (bV (s 10)), (bV (s 11)), (bV (s 12)), (bV (s 13)), (bV (s 14)), (bV (s 15)), nv], kv, .pointer none]) Tryd.func38 rfl rfl fun w0 hs0 => ?_
  refine wp_seq_k fun K1 hK2 => ?_
  refine wl_begin ?_
  refine sqo rfl fun K3 hK4 => ow_newbox (mk := fun b => .pointer (some ⟨b, 0, none⟩)) hs0 (r_box rfl rfl) rfl ?_
  rintro b5 w6 (hs7 : St w0 I (ids []) I [⟨b5, #[(bV (s 0)), (bV (s 1)), (bV (s 2)), (bV (s 3)), (bV (s 4)), (bV (s 5)), (bV (s 6)), (bV (s 7)), (bV (s 8)), (bV (s 9)), (bV (s 10)), (bV (s 11)), (bV (s 12)), (bV (s 13)), (bV (s 14)), (bV (s 15)), nv], 30⟩] w6)
  clear hs0
  refine hK4 _ _ ?_; clear hK4 K3
  refine sq (r_assign rfl) rfl ?_
  refine sq (r_assign rfl) rfl ?_
  refine wl_nil ?_
  refine hK2 _ _ ?_; (try clear hK2 K1)
  refine wp_seq_k fun K8 hK9 => ?_
  refine draw_begin (S := SS I [⟨b5, #[(bV (s 0)), (bV (s 1)), (bV (s 2)), (bV (s 3)), (bV (s 4)), (bV (s 5)), (bV (s 6)), (bV (s 7)), (bV (s 8)), (bV (s 9)), (bV (s 10)), (bV (s 11)), (bV (s 12)), (bV (s 13)), (bV (s 14)), (bV (s 15)), nv], 30⟩]) (by kernel_rfl) ?_
  have hs10 := hs7.drew; clear hs7
  have hss := hs10.ss (I := I) (GH.le.refl _) (fun _ h => h)
  refine dt 0 rfl (by kernel_rfl) (fun _ _ _ h => h) hss (fun _ h => (r_fieldAddr (off := 16) rfl (by kernel_rfl) rfl)) rfl ?_
  refine dt 1 rfl (by kernel_rfl) (fun _ _ _ h => h) hss (fun _ h => r_load rfl (by kernel_rfl) rfl (h.box (.head _)) rfl) rfl ?_
  refine dt 2 rfl (by kernel_rfl) (fun _ _ _ h => h) hss (fun _ h => (r_fieldAddr (off := 0) rfl (by kernel_rfl) rfl)) rfl ?_
  refine dt 3 rfl (by kernel_rfl) (fun _ _ _ h => h) hss (fun _ h => r_loadN (m := 16) (vs := [(bV (s 0)), (bV (s 1)), (bV (s 2)), (bV (s 3)), (bV (s 4)), (bV (s 5)), (bV (s 6)), (bV (s 7)), (bV (s 8)), (bV (s 9)), (bV (s 10)), (bV (s 11)), (bV (s 12)), (bV (s 13)), (bV (s 14)), (bV (s 15))]) rfl (by kernel_rfl) rfl (h.box (.head _)) (by kernel_rfl) rfl) rfl ?_
  refine dt 4 rfl (by kernel_rfl) (fun _ _ _ h => h) hss (fun _ h => r_move rfl) rfl ?_
  refine dt 6 rfl (by kernel_rfl) (fun _ _ _ h => h) hss (fun _ h => r_move rfl) rfl ?_
  refine dt 7 rfl (by kernel_rfl) (fun _ _ _ h => h) hss (fun _ h => r_move rfl) rfl ?_
  refine dro 5 (by kernel_rfl) rfl (ow_call (X := []) (L := [⟨b5, #[(bV (s 0)), (bV (s 1)), (bV (s 2)), (bV (s 3)), (bV (s 4)), (bV (s 5)), (bV (s 6)), (bV (s 7)), (bV (s 8)), (bV (s 9)), (bV (s 10)), (bV (s 11)), (bV (s 12)), (bV (s 13)), (bV (s 14)), (bV (s 15)), nv], 30⟩]) (lb := []) hs10 (hash_sip_ok hst hk (by omega)) (by kernel_rfl) rfl rfl rfl rfl rfl ?_)
  rintro _ G1 X1 w12 rfl le15 hs13 hid14
  obtain rfl : X1 = [] := List.map_eq_nil_iff.1 hid14
  replace hs13 : St w0 I (ids []) G1 [⟨b5, #[(bV (s 0)), (bV (s 1)), (bV (s 2)), (bV (s 3)), (bV (s 4)), (bV (s 5)), (bV (s 6)), (bV (s 7)), (bV (s 8)), (bV (s 9)), (bV (s 10)), (bV (s 11)), (bV (s 12)), (bV (s 13)), (bV (s 14)), (bV (s 15)), nv], 30⟩] w12 := hs13
  clear hs10 hid14
  replace hss := hs13.ss (I := I) le15 (fun _ h => h)
  refine ⟨hss, ?_⟩
  refine dro 8 (by kernel_rfl) rfl (ow_call (X := []) (L := [⟨b5, #[(bV (s 0)), (bV (s 1)), (bV (s 2)), (bV (s 3)), (bV (s 4)), (bV (s 5)), (bV (s 6)), (bV (s 7)), (bV (s 8)), (bV (s 9)), (bV (s 10)), (bV (s 11)), (bV (s 12)), (bV (s 13)), (bV (s 14)), (bV (s 15)), nv], 30⟩]) (lb := []) hs13 (find_get_ok (m := none) (v := 0) (c := 0) (h := (hashN s k)) (k := k) (e := (N.way (hashN s k) n 0).1) (d := (N.way (hashN s k) n 0).2) hw (hn.up le15) (hashN_lt _ _) (hk.up le15) rfl) (by kernel_rfl) rfl rfl rfl rfl rfl ?_)
  rintro _ G2 X1 w18 ⟨xv16, rfl, hx17, _⟩ le21 hs19 hid20
  obtain rfl : X1 = [] := List.map_eq_nil_iff.1 hid20
  replace hs19 : St w0 I (ids []) G2 [⟨b5, #[(bV (s 0)), (bV (s 1)), (bV (s 2)), (bV (s 3)), (bV (s 4)), (bV (s 5)), (bV (s 6)), (bV (s 7)), (bV (s 8)), (bV (s 9)), (bV (s 10)), (bV (s 11)), (bV (s 12)), (bV (s 13)), (bV (s 14)), (bV (s 15)), nv], 30⟩] w18 := hs19
  clear hs13 hid20
  replace hss := hs19.ss (I := I) (le15.trans le21) (fun _ h => h)
  refine ⟨hss, ?_⟩
  refine dt 9 rfl (by kernel_rfl) (fun _ _ _ h => h) hss (fun _ h => r_extract rfl rfl rfl) rfl ?_
  refine nrmD (vals := [(0, .agg #[(bV (s 0)), (bV (s 1)), (bV (s 2)), (bV (s 3)), (bV (s 4)), (bV (s 5)), (bV (s 6)), (bV (s 7)), (bV (s 8)), (bV (s 9)), (bV (s 10)), (bV (s 11)), (bV (s 12)), (bV (s 13)), (bV (s 14)), (bV (s 15)), nv]), (1, kv), (2, .pointer none), (3, .pointer (some ⟨b5, 0, none⟩)), (6, .slice none 0 0), (7, .bool false), (16, .tuple #[xv16, .bool ((N.endGet (hashN s k) k (N.way (hashN s k) n 0).1).isSome)]), (17, xv16)]) (.cons rfl (.cons rfl (.cons rfl (.cons rfl (.cons rfl (.cons rfl (.cons rfl (.cons rfl .nil)))))))) fun g22 => ?_
  refine dt 10 rfl (by kernel_rfl) (fun _ _ _ h => h) hss (fun _ h => r_extract rfl rfl rfl) rfl ?_
  refine dt 11 rfl (by kernel_rfl) (fun _ _ _ h => h) hss (fun _ h => r_assign rfl) rfl ?_
  refine dt 12 rfl (by kernel_rfl) (fun _ _ _ h => h) hss (fun _ h => r_assign rfl) rfl ?_
  refine draw_done (by kernel_rfl) ?_
  refine hK9 _ _ ?_; (try clear hK9 K8)
  refine wp_ret ?_
  exact leave (X' := []) (L := [⟨b5, #[(bV (s 0)), (bV (s 1)), (bV (s 2)), (bV (s 3)), (bV (s 4)), (bV (s 5)), (bV (s 6)), (bV (s 7)), (bV (s 8)), (bV (s 9)), (bV (s 10)), (bV (s 11)), (bV (s 12)), (bV (s 13)), (bV (s 14)), (bV (s 15)), nv], 30⟩]) hs19 rfl (res_many (vs := [xv16, .bool ((N.endGet (hashN s k) k (N.way (hashN s k) n 0).1).isSome)]) rfl (.tmp rfl rfl (.tmp rfl rfl .nil)) rfl) ⟨_, rfl, hx17, trivial⟩
set_option maxRecDepth 100000 in
theorem trie_delete_ok {I : GH} {m : Option Nat} {v c : Nat} {s : Nat → UInt8} {n : N} {nv kv : Value} {k : Bs} (ht : TabG I) (hst : StartG I) (h1 : k.length ≤ 1000000) (hw : N.WF 0 0 n) (hsz : n.size ≤ 999000) (hn : NodeAt I nv n) (hk : BytesAt I kv k) : Fn Tryd.prog 41 #[.agg #[bV (s 0), bV (s 1), bV (s 2), bV (s 3), bV (s 4), bV (s 5), bV (s 6), bV (s 7), bV (s 8), bV (s 9), bV (s 10), bV (s 11), bV (s 12), bV (s 13), bV (s 14), bV (s 15), nv], kv, mV m] I (mX m v c) (fun r J X => ∃ u, r = .tuple #[.agg #[bV (s 0), bV (s 1), bV (s 2), bV (s 3), bV (s 4), bV (s 5), bV (s 6), bV (s 7), bV (s 8), bV (s 9), bV (s 10), bV (s 11), bV (s 12), bV (s 13), bV (s 14), bV (s 15), u], .bool (N.rem (hashN s k) k n 0).isSome] ∧ NodeAt J u ((N.rem (hashN s k) k n 0).getD n) ∧ X = mX m (v + N.remV (hashN s k) k n 0) (c + N.remC (hashN s k) k n 0)) := by
  refine enter (args := [.agg #[(bV (s 0)), (bV (s 1)), (bV (s 2)), (bV (s 3)), (bV (s 4)), (bV (s 5)), (bV (s 6)), (bV (s 7)), (bV (s 8)), (bV (s 9)), (bV (s 10)), (bV (s 11)), (bV (s 12)), (bV (s 13)), (bV (s 14)), (bV (s 15)), nv], kv, (mV m)]) Tryd.func41 rfl rfl fun w0 hs0 => ?_
  replace hs0 : St w0 I (ids (mX m (v) (c))) I (mX m (v) (c) ++ []) w0 := by simpa using hs0
  refine wp_seq_k fun K1 hK2 => ?_
  refine wl_begin ?_
  refine sqo rfl fun K3 hK4 => ow_newbox (mk := fun b => .pointer (some ⟨b, 0, none⟩)) hs0 (r_box rfl rfl) rfl ?_
  rintro b5 w6 (hs7 : St w0 I (ids (mX m (v) (c))) I (⟨b5, #[(bV (s 0)), (bV (s 1)), (bV (s 2)), (bV (s 3)), (bV (s 4)), (bV (s 5)), (bV (s 6)), (bV (s 7)), (bV (s 8)), (bV (s 9)), (bV (s 10)), (bV (s 11)), (bV (s 12)), (bV (s 13)), (bV (s 14)), (bV (s 15)), nv], 30⟩ :: (mX m (v) (c) ++ [])) w6)
  clear hs0
  refine hK4 _ _ ?_; clear hK4 K3
  refine sqo rfl fun K8 hK9 => ow_newbox (mk := fun b => .pointer (some ⟨b, 0, none⟩)) hs7 (r_alloc (cs := [.int .u8 0, .int .u8 0, .int .u8 0, .int .u8 0, .int .u8 0, .int .u8 0, .int .u8 0, .int .u8 0, .int .u8 0, .int .u8 0, .int .u8 0, .int .u8 0, .int .u8 0, .int .u8 0, .int .u8 0, .int .u8 0, .nilIface]) (by kernel_rfl)) rfl ?_
  rintro b10 w11 (hs12 : St w0 I (ids (mX m (v) (c))) I (⟨b10, #[.int .u8 0, .int .u8 0, .int .u8 0, .int .u8 0, .int .u8 0, .int .u8 0, .int .u8 0, .int .u8 0, .int .u8 0, .int .u8 0, .int .u8 0, .int .u8 0, .int .u8 0, .int .u8 0, .int .u8 0, .int .u8 0, .nilIface], 30⟩ :: (⟨b5, #[(bV (s 0)), (bV (s 1)), (bV (s 2)), (bV (s 3)), (bV (s 4)), (bV (s 5)), (bV (s 6)), (bV (s 7)), (bV (s 8)), (bV (s 9)), (bV (s 10)), (bV (s 11)), (bV (s 12)), (bV (s 13)), (bV (s 14)), (bV (s 15)), nv], 30⟩ :: (mX m (v) (c) ++ []))) w11)
  clear hs7
  refine hK9 _ _ ?_; clear hK9 K8
  refine sq (r_assign rfl) rfl ?_
  refine wl_nil ?_
  refine hK2 _ _ ?_; (try clear hK2 K1)
  refine wp_seq_k fun K13 hK14 => ?_
  refine draw_begin (S := SS I [⟨b10, #[.int .u8 0, .int .u8 0, .int .u8 0, .int .u8 0, .int .u8 0, .int .u8 0, .int .u8 0, .int .u8 0, .int .u8 0, .int .u8 0, .int .u8 0, .int .u8 0, .int .u8 0, .int .u8 0, .int .u8 0, .int .u8 0, .nilIface], 30⟩, ⟨b5, #[(bV (s 0)), (bV (s 1)), (bV (s 2)), (bV (s 3)), (bV (s 4)), (bV (s 5)), (bV (s 6)), (bV (s 7)), (bV (s 8)), (bV (s 9)), (bV (s 10)), (bV (s 11)), (bV (s 12)), (bV (s 13)), (bV (s 14)), (bV (s 15)), nv], 30⟩]) (by kernel_rfl) ?_
  have hs15 := hs12.drew; clear hs12
  have hss := hs15.ss (I := I) (GH.le.refl _) (SubL.sub (.cons (.head _) (.cons (.tail _ (.head _)) .nil)))
  refine dt 0 rfl (by kernel_rfl) (fun _ _ _ h => h) hss (fun _ h => (r_fieldAddr (off := 16) rfl (by kernel_rfl) rfl)) rfl ?_
  refine dt 1 rfl (by kernel_rfl) (fun _ _ _ h => h) hss (fun _ h => r_load rfl (by kernel_rfl) rfl (h.box (.tail _ (.head _))) rfl) rfl ?_
  refine dt 2 rfl (by kernel_rfl) (fun _ _ _ h => h) hss (fun _ h => (r_fieldAddr (off := 0) rfl (by kernel_rfl) rfl)) rfl ?_
  refine dt 3 rfl (by kernel_rfl) (fun _ _ _ h => h) hss (fun _ h => r_loadN (m := 16) (vs := [(bV (s 0)), (bV (s 1)), (bV (s 2)), (bV (s 3)), (bV (s 4)), (bV (s 5)), (bV (s 6)), (bV (s 7)), (bV (s 8)), (bV (s 9)), (bV (s 10)), (bV (s 11)), (bV (s 12)), (bV (s 13)), (bV (s 14)), (bV (s 15))]) rfl (by kernel_rfl) rfl (h.box (.tail _ (.head _))) (by kernel_rfl) rfl) rfl ?_
  refine dt 4 rfl (by kernel_rfl) (fun _ _ _ h => h) hss (fun _ h => r_move rfl) rfl ?_
  refine dt 6 rfl (by kernel_rfl) (fun _ _ _ h => h) hss (fun _ h => r_move rfl) rfl ?_
  refine dt 7 rfl (by kernel_rfl) (fun _ _ _ h => h) hss (fun _ h => r_move rfl) rfl ?_
  refine dro 5 (by kernel_rfl) rfl (ow_call (X := []) (L := (⟨b10, #[.int .u8 0, .int .u8 0, .int .u8 0, .int .u8 0, .int .u8 0, .int .u8 0, .int .u8 0, .int .u8 0, .int .u8 0, .int .u8 0, .int .u8 0, .int .u8 0, .int .u8 0, .int .u8 0, .int .u8 0, .int .u8 0, .nilIface], 30⟩ :: (⟨b5, #[(bV (s 0)), (bV (s 1)), (bV (s 2)), (bV (s 3)), (bV (s 4)), (bV (s 5)), (bV (s 6)), (bV (s 7)), (bV (s 8)), (bV (s 9)), (bV (s 10)), (bV (s 11)), (bV (s 12)), (bV (s 13)), (bV (s 14)), (bV (s 15)), nv], 30⟩ :: (mX m (v) (c) ++ [])))) (lb := []) hs15 (hash_sip_ok hst hk (by omega)) (by kernel_rfl) rfl rfl rfl rfl rfl ?_)
  rintro _ G1 X1 w17 rfl le20 hs18 hid19
  obtain rfl : X1 = [] := List.map_eq_nil_iff.1 hid19
  replace hs18 : St w0 I (ids (mX m (v) (c))) G1 (⟨b10, #[.int .u8 0, .int .u8 0, .int .u8 0, .int .u8 0, .int .u8 0, .int .u8 0, .int .u8 0, .int .u8 0, .int .u8 0, .int .u8 0, .int .u8 0, .int .u8 0, .int .u8 0, .int .u8 0, .int .u8 0, .int .u8 0, .nilIface], 30⟩ :: (⟨b5, #[(bV (s 0)), (bV (s 1)), (bV (s 2)), (bV (s 3)), (bV (s 4)), (bV (s 5)), (bV (s 6)), (bV (s 7)), (bV (s 8)), (bV (s 9)), (bV (s 10)), (bV (s 11)), (bV (s 12)), (bV (s 13)), (bV (s 14)), (bV (s 15)), nv], 30⟩ :: (mX m (v) (c) ++ []))) w17 := hs18
  clear hs15 hid19
  replace hss := hs18.ss (I := I) le20 (SubL.sub (.cons (.head _) (.cons (.tail _ (.head _)) .nil)))
  refine ⟨hss, ?_⟩
  have hs23 : St w0 I (ids (mX m (v) (c))) G1 (mX m (v) (c) ++ ([⟨b10, #[.int .u8 0, .int .u8 0, .int .u8 0, .int .u8 0, .int .u8 0, .int .u8 0, .int .u8 0, .int .u8 0, .int .u8 0, .int .u8 0, .int .u8 0, .int .u8 0, .int .u8 0, .int .u8 0, .int .u8 0, .int .u8 0, .nilIface], 30⟩, ⟨b5, #[(bV (s 0)), (bV (s 1)), (bV (s 2)), (bV (s 3)), (bV (s 4)), (bV (s 5)), (bV (s 6)), (bV (s 7)), (bV (s 8)), (bV (s 9)), (bV (s 10)), (bV (s 11)), (bV (s 12)), (bV (s 13)), (bV (s 14)), (bV (s 15)), nv], 30⟩] : List Bx)) w17 := hs18.perm (List.Perm.trans ((List.Perm.trans ((List.Perm.refl _).cons _) (List.perm_middle (l₁ := (mX m (v) (c) : List Bx)) (a := (⟨b5, #[(bV (s 0)), (bV (s 1)), (bV (s 2)), (bV (s 3)), (bV (s 4)), (bV (s 5)), (bV (s 6)), (bV (s 7)), (bV (s 8)), (bV (s 9)), (bV (s 10)), (bV (s 11)), (bV (s 12)), (bV (s 13)), (bV (s 14)), (bV (s 15)), nv], 30⟩ : Bx)) (l₂ := [])).symm).cons _) (List.perm_middle (l₁ := (mX m (v) (c) : List Bx)) (a := (⟨b10, #[.int .u8 0, .int .u8 0, .int .u8 0, .int .u8 0, .int .u8 0, .int .u8 0, .int .u8 0, .int .u8 0, .int .u8 0, .int .u8 0, .int .u8 0, .int .u8 0, .int .u8 0, .int .u8 0, .int .u8 0, .int .u8 0, .nilIface], 30⟩ : Bx)) (l₂ := [⟨b5, #[(bV (s 0)), (bV (s 1)), (bV (s 2)), (bV (s 3)), (bV (s 4)), (bV (s 5)), (bV (s 6)), (bV (s 7)), (bV (s 8)), (bV (s 9)), (bV (s 10)), (bV (s 11)), (bV (s 12)), (bV (s 13)), (bV (s 14)), (bV (s 15)), nv], 30⟩])).symm); clear hs18
  refine dro 8 (by kernel_rfl) rfl (ow_call (X := mX m (v) (c)) (L := [⟨b10, #[.int .u8 0, .int .u8 0, .int .u8 0, .int .u8 0, .int .u8 0, .int .u8 0, .int .u8 0, .int .u8 0, .int .u8 0, .int .u8 0, .int .u8 0, .int .u8 0, .int .u8 0, .int .u8 0, .int .u8 0, .int .u8 0, .nilIface], 30⟩, ⟨b5, #[(bV (s 0)), (bV (s 1)), (bV (s 2)), (bV (s 3)), (bV (s 4)), (bV (s 5)), (bV (s 6)), (bV (s 7)), (bV (s 8)), (bV (s 9)), (bV (s 10)), (bV (s 11)), (bV (s 12)), (bV (s 13)), (bV (s 14)), (bV (s 15)), nv], 30⟩]) (lb := []) hs23 (prune_delete_ok (h := (hashN s k)) (ht.up le20) (hashN_lt _ _) h1 hw hsz (hn.up le20) (hk.up le20)) (by kernel_rfl) rfl rfl rfl rfl rfl ?_)
  rintro _ G2 X1 w24 ⟨u21, rfl, hn22, rfl⟩ le27 hs25 hid26
  replace hs25 : St w0 I (ids (mX m (v) (c))) G2 (mX m (v + N.remV (hashN s k) k n 0) (c + N.remC (hashN s k) k n 0) ++ ([⟨b10, #[.int .u8 0, .int .u8 0, .int .u8 0, .int .u8 0, .int .u8 0, .int .u8 0, .int .u8 0, .int .u8 0, .int .u8 0, .int .u8 0, .int .u8 0, .int .u8 0, .int .u8 0, .int .u8 0, .int .u8 0, .int .u8 0, .nilIface], 30⟩, ⟨b5, #[(bV (s 0)), (bV (s 1)), (bV (s 2)), (bV (s 3)), (bV (s 4)), (bV (s 5)), (bV (s 6)), (bV (s 7)), (bV (s 8)), (bV (s 9)), (bV (s 10)), (bV (s 11)), (bV (s 12)), (bV (s 13)), (bV (s 14)), (bV (s 15)), nv], 30⟩] : List Bx)) w24 := hs25
  clear hs23 hid26
  replace hss := hs25.ss (I := I) (le20.trans le27) (SubL.sub (.cons (List.mem_append_right _ (.head _)) (.cons (List.mem_append_right _ (.tail _ (.head _))) .nil)))
  refine ⟨hss, ?_⟩
  refine dt 9 rfl (by kernel_rfl) (fun _ _ _ h => h) hss (fun _ h => r_move rfl) rfl ?_
  refine nrmD (vals := [(0, .agg #[(bV (s 0)), (bV (s 1)), (bV (s 2)), (bV (s 3)), (bV (s 4)), (bV (s 5)), (bV (s 6)), (bV (s 7)), (bV (s 8)), (bV (s 9)), (bV (s 10)), (bV (s 11)), (bV (s 12)), (bV (s 13)), (bV (s 14)), (bV (s 15)), nv]), (1, kv), (2, (mV m)), (3, .pointer (some ⟨b5, 0, none⟩)), (6, .pointer (some ⟨b10, 0, none⟩)), (7, .bool false), (10, .tuple #[u21, .bool ((N.rem (hashN s k) k n 0).isSome)])]) (.cons rfl (.cons rfl (.cons rfl (.cons rfl (.cons rfl (.cons rfl (.cons rfl .nil))))))) fun g28 => ?_
  refine dt 10 rfl (by kernel_rfl) (fun _ _ _ h => h) hss (fun _ h => r_extract rfl rfl rfl) rfl ?_
  refine dt 11 rfl (by kernel_rfl) (fun _ _ _ h => h) hss (fun _ h => r_extract rfl rfl rfl) rfl ?_
  refine dt 12 rfl (by kernel_rfl) (fun _ _ _ h => h) hss (fun _ h => r_assign rfl) rfl ?_
  refine dt 13 rfl (by kernel_rfl) (fun _ _ _ h => h) hss (fun _ h => r_assign rfl) rfl ?_
  refine draw_done (by kernel_rfl) ?_
  refine hK14 _ _ ?_; (try clear hK14 K13)
  refine wp_seq_k fun K29 hK30 => ?_
  refine wl_begin ?_
  refine sq (r_fieldAddr (off := 0) rfl (by kernel_rfl) rfl) rfl ?_
  refine sq (r_loadN (m := 16) (vs := [(bV (s 0)), (bV (s 1)), (bV (s 2)), (bV (s 3)), (bV (s 4)), (bV (s 5)), (bV (s 6)), (bV (s 7)), (bV (s 8)), (bV (s 9)), (bV (s 10)), (bV (s 11)), (bV (s 12)), (bV (s 13)), (bV (s 14)), (bV (s 15))]) rfl (by kernel_rfl) rfl (hs25.box (List.mem_append_right _ (.tail _ (.head _)))) (by kernel_rfl) rfl) rfl ?_
  refine sq (r_move rfl) rfl ?_
  refine sq (r_build (.cons rfl rfl (.cons rfl (One.cells hn22.one) .nil)) (cells := #[(bV (s 0)), (bV (s 1)), (bV (s 2)), (bV (s 3)), (bV (s 4)), (bV (s 5)), (bV (s 6)), (bV (s 7)), (bV (s 8)), (bV (s 9)), (bV (s 10)), (bV (s 11)), (bV (s 12)), (bV (s 13)), (bV (s 14)), (bV (s 15)), u21]) (by kernel_rfl)) rfl ?_
  refine sq (r_move rfl) rfl ?_
  have hs33 : St w0 I (ids (mX m (v) (c))) G2 (⟨b10, #[.int .u8 0, .int .u8 0, .int .u8 0, .int .u8 0, .int .u8 0, .int .u8 0, .int .u8 0, .int .u8 0, .int .u8 0, .int .u8 0, .int .u8 0, .int .u8 0, .int .u8 0, .int .u8 0, .int .u8 0, .int .u8 0, .nilIface], 30⟩ :: (mX m (v + N.remV (hashN s k) k n 0) (c + N.remC (hashN s k) k n 0) ++ ([⟨b5, #[(bV (s 0)), (bV (s 1)), (bV (s 2)), (bV (s 3)), (bV (s 4)), (bV (s 5)), (bV (s 6)), (bV (s 7)), (bV (s 8)), (bV (s 9)), (bV (s 10)), (bV (s 11)), (bV (s 12)), (bV (s 13)), (bV (s 14)), (bV (s 15)), nv], 30⟩] : List Bx))) w24 := hs25.perm (List.Perm.trans ((List.Perm.refl _).append_left _) (List.perm_middle (l₁ := (mX m (v + N.remV (hashN s k) k n 0) (c + N.remC (hashN s k) k n 0) : List Bx)) (a := (⟨b10, #[.int .u8 0, .int .u8 0, .int .u8 0, .int .u8 0, .int .u8 0, .int .u8 0, .int .u8 0, .int .u8 0, .int .u8 0, .int .u8 0, .int .u8 0, .int .u8 0, .int .u8 0, .int .u8 0, .int .u8 0, .int .u8 0, .nilIface], 30⟩ : Bx)) (l₂ := [⟨b5, #[(bV (s 0)), (bV (s 1)), (bV (s 2)), (bV (s 3)), (bV (s 4)), (bV (s 5)), (bV (s 6)), (bV (s 7)), (bV (s 8)), (bV (s 9)), (bV (s 10)), (bV (s 11)), (bV (s 12)), (bV (s 13)), (bV (s 14)), (bV (s 15)), nv], 30⟩]))); clear hs25
  refine sqo rfl fun K31 hK32 => ow_storeK (vs := [(bV (s 0)), (bV (s 1)), (bV (s 2)), (bV (s 3)), (bV (s 4)), (bV (s 5)), (bV (s 6)), (bV (s 7)), (bV (s 8)), (bV (s 9)), (bV (s 10)), (bV (s 11)), (bV (s 12)), (bV (s 13)), (bV (s 14)), (bV (s 15)), u21]) (cs' := #[(bV (s 0)), (bV (s 1)), (bV (s 2)), (bV (s 3)), (bV (s 4)), (bV (s 5)), (bV (s 6)), (bV (s 7)), (bV (s 8)), (bV (s 9)), (bV (s 10)), (bV (s 11)), (bV (s 12)), (bV (s 13)), (bV (s 14)), (bV (s 15)), u21]) hs33 rfl rfl (by kernel_rfl) rfl rfl (.cons trivial (.cons trivial (.cons trivial (.cons trivial (.cons trivial (.cons trivial (.cons trivial (.cons trivial (.cons trivial (.cons trivial (.cons trivial (.cons trivial (.cons trivial (.cons trivial (.cons trivial (.cons trivial (.cons hn22.one .nil))))))))))))))))) (by kernel_rfl) (by kernel_rfl) ?_
  rintro w34 (hs35 : St w0 I (ids (mX m (v) (c))) G2 (⟨b10, #[(bV (s 0)), (bV (s 1)), (bV (s 2)), (bV (s 3)), (bV (s 4)), (bV (s 5)), (bV (s 6)), (bV (s 7)), (bV (s 8)), (bV (s 9)), (bV (s 10)), (bV (s 11)), (bV (s 12)), (bV (s 13)), (bV (s 14)), (bV (s 15)), u21], 30⟩ :: (mX m (v + N.remV (hashN s k) k n 0) (c + N.remC (hashN s k) k n 0) ++ ([⟨b5, #[(bV (s 0)), (bV (s 1)), (bV (s 2)), (bV (s 3)), (bV (s 4)), (bV (s 5)), (bV (s 6)), (bV (s 7)), (bV (s 8)), (bV (s 9)), (bV (s 10)), (bV (s 11)), (bV (s 12)), (bV (s 13)), (bV (s 14)), (bV (s 15)), nv], 30⟩] : List Bx))) w34)
  clear hs33
  refine hK32 _ _ ?_; clear hK32 K31
  refine sq (r_assign rfl) rfl ?_
  refine wl_nil ?_
  refine hK30 _ _ ?_; (try clear hK30 K29)
  refine wp_ret ?_
  have hs36 : St w0 I (ids (mX m (v) (c))) G2 (mX m (v + N.remV (hashN s k) k n 0) (c + N.remC (hashN s k) k n 0) ++ ([⟨b10, #[(bV (s 0)), (bV (s 1)), (bV (s 2)), (bV (s 3)), (bV (s 4)), (bV (s 5)), (bV (s 6)), (bV (s 7)), (bV (s 8)), (bV (s 9)), (bV (s 10)), (bV (s 11)), (bV (s 12)), (bV (s 13)), (bV (s 14)), (bV (s 15)), u21], 30⟩, ⟨b5, #[(bV (s 0)), (bV (s 1)), (bV (s 2)), (bV (s 3)), (bV (s 4)), (bV (s 5)), (bV (s 6)), (bV (s 7)), (bV (s 8)), (bV (s 9)), (bV (s 10)), (bV (s 11)), (bV (s 12)), (bV (s 13)), (bV (s 14)), (bV (s 15)), nv], 30⟩] : List Bx)) w34 := hs35.perm (List.Perm.trans ((List.Perm.refl _).cons _) (List.perm_middle (l₁ := (mX m (v + N.remV (hashN s k) k n 0) (c + N.remC (hashN s k) k n 0) : List Bx)) (a := (⟨b10, #[(bV (s 0)), (bV (s 1)), (bV (s 2)), (bV (s 3)), (bV (s 4)), (bV (s 5)), (bV (s 6)), (bV (s 7)), (bV (s 8)), (bV (s 9)), (bV (s 10)), (bV (s 11)), (bV (s 12)), (bV (s 13)), (bV (s 14)), (bV (s 15)), u21], 30⟩ : Bx)) (l₂ := [⟨b5, #[(bV (s 0)), (bV (s 1)), (bV (s 2)), (bV (s 3)), (bV (s 4)), (bV (s 5)), (bV (s 6)), (bV (s 7)), (bV (s 8)), (bV (s 9)), (bV (s 10)), (bV (s 11)), (bV (s 12)), (bV (s 13)), (bV (s 14)), (bV (s 15)), nv], 30⟩])).symm); clear hs35
  exact leave (X' := mX m (v + N.remV (hashN s k) k n 0) (c + N.remC (hashN s k) k n 0)) (L := [⟨b10, #[(bV (s 0)), (bV (s 1)), (bV (s 2)), (bV (s 3)), (bV (s 4)), (bV (s 5)), (bV (s 6)), (bV (s 7)), (bV (s 8)), (bV (s 9)), (bV (s 10)), (bV (s 11)), (bV (s 12)), (bV (s 13)), (bV (s 14)), (bV (s 15)), u21], 30⟩, ⟨b5, #[(bV (s 0)), (bV (s 1)), (bV (s 2)), (bV (s 3)), (bV (s 4)), (bV (s 5)), (bV (s 6)), (bV (s 7)), (bV (s 8)), (bV (s 9)), (bV (s 10)), (bV (s 11)), (bV (s 12)), (bV (s 13)), (bV (s 14)), (bV (s 15)), nv], 30⟩]) hs36 (mX_ids _ _ _ _ _) (res_many (vs := [.agg #[(bV (s 0)), (bV (s 1)), (bV (s 2)), (bV (s 3)), (bV (s 4)), (bV (s 5)), (bV (s 6)), (bV (s 7)), (bV (s 8)), (bV (s 9)), (bV (s 10)), (bV (s 11)), (bV (s 12)), (bV (s 13)), (bV (s 14)), (bV (s 15)), u21], .bool ((N.rem (hashN s k) k n 0).isSome)]) rfl (.agg (m := 17) (us := [(bV (s 0)), (bV (s 1)), (bV (s 2)), (bV (s 3)), (bV (s 4)), (bV (s 5)), (bV (s 6)), (bV (s 7)), (bV (s 8)), (bV (s 9)), (bV (s 10)), (bV (s 11)), (bV (s 12)), (bV (s 13)), (bV (s 14)), (bV (s 15)), u21]) rfl rfl (by kernel_rfl) (hs36.box (List.mem_append_right _ (.head _))) (by kernel_rfl) rfl (.tmp rfl rfl .nil)) rfl) ⟨_, rfl, hn22, rfl⟩
end Go.Proofs.YtlnlodfnplkckaaDoor
