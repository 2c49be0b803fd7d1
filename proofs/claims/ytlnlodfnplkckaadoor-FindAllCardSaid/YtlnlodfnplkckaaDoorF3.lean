/- Texts of the walk, laid together. Each theorem's conditions stand in it. -/
import Derived.Test.YtlnlodfnplkckaaDoorF2
import Derived.Lib.TrailingZeros
import Derived.RangeFuncNested
import Derived.RangeFuncLeaves
import Derived.OrdersIn
import Derived.TacticsIn
import Derived.OwnWalkIn
import Derived.RangeFuncCalls
import Derived.LoopNIn
/- The contracts of math/bits.OnesCount32, Map.Count. -/
namespace Go.Proofs.YtlnlodfnplkckaaDoor
set_option linter.unusedVariables false
set_option linter.unusedSimpArgs false
theorem and255 (x : Nat) : x &&& 255 < 256 := Nat.lt_succ_of_le Nat.and_le_right
set_option maxRecDepth 100000 in
theorem ones32_ok {I : GH} {m : Nat} (hm : m < 2 ^ 32) : Fn Tryd.prog 52 #[.int .u32 ((m : Nat) : Int)] I [] (fun v J _ => v = .int .i64 (((bitsL m).length : Nat) : Int) ∧ I = J) := by
  refine enter (args := [.int .u32 ((m : Nat) : Int)]) Tryd.func52 rfl rfl fun w0 hs0 => ?_
  refine wp_seq_k fun K1 hK2 => ?_
  refine wl_begin ?_
  refine sq (r_assign rfl) rfl ?_
  refine wl_nil ?_
  refine hK2 _ _ ?_; (try clear hK2 K1)
  refine wp_seq_k fun K3 hK4 => ?_
  refine draw_begin (S := SS I []) (by kernel_rfl) ?_
  have hs5 := hs0.drew; clear hs0
  have hss := hs5.ss (I := I) (GH.le.refl _) (fun _ h => h)
  refine dt 0 rfl (by kernel_rfl) (fun _ _ _ h => h) hss (fun _ h => r_move rfl) rfl ?_
  refine dt 1 rfl (by kernel_rfl) (fun _ _ _ h => h) hss (fun _ h => (r_shrN (a := m) (b := 24) (m := 32) (by kernel_rfl) rfl rfl rfl rfl (by omega))) rfl ?_
  refine dt 2 rfl (by kernel_rfl) (fun _ _ _ h => h) hss (fun _ h => (r_pop8 (a := (m / 2 ^ 24)) rfl rfl (by kernel_rfl) (by kernel_rfl) rfl (by omega))) rfl ?_
  refine dt 3 rfl (by kernel_rfl) (fun _ _ _ h => h) hss (fun _ h => r_move rfl) rfl ?_
  refine dt 4 rfl (by kernel_rfl) (fun _ _ _ h => h) hss (fun _ h => (r_shrN (a := m) (b := 16) (m := 32) (by kernel_rfl) rfl rfl rfl rfl (by omega))) rfl ?_
  refine dt 5 rfl (by kernel_rfl) (fun _ _ _ h => h) hss (fun _ h => (r_andN (a := (m / 2 ^ 16)) (b := 255) (m := 32) (by kernel_rfl) rfl rfl rfl rfl (Nat.lt_of_le_of_lt (Nat.div_le_self _ _) hm) (by decide))) rfl ?_
  refine dt 6 rfl (by kernel_rfl) (fun _ _ _ h => h) hss (fun _ h => (r_pop8 (a := ((m / 2 ^ 16) &&& 255)) rfl rfl (by kernel_rfl) (by kernel_rfl) rfl (and255 _))) rfl ?_
  refine dt 7 rfl (by kernel_rfl) (fun _ _ _ h => h) hss (fun _ h => (r_addN (a := popB (m / 2 ^ 24)) (b := popB ((m / 2 ^ 16) &&& 255)) (m := 8) (by kernel_rfl) rfl rfl rfl rfl)) rfl ?_
  refine dt 8 rfl (by kernel_rfl) (fun _ _ _ h => h) hss (fun _ h => r_move rfl) rfl ?_
  refine dt 9 rfl (by kernel_rfl) (fun _ _ _ h => h) hss (fun _ h => (r_shrN (a := m) (b := 8) (m := 32) (by kernel_rfl) rfl rfl rfl rfl (by omega))) rfl ?_
  refine dt 10 rfl (by kernel_rfl) (fun _ _ _ h => h) hss (fun _ h => (r_andN (a := (m / 2 ^ 8)) (b := 255) (m := 32) (by kernel_rfl) rfl rfl rfl rfl (Nat.lt_of_le_of_lt (Nat.div_le_self _ _) hm) (by decide))) rfl ?_
  refine dt 11 rfl (by kernel_rfl) (fun _ _ _ h => h) hss (fun _ h => (r_pop8 (a := ((m / 2 ^ 8) &&& 255)) rfl rfl (by kernel_rfl) (by kernel_rfl) rfl (and255 _))) rfl ?_
  refine nrmD (vals := [(0, .int .u32 ((m : Nat) : Int)), (2, .int .i64 0), (10, .int .u8 ((((popB (m / 2 ^ 24) + popB ((m / 2 ^ 16) &&& 255)) % 2 ^ 8) : Nat) : Int)), (14, .int .u8 ((popB ((m / 2 ^ 8) &&& 255) : Nat) : Int))]) (.cons rfl (.cons rfl (.cons rfl (.cons rfl .nil)))) fun g6 => ?_
  refine dt 12 rfl (by kernel_rfl) (fun _ _ _ h => h) hss (fun _ h => (r_addN (a := ((popB (m / 2 ^ 24) + popB ((m / 2 ^ 16) &&& 255)) % 2 ^ 8)) (b := popB ((m / 2 ^ 8) &&& 255)) (m := 8) (by kernel_rfl) rfl rfl rfl rfl)) rfl ?_
  refine dt 13 rfl (by kernel_rfl) (fun _ _ _ h => h) hss (fun _ h => r_move rfl) rfl ?_
  refine dt 14 rfl (by kernel_rfl) (fun _ _ _ h => h) hss (fun _ h => (r_andN (a := m) (b := 255) (m := 32) (by kernel_rfl) rfl rfl rfl rfl hm (by decide))) rfl ?_
  refine dt 15 rfl (by kernel_rfl) (fun _ _ _ h => h) hss (fun _ h => (r_pop8 (a := (m &&& 255)) rfl rfl (by kernel_rfl) (by kernel_rfl) rfl (and255 _))) rfl ?_
  refine dt 16 rfl (by kernel_rfl) (fun _ _ _ h => h) hss (fun _ h => (r_addN (a := ((((popB (m / 2 ^ 24) + popB ((m / 2 ^ 16) &&& 255)) % 2 ^ 8) + popB ((m / 2 ^ 8) &&& 255)) % 2 ^ 8)) (b := popB (m &&& 255)) (m := 8) (by kernel_rfl) rfl rfl rfl rfl)) rfl ?_
  refine dt 17 rfl (by kernel_rfl) (fun _ _ _ h => h) hss (fun _ h => (r_convI (a := ((((((popB (m / 2 ^ 24) + popB ((m / 2 ^ 16) &&& 255)) % 2 ^ 8) + popB ((m / 2 ^ 8) &&& 255)) % 2 ^ 8) + popB (m &&& 255)) % 2 ^ 8)) (r_convInt rfl (by kernel_rfl) (by kernel_rfl) rfl) (Nat.lt_trans (Nat.mod_lt _ (by decide)) (by decide)))) rfl ?_
  refine dt 18 rfl (by kernel_rfl) (fun _ _ _ h => h) hss (fun _ h => r_assign rfl) rfl ?_
  refine draw_done (by kernel_rfl) ?_
  refine hK4 _ _ ?_; (try clear hK4 K3)
  refine wp_ret ?_
  exact leave (X' := []) (L := []) hs5 rfl (res_one (v := .int .i64 ((((((((popB (m / 2 ^ 24) + popB ((m / 2 ^ 16) &&& 255)) % 2 ^ 8) + popB ((m / 2 ^ 8) &&& 255)) % 2 ^ 8) + popB (m &&& 255)) % 2 ^ 8) : Nat) : Int)) rfl (.tmp rfl rfl .nil)) ⟨by
        have a1 := popB_le ⟨m / 2 ^ 24, by omega⟩
        have a2 := popB_le ⟨m / 2 ^ 16 &&& 255, and255 _⟩
        have a3 := popB_le ⟨m / 2 ^ 8 &&& 255, and255 _⟩
        have a4 := popB_le ⟨m &&& 255, and255 _⟩
        simp only at a1 a2 a3 a4
        rw [← popN_eq hm]
        unfold popN
        congr 2
        omega, rfl⟩
set_option maxRecDepth 100000 in
theorem count_ok {I : GH} {m : Nat} (hm : m < 2 ^ 32) : Fn Tryd.prog 24 #[.int .u32 ((m : Nat) : Int)] I [] (fun v J _ => v = .int .i64 (((bitsL m).length : Nat) : Int) ∧ I = J) := by
  refine enter (args := [.int .u32 ((m : Nat) : Int)]) Tryd.func24 rfl rfl fun w0 hs0 => ?_
  refine wp_seq_k fun K1 hK2 => ?_
  refine wl_begin ?_
  refine sq (r_assign rfl) rfl ?_
  refine wl_nil ?_
  refine hK2 _ _ ?_; (try clear hK2 K1)
  refine wp_seq_k fun K3 hK4 => ?_
  refine wl_begin ?_
  refine sq (r_move rfl) rfl ?_
  refine sqo rfl fun K5 hK6 => ow_call (X := []) (L := []) (lb := []) hs0 (ones32_ok hm) (by kernel_rfl) rfl rfl rfl rfl rfl ?_
  rintro _ _ X1 w7 ⟨rfl, rfl⟩ - hs8 hid9
  obtain rfl : X1 = [] := List.map_eq_nil_iff.1 hid9
  replace hs8 : St w0 I (ids []) I [] w7 := hs8
  clear hs0 hid9
  refine hK6 _ _ ?_; clear hK6 K5
  refine sq (r_assign rfl) rfl ?_
  refine wl_nil ?_
  refine hK4 _ _ ?_; (try clear hK4 K3)
  refine wp_ret ?_
  exact leave (X' := []) (L := []) hs8 rfl (res_one (v := .int .i64 (((bitsL m).length : Nat) : Int)) rfl (.tmp rfl rfl .nil)) ⟨rfl, rfl⟩
end Go.Proofs.YtlnlodfnplkckaaDoor
/- The engine: the table of math/bits.TrailingZeros32, and the least number of a set. Each theorem's conditions stand in it. -/
namespace Go.Proofs.YtlnlodfnplkckaaDoor
/-- The table of math/bits lies where it is laid. -/
def TabG (I : GH) : Prop := ∃ cs T fz, I 1 = some (.cells cs T fz) ∧ ∀ j, j < 32 → cs[j]? = some (.int .u8 ((Go.Lib.deBruijn32tab.getD j 0 : Nat) : Int))
theorem TabG.up {I J : GH} (h : TabG I) (hle : I.le J) : TabG J := by
  obtain ⟨cs, T, fz, h1, h2⟩ := h; exact ⟨cs, T, fz, hle _ _ h1, h2⟩
section
variable {P : Program} {f : Nat → Value} {n : Fr} {w : World} {d : Option Tmp} {t ty : TypeId} {pos : String} {af : Array Edge} {g : Option (Nat × Bool)} {x y : Operand} {k : IntKind} {a : Nat}
theorem r_indexArrK {e sz len b0 o i : Nat} (hx : okO n x = true) (hy : okO n y = true) (ht : arrT P t len e sz = true) (h : ev f x = .pointer (some ⟨b0, o, none⟩)) (hi : ev f y = .int k (i : Int)) (hlt : i < len) :
    (execOp (FA f n).eval ⟨d, .indexAddr t x y, ty, pos, af, g⟩).run P w = .ok (.value (.pointer (some ⟨b0, o + i * sz, none⟩))) w := by
  unfold arrT at ht
  cases hu : P.underlying t with
  | none => simp [hu] at ht
  | some dd =>
    cases dd <;> simp [hu] at ht
    rename_i len' e'
    obtain ⟨⟨h0, h1⟩, h2⟩ := ht
    subst h0; subst h1
    have hlt' : (0 : Int) ≤ (i : Int) ∧ (i : Int) < (len' : Int) := by omega
    simp only [execOp, FA_eval hx, FA_eval hy, h, hi, Sem.run_bind, Instr.indexAt, asIntOf, Sem.run_pure, run_underlying hu, Result.andThen_ok, Instr.sureAddr]
    simp only [hlt', and_self, if_true, Sem.run_bind, sizT_spec h2, Result.andThen_ok, Sem.run_pure, Int.toNat_natCast]
    unfold Addr.add
    by_cases h0 : i * sz = 0
    · simp [h0]
    · simp [h0]
end
theorem ctz_low {m : Nat} (h0 : m ≠ 0) (hm : m < 2 ^ 32) : (m &&& ((2 ^ 32 - m) % 2 ^ 32)) * 125613361 % 2 ^ 32 / 2 ^ 27 < 32 ∧
    Go.Lib.deBruijn32tab.getD ((m &&& ((2 ^ 32 - m) % 2 ^ 32)) * 125613361 % 2 ^ 32 / 2 ^ 27) 0 = Go.Lib.ctz 32 m := by
  obtain ⟨hl, hk⟩ := Go.Lib.lowest_bit 32 m h0 hm
  rw [Nat.mod_eq_of_lt (show 2 ^ 32 - m < 2 ^ 32 by omega), hl]
  exact Go.Lib.deBruijn32_at _ hk
end Go.Proofs.YtlnlodfnplkckaaDoor
/- The contract of math/bits.TrailingZeros32. -/
namespace Go.Proofs.YtlnlodfnplkckaaDoor
set_option linter.unusedVariables false
set_option linter.unusedSimpArgs false
set_option maxRecDepth 100000 in
theorem tz32_ok {I : GH} (ht : TabG I) {m : Nat} (hm : m < 2 ^ 32) (h0 : m ≠ 0) : Fn Tryd.prog 118 #[.int .u32 ((m : Nat) : Int)] I [] (fun v J _ => v = .int .i64 ((Go.Lib.ctz 32 m : Nat) : Int) ∧ I = J) := by
  obtain ⟨cs, T0, fz, hb, htab⟩ := ht
  have hcell : cs[0 + ((m &&& ((2 ^ 32 - m) % 2 ^ 32)) * 125613361 % 2 ^ 32 / 2 ^ 27) * 1]? = some (.int .u8 ((Go.Lib.ctz 32 m : Nat) : Int)) := by
    rw [Nat.zero_add, Nat.mul_one, htab _ (ctz_low h0 hm).1, (ctz_low h0 hm).2]
  have hc8 : Go.Lib.ctz 32 m < 2 ^ 8 := Nat.lt_trans (Go.Lib.lowest_bit 32 m h0 hm).2 (by decide)
  refine enter (args := [.int .u32 ((m : Nat) : Int)]) Tryd.func118 rfl rfl fun w0 hs0 => ?_
  refine wp_seq_k fun K1 hK2 => ?_
  refine wl_begin ?_
  refine sq (r_assign rfl) rfl ?_
  refine wl_nil ?_
  refine hK2 _ _ ?_; (try clear hK2 K1)
  refine wp_seq_k fun K3 hK4 => ?_
  refine wp_seq_k fun K5 hK6 => ?_
  refine wl_begin ?_
  refine sq (r_move rfl) rfl ?_
  refine sq (r_eqN (a := m) (b := 0) rfl rfl rfl rfl) rfl ?_
  refine wl_nil ?_
  refine hK6 _ _ ?_; (try clear hK6 K5)
  refine condS rfl rfl (fun h7 => ?_) (fun h7 => ?_)
  ·
    have p8 := of_decide_eq_true h7
    exact absurd (by assumption) h0
  ·
    have p9 := of_decide_eq_false h7
    refine wp_skip ?_
    refine hK4 _ _ ?_; (try clear hK4 K3)
    refine wp_seq_k fun K10 hK11 => ?_
    refine wl_begin ?_
    refine sq (r_move rfl) rfl ?_
    refine sq (r_move rfl) rfl ?_
    refine sq (r_negN (a := m) (m := 32) (by kernel_rfl) rfl rfl hm) rfl ?_
    refine sq (r_andN (a := m) (b := ((2 ^ 32 - m) % 2 ^ 32)) (m := 32) (by kernel_rfl) rfl rfl rfl rfl hm (Nat.mod_lt _ (by decide))) rfl ?_
    refine sq (r_mulN (a := (m &&& ((2 ^ 32 - m) % 2 ^ 32))) (b := 125613361) (m := 32) (by kernel_rfl) rfl rfl rfl rfl) rfl ?_
    refine sq (r_shrN (a := ((m &&& ((2 ^ 32 - m) % 2 ^ 32)) * 125613361 % 2 ^ 32)) (b := 27) (m := 32) (by kernel_rfl) rfl rfl rfl rfl (by omega)) rfl ?_
    refine sq (r_indexArrK (len := 32) (e := 5) (sz := 1) (i := (((m &&& ((2 ^ 32 - m) % 2 ^ 32)) * 125613361 % 2 ^ 32) / 2 ^ 27)) rfl rfl (by kernel_rfl) rfl rfl (ctz_low h0 hm).1) rfl ?_
    refine sq (r_load rfl (by kernel_rfl) rfl (hs0.imm hb) hcell) rfl ?_
    refine sq (r_convI (a := Go.Lib.ctz 32 m) (r_convInt rfl (by kernel_rfl) (by kernel_rfl) rfl) (Nat.lt_of_lt_of_le hc8 (by decide))) rfl ?_
    refine sq (r_assign rfl) rfl ?_
    refine wl_nil ?_
    refine hK11 _ _ ?_; (try clear hK11 K10)
    refine wp_ret ?_
    exact leave (X' := []) (L := []) hs0 rfl (res_one (v := .int .i64 ((Go.Lib.ctz 32 m : Nat) : Int)) rfl (.tmp rfl rfl .nil)) ⟨rfl, rfl⟩
end Go.Proofs.YtlnlodfnplkckaaDoor
/- How the nodes of a trie lie in memory. Each theorem's conditions stand in it. -/
namespace Go.Proofs.YtlnlodfnplkckaaDoor
/-- The nodes of package node. -/
inductive N where
  | none
  | leaf (h : Nat) (k x : Bs)
  | bucket (h : Nat) (t : T)
  | branch (m : Nat) (kids : List N)
namespace N
mutual
def size : N → Nat
  | .none => 0
  | .leaf _ _ _ => 1
  | .bucket _ t => t.size
  | .branch _ kids => sizes kids
def sizes : List N → Nat
  | [] => 0
  | n :: l => size n + sizes l
end
end N
mutual
def NodeAt (I : GH) : Value → N → Prop
  | v, .none => v = .nilIface
  | v, .leaf h k x => ∃ b kv xv, v = .iface 157 (.pointer (some ⟨b, 0, none⟩)) ∧ I b = some (.cells #[.int .u64 (h : Int), kv, xv] 159 (0, 0)) ∧ BytesAt I kv k ∧ BytesAt I xv x ∧ h < 2 ^ 64
  | v, .bucket h t => ∃ b p, v = .iface 160 (.pointer (some ⟨b, 0, none⟩)) ∧ I b = some (.cells #[.int .u64 (h : Int), .pointer p] 162 (0, 0)) ∧ TreeAt I p t ∧ h < 2 ^ 64
  | v, .branch m kids => ∃ b sv vs, v = .iface 133 (.pointer (some ⟨b, 0, none⟩)) ∧ I b = some (.cells #[.int .u32 (m : Int), sv, .int .i64 ((N.sizes kids : Nat) : Int)] 137 (0, 0)) ∧
      SliceAt I sv kids.length 1 vs ∧ NodesAt I vs kids ∧ m < 2 ^ 32
def NodesAt (I : GH) : List Value → List N → Prop
  | vs, [] => vs = []
  | vs, n :: l => ∃ v us, vs = v :: us ∧ NodeAt I v n ∧ NodesAt I us l
end
mutual
theorem NodeAt.up {I J : GH} (hle : I.le J) : ∀ {n : N} {v : Value}, NodeAt I v n → NodeAt J v n
  | .none, _, h => h
  | .leaf _ _ _, _, ⟨b, kv, xv, h1, h2, h3, h4, h5⟩ => ⟨b, kv, xv, h1, hle _ _ h2, h3.up hle, h4.up hle, h5⟩
  | .bucket _ _, _, ⟨b, p, h1, h2, h3, h4⟩ => ⟨b, p, h1, hle _ _ h2, h3.up hle, h4⟩
  | .branch _ _, _, ⟨b, sv, vs, h1, h2, h3, h4, h5⟩ => ⟨b, sv, vs, h1, hle _ _ h2, h3.up hle, NodesAt.up hle h4, h5⟩
theorem NodesAt.up {I J : GH} (hle : I.le J) : ∀ {l : List N} {vs : List Value}, NodesAt I vs l → NodesAt J vs l
  | [], _, h => h
  | _ :: _, _, ⟨v, us, h1, h2, h3⟩ => ⟨v, us, h1, NodeAt.up hle h2, NodesAt.up hle h3⟩
end
theorem NodeAt.pif {I : GH} {v : Value} {n : N} (h : NodeAt I v n) : IsIf v := by
  cases n with
  | none => exact .inl h
  | leaf h k x => obtain ⟨b, kv, xv, h1, _⟩ := h; exact .inr ⟨_, _, h1⟩
  | bucket h t => obtain ⟨b, p, h1, _⟩ := h; exact .inr ⟨_, _, h1⟩
  | branch m kids => obtain ⟨b, sv, vs, h1, _⟩ := h; exact .inr ⟨_, _, h1⟩
theorem NodeAt.one {I : GH} {v : Value} {n : N} (h : NodeAt I v n) : One v := by
  rcases h.pif with rfl | ⟨_, _, rfl⟩ <;> trivial
theorem NodesAt.length {I : GH} : ∀ {l : List N} {vs : List Value}, NodesAt I vs l → vs.length = l.length
  | [], _, h => by rw [show _ = [] from h]; rfl
  | _ :: _, _, ⟨v, us, h1, _, h3⟩ => by subst h1; simp [NodesAt.length h3]
theorem NodesAt.get {I : GH} : ∀ {l : List N} {vs : List Value} {i : Nat}, NodesAt I vs l → (h : i < l.length) → ∃ v, vs[i]? = some v ∧ NodeAt I v l[i]
  | _ :: _, _, 0, ⟨v, us, h1, h2, _⟩, _ => ⟨v, by subst h1; rfl, h2⟩
  | _ :: l, _, i + 1, ⟨v, us, h1, _, h3⟩, h => by
    obtain ⟨u, h4, h5⟩ := NodesAt.get (i := i) h3 (by simpa using h)
    exact ⟨u, by subst h1; simpa using h4, h5⟩
  | [], _, _, _, h => by simp at h
end Go.Proofs.YtlnlodfnplkckaaDoor
/- The contracts of the nodes: Kind, Count, Hash, Map, Tree. -/
namespace Go.Proofs.YtlnlodfnplkckaaDoor
set_option linter.unusedVariables false
set_option linter.unusedSimpArgs false
namespace N
def kind : N → Nat
  | .none => 0
  | .leaf _ _ _ => 1
  | .bucket _ _ => 2
  | .branch _ _ => 3
def hash : N → Option Nat
  | .leaf h _ _ => some h
  | .bucket h _ => some h
  | _ => Option.none
def map : N → Option Nat
  | .branch m _ => some m
  | _ => Option.none
end N
set_option maxRecDepth 100000 in
theorem count1_ok {I : GH} {a : Option Addr} : Fn Tryd.prog 183 #[.pointer a] I [] (fun v J _ => v = .int .i64 ((1 : Nat) : Int) ∧ I = J) := by
  refine enter (args := [.pointer a]) Tryd.func183 rfl rfl fun w0 hs0 => ?_
  refine wp_seq_k fun K1 hK2 => ?_
  refine wl_begin ?_
  refine sq (r_assign rfl) rfl ?_
  refine wl_nil ?_
  refine hK2 _ _ ?_; (try clear hK2 K1)
  refine wp_seq_k fun K3 hK4 => ?_
  refine wl_begin ?_
  refine sq (r_assign rfl) rfl ?_
  refine wl_nil ?_
  refine hK4 _ _ ?_; (try clear hK4 K3)
  refine wp_ret ?_
  exact leave (X' := []) (L := []) hs0 rfl (res_one (v := .int .i64 1) rfl (.tmp rfl rfl .nil)) ⟨rfl, rfl⟩
set_option maxRecDepth 100000 in
theorem count2_ok {I : GH} {b : Nat} {h : Int} {p : Option Addr} {t : T} (hb : I b = some (.cells #[.int .u64 h, .pointer p] 162 (0, 0))) (ht : TreeAt I p t) : Fn Tryd.prog 185 #[.pointer (some ⟨b, 0, none⟩)] I [] (fun v J _ => v = .int .i64 ((t.size : Nat) : Int) ∧ I = J) := by
  refine enter (args := [.pointer (some ⟨b, 0, none⟩)]) Tryd.func185 rfl rfl fun w0 hs0 => ?_
  refine wp_seq_k fun K1 hK2 => ?_
  refine wl_begin ?_
  refine sq (r_assign rfl) rfl ?_
  refine wl_nil ?_
  refine hK2 _ _ ?_; (try clear hK2 K1)
  refine wp_seq_k fun K3 hK4 => ?_
  refine wl_begin ?_
  refine sq (r_move rfl) rfl ?_
  refine sq (r_nilCheck rfl rfl) rfl ?_
  refine sq (r_fieldAddr (off := 1) rfl (by kernel_rfl) rfl) rfl ?_
  refine sq (r_load rfl (by kernel_rfl) rfl (hs0.imm hb) rfl) rfl ?_
  refine sqo rfl fun K5 hK6 => ow_call (X := []) (L := []) (lb := []) hs0 (tsize_ok ht) (by kernel_rfl) rfl rfl rfl rfl rfl ?_
  rintro _ _ X1 w7 ⟨rfl, rfl⟩ - hs8 hid9
  obtain rfl : X1 = [] := List.map_eq_nil_iff.1 hid9
  replace hs8 : St w0 I (ids []) I [] w7 := hs8
  clear hs0 hid9
  refine hK6 _ _ ?_; clear hK6 K5
  refine sq (r_assign rfl) rfl ?_
  refine wl_nil ?_
  refine hK4 _ _ ?_; (try clear hK4 K3)
  refine wp_ret ?_
  exact leave (X' := []) (L := []) hs8 rfl (res_one (v := .int .i64 (((t).size : Nat) : Int)) rfl (.tmp rfl rfl .nil)) ⟨rfl, rfl⟩
set_option maxRecDepth 100000 in
theorem count3_ok {I : GH} {b : Nat} {m c : Int} {sv : Value} (hb : I b = some (.cells #[.int .u32 m, sv, .int .i64 c] 137 (0, 0))) : Fn Tryd.prog 181 #[.pointer (some ⟨b, 0, none⟩)] I [] (fun v J _ => v = .int .i64 c ∧ I = J) := by
  refine enter (args := [.pointer (some ⟨b, 0, none⟩)]) Tryd.func181 rfl rfl fun w0 hs0 => ?_
  refine wp_seq_k fun K1 hK2 => ?_
  refine wl_begin ?_
  refine sq (r_assign rfl) rfl ?_
  refine wl_nil ?_
  refine hK2 _ _ ?_; (try clear hK2 K1)
  refine wp_seq_k fun K3 hK4 => ?_
  refine wl_begin ?_
  refine sq (r_move rfl) rfl ?_
  refine sq (r_nilCheck rfl rfl) rfl ?_
  refine sq (r_fieldAddr (off := 2) rfl (by kernel_rfl) rfl) rfl ?_
  refine sq (r_load rfl (by kernel_rfl) rfl (hs0.imm hb) rfl) rfl ?_
  refine sq (r_assign rfl) rfl ?_
  refine wl_nil ?_
  refine hK4 _ _ ?_; (try clear hK4 K3)
  refine wp_ret ?_
  exact leave (X' := []) (L := []) hs0 rfl (res_one (v := .int .i64 c) rfl (.tmp rfl rfl .nil)) ⟨rfl, rfl⟩
set_option maxRecDepth 100000 in
theorem hash_ok {I : GH} {v : Value} {n : N} (hn : NodeAt I v n) : Fn Tryd.prog 50 #[v] I [] (fun u J _ => u = .tuple #[.int .u64 ((n.hash.getD 0 : Nat) : Int), .bool n.hash.isSome] ∧ I = J) := by
  cases n with
  | none =>
    obtain rfl : v = .nilIface := hn
    refine enter (args := [.nilIface]) Tryd.func50 rfl rfl fun w0 hs0 => ?_
    refine wp_seq_k fun K1 hK2 => ?_
    refine wl_begin ?_
    refine sq (r_assign rfl) rfl ?_
    refine sq (r_assign rfl) rfl ?_
    refine wl_nil ?_
    refine hK2 _ _ ?_; (try clear hK2 K1)
    refine wp_seq_k fun K3 hK4 => ?_
    refine wp_seq_k fun K5 hK6 => ?_
    refine wl_begin ?_
    refine sq (r_move rfl) rfl ?_
    refine wl_nil ?_
    refine hK6 _ _ ?_; (try clear hK6 K5)
    refine wp_block ?_
    refine wp_seq_k fun K7 hK8 => ?_
    refine wl_begin ?_
    refine sq (r_taNil (z := (.pointer none)) rfl (by kernel_rfl) (by kernel_rfl) rfl) rfl ?_
    refine sq (r_extract rfl rfl rfl) rfl ?_
    refine sq (r_extract rfl rfl rfl) rfl ?_
    refine wl_nil ?_
    refine hK8 _ _ ?_; (try clear hK8 K7)
    refine condF rfl rfl ?_
    refine wp_seq_k fun K9 hK10 => ?_
    refine wl_begin ?_
    refine sq (r_taNil (z := (.pointer none)) rfl (by kernel_rfl) (by kernel_rfl) rfl) rfl ?_
    refine sq (r_extract rfl rfl rfl) rfl ?_
    refine sq (r_extract rfl rfl rfl) rfl ?_
    refine wl_nil ?_
    refine hK10 _ _ ?_; (try clear hK10 K9)
    refine condF rfl rfl ?_
    refine wp_skip ?_
    refine hK4 _ _ ?_; (try clear hK4 K3)
    refine wp_seq_k fun K11 hK12 => ?_
    refine wl_begin ?_
    refine sq (r_assign rfl) rfl ?_
    refine sq (r_assign rfl) rfl ?_
    refine wl_nil ?_
    refine hK12 _ _ ?_; (try clear hK12 K11)
    refine wp_ret ?_
    exact leave (X' := []) (L := []) hs0 rfl (res_many (vs := [.int .u64 0, .bool false]) rfl (.tmp rfl rfl (.tmp rfl rfl .nil)) rfl) ⟨rfl, rfl⟩
  | leaf h k x =>
    have hn0 := hn
    obtain ⟨b, kv, xv, rfl, hb, hk, hx, hh⟩ := hn0
    refine enter (args := [.iface 157 (.pointer (some ⟨b, 0, none⟩))]) Tryd.func50 rfl rfl fun w0 hs0 => ?_
    refine wp_seq_k fun K1 hK2 => ?_
    refine wl_begin ?_
    refine sq (r_assign rfl) rfl ?_
    refine sq (r_assign rfl) rfl ?_
    refine wl_nil ?_
    refine hK2 _ _ ?_; (try clear hK2 K1)
    refine wp_seq_k fun K3 hK4 => ?_
    refine wp_seq_k fun K5 hK6 => ?_
    refine wl_begin ?_
    refine sq (r_move rfl) rfl ?_
    refine wl_nil ?_
    refine hK6 _ _ ?_; (try clear hK6 K5)
    refine wp_block ?_
    refine wp_seq_k fun K7 hK8 => ?_
    refine wl_begin ?_
    refine sq (r_taYes rfl (by kernel_rfl) rfl) rfl ?_
    refine sq (r_extract rfl rfl rfl) rfl ?_
    refine sq (r_extract rfl rfl rfl) rfl ?_
    refine wl_nil ?_
    refine hK8 _ _ ?_; (try clear hK8 K7)
    refine condT rfl rfl ?_
    refine wp_seq_k fun K9 hK10 => ?_
    refine wl_begin ?_
    refine sq (r_assign rfl) rfl ?_
    refine wl_nil ?_
    refine hK10 _ _ ?_; (try clear hK10 K9)
    refine wp_seq_k fun K11 hK12 => ?_
    refine wl_begin ?_
    refine sq (r_move rfl) rfl ?_
    refine sq (r_nilCheck rfl rfl) rfl ?_
    refine sq (r_fieldAddr (off := 0) rfl (by kernel_rfl) rfl) rfl ?_
    refine sq (r_load rfl (by kernel_rfl) rfl (hs0.imm hb) rfl) rfl ?_
    refine sq (r_assign rfl) rfl ?_
    refine sq (r_assign rfl) rfl ?_
    refine wl_nil ?_
    refine hK12 _ _ ?_; (try clear hK12 K11)
    refine wp_ret ?_
    exact leave (X' := []) (L := []) hs0 rfl (res_many (vs := [.int .u64 ((h : Nat) : Int), .bool true]) rfl (.tmp rfl rfl (.tmp rfl rfl .nil)) rfl) ⟨rfl, rfl⟩
  | bucket h t =>
    have hn0 := hn
    obtain ⟨b, p, rfl, hb, ht, hh⟩ := hn0
    refine enter (args := [.iface 160 (.pointer (some ⟨b, 0, none⟩))]) Tryd.func50 rfl rfl fun w0 hs0 => ?_
    refine wp_seq_k fun K1 hK2 => ?_
    refine wl_begin ?_
    refine sq (r_assign rfl) rfl ?_
    refine sq (r_assign rfl) rfl ?_
    refine wl_nil ?_
    refine hK2 _ _ ?_; (try clear hK2 K1)
    refine wp_seq_k fun K3 hK4 => ?_
    refine wp_seq_k fun K5 hK6 => ?_
    refine wl_begin ?_
    refine sq (r_move rfl) rfl ?_
    refine wl_nil ?_
    refine hK6 _ _ ?_; (try clear hK6 K5)
    refine wp_block ?_
    refine wp_seq_k fun K7 hK8 => ?_
    refine wl_begin ?_
    refine sq (r_taNo (z := (.pointer none)) rfl (by kernel_rfl) (by kernel_rfl) rfl rfl) rfl ?_
    refine sq (r_extract rfl rfl rfl) rfl ?_
    refine sq (r_extract rfl rfl rfl) rfl ?_
    refine wl_nil ?_
    refine hK8 _ _ ?_; (try clear hK8 K7)
    refine condF rfl rfl ?_
    refine wp_seq_k fun K9 hK10 => ?_
    refine wl_begin ?_
    refine sq (r_taYes rfl (by kernel_rfl) rfl) rfl ?_
    refine sq (r_extract rfl rfl rfl) rfl ?_
    refine sq (r_extract rfl rfl rfl) rfl ?_
    refine wl_nil ?_
    refine hK10 _ _ ?_; (try clear hK10 K9)
    refine condT rfl rfl ?_
    refine wp_seq_k fun K11 hK12 => ?_
    refine wl_begin ?_
    refine sq (r_assign rfl) rfl ?_
    refine wl_nil ?_
    refine hK12 _ _ ?_; (try clear hK12 K11)
    refine wp_seq_k fun K13 hK14 => ?_
    refine wl_begin ?_
    refine sq (r_move rfl) rfl ?_
    refine sq (r_nilCheck rfl rfl) rfl ?_
    refine sq (r_fieldAddr (off := 0) rfl (by kernel_rfl) rfl) rfl ?_
    refine sq (r_load rfl (by kernel_rfl) rfl (hs0.imm hb) rfl) rfl ?_
    refine sq (r_assign rfl) rfl ?_
    refine sq (r_assign rfl) rfl ?_
    refine wl_nil ?_
    refine hK14 _ _ ?_; (try clear hK14 K13)
    refine wp_ret ?_
    exact leave (X' := []) (L := []) hs0 rfl (res_many (vs := [.int .u64 ((h : Nat) : Int), .bool true]) rfl (.tmp rfl rfl (.tmp rfl rfl .nil)) rfl) ⟨rfl, rfl⟩
  | branch m kids =>
    have hn0 := hn
    obtain ⟨b, sv, vs, rfl, hb, hs, hks, hm⟩ := hn0
    refine enter (args := [.iface 133 (.pointer (some ⟨b, 0, none⟩))]) Tryd.func50 rfl rfl fun w0 hs0 => ?_
    refine wp_seq_k fun K1 hK2 => ?_
    refine wl_begin ?_
    refine sq (r_assign rfl) rfl ?_
    refine sq (r_assign rfl) rfl ?_
    refine wl_nil ?_
    refine hK2 _ _ ?_; (try clear hK2 K1)
    refine wp_seq_k fun K3 hK4 => ?_
    refine wp_seq_k fun K5 hK6 => ?_
    refine wl_begin ?_
    refine sq (r_move rfl) rfl ?_
    refine wl_nil ?_
    refine hK6 _ _ ?_; (try clear hK6 K5)
    refine wp_block ?_
    refine wp_seq_k fun K7 hK8 => ?_
    refine wl_begin ?_
    refine sq (r_taNo (z := (.pointer none)) rfl (by kernel_rfl) (by kernel_rfl) rfl rfl) rfl ?_
    refine sq (r_extract rfl rfl rfl) rfl ?_
    refine sq (r_extract rfl rfl rfl) rfl ?_
    refine wl_nil ?_
    refine hK8 _ _ ?_; (try clear hK8 K7)
    refine condF rfl rfl ?_
    refine wp_seq_k fun K9 hK10 => ?_
    refine wl_begin ?_
    refine sq (r_taNo (z := (.pointer none)) rfl (by kernel_rfl) (by kernel_rfl) rfl rfl) rfl ?_
    refine sq (r_extract rfl rfl rfl) rfl ?_
    refine sq (r_extract rfl rfl rfl) rfl ?_
    refine wl_nil ?_
    refine hK10 _ _ ?_; (try clear hK10 K9)
    refine condF rfl rfl ?_
    refine wp_skip ?_
    refine hK4 _ _ ?_; (try clear hK4 K3)
    refine wp_seq_k fun K11 hK12 => ?_
    refine wl_begin ?_
    refine sq (r_assign rfl) rfl ?_
    refine sq (r_assign rfl) rfl ?_
    refine wl_nil ?_
    refine hK12 _ _ ?_; (try clear hK12 K11)
    refine wp_ret ?_
    exact leave (X' := []) (L := []) hs0 rfl (res_many (vs := [.int .u64 0, .bool false]) rfl (.tmp rfl rfl (.tmp rfl rfl .nil)) rfl) ⟨rfl, rfl⟩
set_option maxRecDepth 100000 in
theorem map_ok {I : GH} {v : Value} {n : N} (hn : NodeAt I v n) : Fn Tryd.prog 51 #[v] I [] (fun u J _ => u = .tuple #[.int .u32 ((n.map.getD 0 : Nat) : Int), .bool n.map.isSome] ∧ I = J) := by
  cases n with
  | none =>
    obtain rfl : v = .nilIface := hn
    refine enter (args := [.nilIface]) Tryd.func51 rfl rfl fun w0 hs0 => ?_
    refine wp_seq_k fun K1 hK2 => ?_
    refine wl_begin ?_
    refine sq (r_assign rfl) rfl ?_
    refine sq (r_assign rfl) rfl ?_
    refine wl_nil ?_
    refine hK2 _ _ ?_; (try clear hK2 K1)
    refine wp_seq_k fun K3 hK4 => ?_
    refine wp_seq_k fun K5 hK6 => ?_
    refine wl_begin ?_
    refine sq (r_move rfl) rfl ?_
    refine sq (r_taNil (z := (.pointer none)) rfl (by kernel_rfl) (by kernel_rfl) rfl) rfl ?_
    refine sq (r_move rfl) rfl ?_
    refine sq (r_extract rfl rfl rfl) rfl ?_
    refine sq (r_extract rfl rfl rfl) rfl ?_
    refine sq (r_assign rfl) rfl ?_
    refine sq (r_assign rfl) rfl ?_
    refine wl_nil ?_
    refine hK6 _ _ ?_; (try clear hK6 K5)
    refine wp_seq_k fun K7 hK8 => ?_
    refine wl_begin ?_
    refine sq (r_move rfl) rfl ?_
    refine wl_nil ?_
    refine hK8 _ _ ?_; (try clear hK8 K7)
    refine condF rfl rfl ?_
    refine wp_skip ?_
    refine hK4 _ _ ?_; (try clear hK4 K3)
    refine wp_seq_k fun K9 hK10 => ?_
    refine wl_begin ?_
    refine sq (r_assign rfl) rfl ?_
    refine sq (r_assign rfl) rfl ?_
    refine wl_nil ?_
    refine hK10 _ _ ?_; (try clear hK10 K9)
    refine wp_ret ?_
    exact leave (X' := []) (L := []) hs0 rfl (res_many (vs := [.int .u32 0, .bool false]) rfl (.tmp rfl rfl (.tmp rfl rfl .nil)) rfl) ⟨rfl, rfl⟩
  | leaf h k x =>
    have hn0 := hn
    obtain ⟨b, kv, xv, rfl, hb, hk, hx, hh⟩ := hn0
    refine enter (args := [.iface 157 (.pointer (some ⟨b, 0, none⟩))]) Tryd.func51 rfl rfl fun w0 hs0 => ?_
    refine wp_seq_k fun K1 hK2 => ?_
    refine wl_begin ?_
    refine sq (r_assign rfl) rfl ?_
    refine sq (r_assign rfl) rfl ?_
    refine wl_nil ?_
    refine hK2 _ _ ?_; (try clear hK2 K1)
    refine wp_seq_k fun K3 hK4 => ?_
    refine wp_seq_k fun K5 hK6 => ?_
    refine wl_begin ?_
    refine sq (r_move rfl) rfl ?_
    refine sq (r_taNo (z := (.pointer none)) rfl (by kernel_rfl) (by kernel_rfl) rfl rfl) rfl ?_
    refine sq (r_move rfl) rfl ?_
    refine sq (r_extract rfl rfl rfl) rfl ?_
    refine sq (r_extract rfl rfl rfl) rfl ?_
    refine sq (r_assign rfl) rfl ?_
    refine sq (r_assign rfl) rfl ?_
    refine wl_nil ?_
    refine hK6 _ _ ?_; (try clear hK6 K5)
    refine wp_seq_k fun K7 hK8 => ?_
    refine wl_begin ?_
    refine sq (r_move rfl) rfl ?_
    refine wl_nil ?_
    refine hK8 _ _ ?_; (try clear hK8 K7)
    refine condF rfl rfl ?_
    refine wp_skip ?_
    refine hK4 _ _ ?_; (try clear hK4 K3)
    refine wp_seq_k fun K9 hK10 => ?_
    refine wl_begin ?_
    refine sq (r_assign rfl) rfl ?_
    refine sq (r_assign rfl) rfl ?_
    refine wl_nil ?_
    refine hK10 _ _ ?_; (try clear hK10 K9)
    refine wp_ret ?_
    exact leave (X' := []) (L := []) hs0 rfl (res_many (vs := [.int .u32 0, .bool false]) rfl (.tmp rfl rfl (.tmp rfl rfl .nil)) rfl) ⟨rfl, rfl⟩
  | bucket h t =>
    have hn0 := hn
    obtain ⟨b, p, rfl, hb, ht, hh⟩ := hn0
    refine enter (args := [.iface 160 (.pointer (some ⟨b, 0, none⟩))]) Tryd.func51 rfl rfl fun w0 hs0 => ?_
    refine wp_seq_k fun K1 hK2 => ?_
    refine wl_begin ?_
    refine sq (r_assign rfl) rfl ?_
    refine sq (r_assign rfl) rfl ?_
    refine wl_nil ?_
    refine hK2 _ _ ?_; (try clear hK2 K1)
    refine wp_seq_k fun K3 hK4 => ?_
    refine wp_seq_k fun K5 hK6 => ?_
    refine wl_begin ?_
    refine sq (r_move rfl) rfl ?_
    refine sq (r_taNo (z := (.pointer none)) rfl (by kernel_rfl) (by kernel_rfl) rfl rfl) rfl ?_
    refine sq (r_move rfl) rfl ?_
    refine sq (r_extract rfl rfl rfl) rfl ?_
    refine sq (r_extract rfl rfl rfl) rfl ?_
    refine sq (r_assign rfl) rfl ?_
    refine sq (r_assign rfl) rfl ?_
    refine wl_nil ?_
    refine hK6 _ _ ?_; (try clear hK6 K5)
    refine wp_seq_k fun K7 hK8 => ?_
    refine wl_begin ?_
    refine sq (r_move rfl) rfl ?_
    refine wl_nil ?_
    refine hK8 _ _ ?_; (try clear hK8 K7)
    refine condF rfl rfl ?_
    refine wp_skip ?_
    refine hK4 _ _ ?_; (try clear hK4 K3)
    refine wp_seq_k fun K9 hK10 => ?_
    refine wl_begin ?_
    refine sq (r_assign rfl) rfl ?_
    refine sq (r_assign rfl) rfl ?_
    refine wl_nil ?_
    refine hK10 _ _ ?_; (try clear hK10 K9)
    refine wp_ret ?_
    exact leave (X' := []) (L := []) hs0 rfl (res_many (vs := [.int .u32 0, .bool false]) rfl (.tmp rfl rfl (.tmp rfl rfl .nil)) rfl) ⟨rfl, rfl⟩
  | branch m kids =>
    have hn0 := hn
    obtain ⟨b, sv, vs, rfl, hb, hs, hks, hm⟩ := hn0
    refine enter (args := [.iface 133 (.pointer (some ⟨b, 0, none⟩))]) Tryd.func51 rfl rfl fun w0 hs0 => ?_
    refine wp_seq_k fun K1 hK2 => ?_
    refine wl_begin ?_
    refine sq (r_assign rfl) rfl ?_
    refine sq (r_assign rfl) rfl ?_
    refine wl_nil ?_
    refine hK2 _ _ ?_; (try clear hK2 K1)
    refine wp_seq_k fun K3 hK4 => ?_
    refine wp_seq_k fun K5 hK6 => ?_
    refine wl_begin ?_
    refine sq (r_move rfl) rfl ?_
    refine sq (r_taYes rfl (by kernel_rfl) rfl) rfl ?_
    refine sq (r_move rfl) rfl ?_
    refine sq (r_extract rfl rfl rfl) rfl ?_
    refine sq (r_extract rfl rfl rfl) rfl ?_
    refine sq (r_assign rfl) rfl ?_
    refine sq (r_assign rfl) rfl ?_
    refine wl_nil ?_
    refine hK6 _ _ ?_; (try clear hK6 K5)
    refine wp_seq_k fun K7 hK8 => ?_
    refine wl_begin ?_
    refine sq (r_move rfl) rfl ?_
    refine wl_nil ?_
    refine hK8 _ _ ?_; (try clear hK8 K7)
    refine condT rfl rfl ?_
    refine wp_seq_k fun K9 hK10 => ?_
    refine wl_begin ?_
    refine sq (r_move rfl) rfl ?_
    refine sq (r_nilCheck rfl rfl) rfl ?_
    refine sq (r_fieldAddr (off := 0) rfl (by kernel_rfl) rfl) rfl ?_
    refine sq (r_load rfl (by kernel_rfl) rfl (hs0.imm hb) rfl) rfl ?_
    refine sq (r_assign rfl) rfl ?_
    refine sq (r_assign rfl) rfl ?_
    refine wl_nil ?_
    refine hK10 _ _ ?_; (try clear hK10 K9)
    refine wp_ret ?_
    exact leave (X' := []) (L := []) hs0 rfl (res_many (vs := [.int .u32 ((m : Nat) : Int), .bool true]) rfl (.tmp rfl rfl (.tmp rfl rfl .nil)) rfl) ⟨rfl, rfl⟩
set_option maxRecDepth 100000 in
theorem tree_ok {I : GH} {v : Value} {n : N} (hn : NodeAt I v n) : Fn Tryd.prog 61 #[v] I [] (fun u J _ => ∃ p, u = .tuple #[.pointer p, .bool (decide (n.kind = 2))] ∧ I = J ∧ (match n with | .bucket _ t => TreeAt J p t | _ => True)) := by
  cases n with
  | none =>
    obtain rfl : v = .nilIface := hn
    refine enter (args := [.nilIface]) Tryd.func61 rfl rfl fun w0 hs0 => ?_
    refine wp_seq_k fun K1 hK2 => ?_
    refine wl_begin ?_
    refine sq (r_assign rfl) rfl ?_
    refine sq (r_assign rfl) rfl ?_
    refine wl_nil ?_
    refine hK2 _ _ ?_; (try clear hK2 K1)
    refine wp_seq_k fun K3 hK4 => ?_
    refine wp_seq_k fun K5 hK6 => ?_
    refine wl_begin ?_
    refine sq (r_move rfl) rfl ?_
    refine sq (r_taNil (z := (.pointer none)) rfl (by kernel_rfl) (by kernel_rfl) rfl) rfl ?_
    refine sq (r_move rfl) rfl ?_
    refine sq (r_extract rfl rfl rfl) rfl ?_
    refine sq (r_extract rfl rfl rfl) rfl ?_
    refine sq (r_assign rfl) rfl ?_
    refine sq (r_assign rfl) rfl ?_
    refine wl_nil ?_
    refine hK6 _ _ ?_; (try clear hK6 K5)
    refine wp_seq_k fun K7 hK8 => ?_
    refine wl_begin ?_
    refine sq (r_move rfl) rfl ?_
    refine wl_nil ?_
    refine hK8 _ _ ?_; (try clear hK8 K7)
    refine condF rfl rfl ?_
    refine wp_skip ?_
    refine hK4 _ _ ?_; (try clear hK4 K3)
    refine wp_seq_k fun K9 hK10 => ?_
    refine wl_begin ?_
    refine sq (r_assign rfl) rfl ?_
    refine sq (r_assign rfl) rfl ?_
    refine wl_nil ?_
    refine hK10 _ _ ?_; (try clear hK10 K9)
    refine wp_ret ?_
    exact leave (X' := []) (L := []) hs0 rfl (res_many (vs := [.pointer none, .bool false]) rfl (.tmp rfl rfl (.tmp rfl rfl .nil)) rfl) ⟨_, rfl, rfl, trivial⟩
  | leaf h k x =>
    have hn0 := hn
    obtain ⟨b, kv, xv, rfl, hb, hk, hx, hh⟩ := hn0
    refine enter (args := [.iface 157 (.pointer (some ⟨b, 0, none⟩))]) Tryd.func61 rfl rfl fun w0 hs0 => ?_
    refine wp_seq_k fun K1 hK2 => ?_
    refine wl_begin ?_
    refine sq (r_assign rfl) rfl ?_
    refine sq (r_assign rfl) rfl ?_
    refine wl_nil ?_
    refine hK2 _ _ ?_; (try clear hK2 K1)
    refine wp_seq_k fun K3 hK4 => ?_
    refine wp_seq_k fun K5 hK6 => ?_
    refine wl_begin ?_
    refine sq (r_move rfl) rfl ?_
    refine sq (r_taNo (z := (.pointer none)) rfl (by kernel_rfl) (by kernel_rfl) rfl rfl) rfl ?_
    refine sq (r_move rfl) rfl ?_
    refine sq (r_extract rfl rfl rfl) rfl ?_
    refine sq (r_extract rfl rfl rfl) rfl ?_
    refine sq (r_assign rfl) rfl ?_
    refine sq (r_assign rfl) rfl ?_
    refine wl_nil ?_
    refine hK6 _ _ ?_; (try clear hK6 K5)
    refine wp_seq_k fun K7 hK8 => ?_
    refine wl_begin ?_
    refine sq (r_move rfl) rfl ?_
    refine wl_nil ?_
    refine hK8 _ _ ?_; (try clear hK8 K7)
    refine condF rfl rfl ?_
    refine wp_skip ?_
    refine hK4 _ _ ?_; (try clear hK4 K3)
    refine wp_seq_k fun K9 hK10 => ?_
    refine wl_begin ?_
    refine sq (r_assign rfl) rfl ?_
    refine sq (r_assign rfl) rfl ?_
    refine wl_nil ?_
    refine hK10 _ _ ?_; (try clear hK10 K9)
    refine wp_ret ?_
    exact leave (X' := []) (L := []) hs0 rfl (res_many (vs := [.pointer none, .bool false]) rfl (.tmp rfl rfl (.tmp rfl rfl .nil)) rfl) ⟨_, rfl, rfl, trivial⟩
  | bucket h t =>
    have hn0 := hn
    obtain ⟨b, p, rfl, hb, ht, hh⟩ := hn0
    refine enter (args := [.iface 160 (.pointer (some ⟨b, 0, none⟩))]) Tryd.func61 rfl rfl fun w0 hs0 => ?_
    refine wp_seq_k fun K1 hK2 => ?_
    refine wl_begin ?_
    refine sq (r_assign rfl) rfl ?_
    refine sq (r_assign rfl) rfl ?_
    refine wl_nil ?_
    refine hK2 _ _ ?_; (try clear hK2 K1)
    refine wp_seq_k fun K3 hK4 => ?_
    refine wp_seq_k fun K5 hK6 => ?_
    refine wl_begin ?_
    refine sq (r_move rfl) rfl ?_
    refine sq (r_taYes rfl (by kernel_rfl) rfl) rfl ?_
    refine sq (r_move rfl) rfl ?_
    refine sq (r_extract rfl rfl rfl) rfl ?_
    refine sq (r_extract rfl rfl rfl) rfl ?_
    refine sq (r_assign rfl) rfl ?_
    refine sq (r_assign rfl) rfl ?_
    refine wl_nil ?_
    refine hK6 _ _ ?_; (try clear hK6 K5)
    refine wp_seq_k fun K7 hK8 => ?_
    refine wl_begin ?_
    refine sq (r_move rfl) rfl ?_
    refine wl_nil ?_
    refine hK8 _ _ ?_; (try clear hK8 K7)
    refine condT rfl rfl ?_
    refine wp_seq_k fun K9 hK10 => ?_
    refine wl_begin ?_
    refine sq (r_move rfl) rfl ?_
    refine sq (r_nilCheck rfl rfl) rfl ?_
    refine sq (r_fieldAddr (off := 1) rfl (by kernel_rfl) rfl) rfl ?_
    refine sq (r_load rfl (by kernel_rfl) rfl (hs0.imm hb) rfl) rfl ?_
    refine sq (r_assign rfl) rfl ?_
    refine sq (r_assign rfl) rfl ?_
    refine wl_nil ?_
    refine hK10 _ _ ?_; (try clear hK10 K9)
    refine wp_ret ?_
    exact leave (X' := []) (L := []) hs0 rfl (res_many (vs := [.pointer p, .bool true]) rfl (.tmp rfl rfl (.tmp rfl rfl .nil)) rfl) ⟨_, rfl, rfl, ht⟩
  | branch m kids =>
    have hn0 := hn
    obtain ⟨b, sv, vs, rfl, hb, hs, hks, hm⟩ := hn0
    refine enter (args := [.iface 133 (.pointer (some ⟨b, 0, none⟩))]) Tryd.func61 rfl rfl fun w0 hs0 => ?_
    refine wp_seq_k fun K1 hK2 => ?_
    refine wl_begin ?_
    refine sq (r_assign rfl) rfl ?_
    refine sq (r_assign rfl) rfl ?_
    refine wl_nil ?_
    refine hK2 _ _ ?_; (try clear hK2 K1)
    refine wp_seq_k fun K3 hK4 => ?_
    refine wp_seq_k fun K5 hK6 => ?_
    refine wl_begin ?_
    refine sq (r_move rfl) rfl ?_
    refine sq (r_taNo (z := (.pointer none)) rfl (by kernel_rfl) (by kernel_rfl) rfl rfl) rfl ?_
    refine sq (r_move rfl) rfl ?_
    refine sq (r_extract rfl rfl rfl) rfl ?_
    refine sq (r_extract rfl rfl rfl) rfl ?_
    refine sq (r_assign rfl) rfl ?_
    refine sq (r_assign rfl) rfl ?_
    refine wl_nil ?_
    refine hK6 _ _ ?_; (try clear hK6 K5)
    refine wp_seq_k fun K7 hK8 => ?_
    refine wl_begin ?_
    refine sq (r_move rfl) rfl ?_
    refine wl_nil ?_
    refine hK8 _ _ ?_; (try clear hK8 K7)
    refine condF rfl rfl ?_
    refine wp_skip ?_
    refine hK4 _ _ ?_; (try clear hK4 K3)
    refine wp_seq_k fun K9 hK10 => ?_
    refine wl_begin ?_
    refine sq (r_assign rfl) rfl ?_
    refine sq (r_assign rfl) rfl ?_
    refine wl_nil ?_
    refine hK10 _ _ ?_; (try clear hK10 K9)
    refine wp_ret ?_
    exact leave (X' := []) (L := []) hs0 rfl (res_many (vs := [.pointer none, .bool false]) rfl (.tmp rfl rfl (.tmp rfl rfl .nil)) rfl) ⟨_, rfl, rfl, trivial⟩
end Go.Proofs.YtlnlodfnplkckaaDoor
/- The contract of pair.Own. -/
namespace Go.Proofs.YtlnlodfnplkckaaDoor
open T (Sm)
set_option linter.unusedVariables false
set_option linter.unusedSimpArgs false
set_option maxRecDepth 100000 in
theorem own_list_ok {I : GH} {v : Value} {l : List (Bs × Bs)} (hl : PairsAt I v l) (hsm : Sm l) (hsz : l.length ≤ 1000000) :
    FnO Tryd.prog 45 #[v] I [] (fun v J _ N => ∃ gb cap cur, v = .slice (some ⟨gb, 0, none⟩) l.length cap ∧ N = [⟨gb, cur, 56⟩] ∧ cur.size = cap * 2 ∧ l.length ≤ cap ∧ cap ≤ maxLen ∧ PairCells J (cur.toList.take (l.length * 2)) l) := by
  obtain ⟨ad, cap, rfl⟩ := hl.slc
  refine enterO (args := [.slice ad l.length cap]) Tryd.func45 rfl rfl fun w0 hs0 => ?_
  refine wp_seq_k fun K1 hK2 => ?_
  refine wl_begin ?_
  refine sq (r_assign rfl) rfl ?_
  refine wl_nil ?_
  refine hK2 _ _ ?_; (try clear hK2 K1)
  refine wp_seq_k fun K3 hK4 => ?_
  refine wl_begin ?_
  refine sq (r_move rfl) rfl ?_
  refine sq (r_lens rfl (by kernel_rfl) rfl) rfl ?_
  refine sqo rfl fun K5 hK6 => ow_makeRoom (E := 56) (sz := 2) (bytes := 48) (c := l.length) hs0 (by kernel_rfl) rfl rfl rfl rfl (by omega) (by simp only [maxLen]; omega) rfl ?_
  rintro gb7 cur8 w9 hc10 - hs11
  replace hs11 : St w0 I (ids []) I (([⟨gb7, cur8, 56⟩] : List Bx) ++ []) w9 := hs11; clear hs0
  refine hK6 _ _ ?_; clear hK6 K5
  refine sq (r_assign rfl) rfl ?_
  refine wl_nil ?_
  refine hK4 _ _ ?_; (try clear hK4 K3)
  refine wp_seq_k fun K12 hK13 => ?_
  refine wp_seq_k fun K14 hK15 => ?_
  refine wl_begin ?_
  refine sq (r_move rfl) rfl ?_
  refine sq (r_lens rfl (by kernel_rfl) rfl) rfl ?_
  refine sq (r_move rfl) rfl ?_
  refine wl_nil ?_
  refine hK15 _ _ ?_; (try clear hK15 K14)
  refine wp_block ?_
  refine lp (σ := Nat) (fun m17 f18 w19 => ∃ (g16 : Nat → Value) (k : Nat) (cur : Array Value) (G1 : GH), m17 = l.length - k ∧ f18 = updL g16 [(0, .slice ad l.length cap), (2, .slice none 0 0), (3, .slice (some ⟨gb7, 0, none⟩) k l.length), (9, .slice ad l.length cap), (10, .int .i64 ((l.length : Nat) : Int)), (11, .int .i64 ((k : Nat) : Int))] ∧ I.le G1 ∧ (k ≤ l.length) ∧ (cur.size = l.length * 2 ∧ PairCells G1 (cur.toList.take (k * 2)) (l.take k)) ∧ St w0 I (ids []) G1 (([⟨gb7, cur, 56⟩] : List Bx) ++ []) w19) (fun m => m) (l.length) ⟨_, 0, cur8, I, rfl, updL_self (.cons rfl (.cons rfl (.cons rfl (.cons rfl (.cons rfl (.cons rfl .nil)))))), GH.le.refl _, (Nat.zero_le _), ⟨hc10, by simp [PairCells]⟩, hs11⟩ ?_
  clear hs11
  rintro m17 f18 w19 ⟨g16, k, cur, G1, rfl, rfl, le21, hkl, hq, hs20⟩
  refine wp_seq_k fun K22 hK23 => ?_
  refine wl_begin ?_
  refine sq (r_lti rfl rfl rfl rfl) rfl ?_
  refine wl_nil ?_
  refine hK23 _ _ ?_; (try clear hK23 K22)
  refine wp_seq_k fun K24 hK25 => ?_
  refine condS rfl rfl (fun h26 => ?_) (fun h26 => ?_)
  ·
    have p27 := of_decide_eq_true h26
    have hlt : k < l.length := by omega
    obtain ⟨b, off, cs, T0, fz, kv, xv, rfl, hb, hcs, hk, hx⟩ := PairsAt.at hl hlt
    have hsm1 := hsm l[k] (List.getElem_mem hlt)
    refine wp_skip ?_
    refine hK25 _ _ ?_; (try clear hK25 K24)
    refine wp_seq_k fun K28 hK29 => ?_
    refine wp_block ?_
    refine wp_seq_k fun K30 hK31 => ?_
    refine wl_begin ?_
    refine sq (r_index (e := 56) (sz := 2) (i := k) rfl rfl (by kernel_rfl) rfl rfl (by omega)) rfl ?_
    refine sq (r_loadN (m := 2) rfl (by kernel_rfl) rfl (hs20.imm (le21 _ _ hb)) hcs rfl) rfl ?_
    refine sqo rfl fun K32 hK33 => ow_newbox (mk := fun b => .pointer (some ⟨b, 0, none⟩)) hs20 (r_alloc (cs := [.slice none 0 0, .slice none 0 0]) (by kernel_rfl)) rfl ?_
    rintro b34 w35 (hs36 : St w0 I (ids []) G1 (⟨b34, #[.slice none 0 0, .slice none 0 0], 56⟩ :: (([⟨gb7, cur, 56⟩] : List Bx) ++ [])) w35)
    clear hs20
    refine hK33 _ _ ?_; clear hK33 K32
    refine sqo rfl fun K37 hK38 => ow_store (vs := [kv, xv]) hs36 rfl rfl (by kernel_rfl) rfl rfl (.cons (hk).one (.cons (hx).one .nil)) rfl ?_
    rintro w39 (hs40 : St w0 I (ids []) G1 (⟨b34, #[kv, xv], 56⟩ :: (([⟨gb7, cur, 56⟩] : List Bx) ++ [])) w39)
    clear hs36
    refine hK38 _ _ ?_; clear hK38 K37
    refine wl_nil ?_
    refine hK31 _ _ ?_; (try clear hK31 K30)
    refine draw_begin (S := SS G1 [⟨b34, #[kv, xv], 56⟩]) (by kernel_rfl) ?_
    have hs41 := hs40.drew; clear hs40
    have hss := hs41.ss (I := G1) (GH.le.refl _) (SubL.sub (.cons (.head _) .nil))
    refine dt 0 rfl (by kernel_rfl) (fun _ _ _ h => h) hss (fun _ h => r_move rfl) rfl ?_
    refine nrmD (vals := [(0, .slice (some ⟨b, off, none⟩) l.length cap), (2, .slice none 0 0), (3, .slice (some ⟨gb7, 0, none⟩) k l.length), (5, .pointer (some ⟨b34, 0, none⟩)), (9, .slice (some ⟨b, off, none⟩) l.length cap), (10, .int .i64 ((l.length : Nat) : Int)), (11, .int .i64 ((k : Nat) : Int)), (12, .bool (decide (((k : Nat) : Int) < ((l.length : Nat) : Int)))), (15, .slice (some ⟨gb7, 0, none⟩) k l.length)]) (.cons rfl (.cons rfl (.cons rfl (.cons rfl (.cons rfl (.cons rfl (.cons rfl (.cons rfl (.cons rfl .nil))))))))) fun g42 => ?_
    refine dt 1 rfl (by kernel_rfl) (fun _ _ _ h => h) hss (fun _ h => (r_fieldAddr (off := 0) rfl (by kernel_rfl) rfl)) rfl ?_
    refine dt 2 rfl (by kernel_rfl) (fun _ _ _ h => h) hss (fun _ h => r_load rfl (by kernel_rfl) rfl (h.box (.head _)) rfl) rfl ?_
    refine dt 4 rfl (by kernel_rfl) (fun _ _ _ h => h) hss (fun _ h => (r_fieldAddr (off := 1) rfl (by kernel_rfl) rfl)) rfl ?_
    refine dt 5 rfl (by kernel_rfl) (fun _ _ _ h => h) hss (fun _ h => r_load rfl (by kernel_rfl) rfl (h.box (.head _)) rfl) rfl ?_
    refine dro 3 (by kernel_rfl) rfl (ow_call (X := []) (L := (⟨b34, #[kv, xv], 56⟩ :: (([⟨gb7, cur, 56⟩] : List Bx) ++ []))) (lb := []) hs41 (clone_ok (hk.up le21) hsm1.1) (by kernel_rfl) rfl rfl rfl rfl rfl ?_)
    rintro cv43 G2 X1 w45 hc44 le48 hs46 hid47
    obtain rfl : X1 = [] := List.map_eq_nil_iff.1 hid47
    replace hs46 : St w0 I (ids []) G2 (⟨b34, #[kv, xv], 56⟩ :: (([⟨gb7, cur, 56⟩] : List Bx) ++ [])) w45 := hs46
    clear hs41 hid47
    replace hss := hs46.ss (I := G1) le48 (SubL.sub (.cons (.head _) .nil))
    refine ⟨hss, ?_⟩
    refine dro 6 (by kernel_rfl) rfl (ow_call (X := []) (L := (⟨b34, #[kv, xv], 56⟩ :: (([⟨gb7, cur, 56⟩] : List Bx) ++ []))) (lb := []) hs46 (clone_ok (hx.up (le21.trans le48)) hsm1.2) (by kernel_rfl) rfl rfl rfl rfl rfl ?_)
    rintro cv49 G3 X1 w51 hc50 le54 hs52 hid53
    obtain rfl : X1 = [] := List.map_eq_nil_iff.1 hid53
    replace hs52 : St w0 I (ids []) G3 (⟨b34, #[kv, xv], 56⟩ :: (([⟨gb7, cur, 56⟩] : List Bx) ++ [])) w51 := hs52
    clear hs46 hid53
    replace hss := hs52.ss (I := G1) (le48.trans le54) (SubL.sub (.cons (.head _) .nil))
    refine ⟨hss, ?_⟩
    refine dt 7 rfl (by kernel_rfl) (fun _ _ _ h => h) hss (fun _ h => (r_build (.cons rfl (One.cells (hc44).one) (.cons rfl (One.cells (hc50).one) .nil)) (cells := #[cv43, cv49]) (by kernel_rfl))) rfl ?_
    refine dro 8 (by kernel_rfl) rfl (ow_newimm (mk := fun b => .slice (some ⟨b, 0, none⟩) 1 1) hs52 (r_buildSlice (e := 56) (cells := #[cv43, cv49]) (.cons rfl rfl .nil) (by kernel_rfl)) rfl ?_)
    rintro b55 G4 w56 hb57 le58 hs59 ge60
    clear hs52
    replace hb57 : G4 b55 = some (.cells #[cv43, cv49] 56 (0, 0)) := hb57
    replace hss := hs59.ss (I := G1) ((le48.trans le54).trans le58) (SubL.sub (.cons (.head _) .nil))
    refine ⟨hss, ?_⟩
    have hs61 : St w0 I (ids []) G4 (([⟨gb7, cur, 56⟩] : List Bx) ++ ([⟨b34, #[kv, xv], 56⟩] : List Bx)) w56 := hs59.perm (List.Perm.trans ((List.Perm.refl _).cons _) (List.perm_middle (l₁ := (([⟨gb7, cur, 56⟩] : List Bx) : List Bx)) (a := (⟨b34, #[kv, xv], 56⟩ : Bx)) (l₂ := [])).symm); clear hs59
    refine dro 9 (by kernel_rfl) rfl (ow_appendRoom (L := [⟨b34, #[kv, xv], 56⟩]) (E := 56) (sz := 2) (bytes := 48) (news := [cv43, cv49]) hs61 (by kernel_rfl) rfl rfl rfl rfl rfl (SliceAt.news (m := 2) (hs61.imm hb57) rfl) (ones_old (.cons (hc44).one (.cons (hc50).one .nil))) hq.1 (by omega) rfl ?_)
    rintro cur62 w63 hc65 ht66 hs64
    replace hs64 : St w0 I (ids []) G4 (([⟨gb7, cur62, 56⟩] : List Bx) ++ ([⟨b34, #[kv, xv], 56⟩] : List Bx)) w63 := hs64; clear hs61
    replace hss := hs64.ss (I := G1) ((le48.trans le54).trans le58) (SubL.sub (.cons (List.mem_append_right _ (.head _)) .nil))
    refine ⟨hss, ?_⟩
    refine dt 10 rfl (by kernel_rfl) (fun _ _ _ h => h) hss (fun _ h => r_assign rfl) rfl ?_
    refine draw_done (by kernel_rfl) ?_
    refine hK29 _ _ ?_; (try clear hK29 K28)
    refine wl_begin ?_
    refine sq (r_addi rfl rfl rfl rfl (by omega)) rfl ?_
    refine sq (r_move rfl) rfl ?_
    refine wl_nil ?_
    have hs67 : St w0 I (ids []) G4 (⟨b34, #[kv, xv], 56⟩ :: (([⟨gb7, cur62, 56⟩] : List Bx) ++ [])) w63 := hs64.perm (List.Perm.trans ((List.Perm.refl _).append_left _) (List.perm_middle (l₁ := (([⟨gb7, cur62, 56⟩] : List Bx) : List Bx)) (a := (⟨b34, #[kv, xv], 56⟩ : Bx)) (l₂ := []))); clear hs64
    have hs68 : St w0 I (ids []) G4 (([⟨gb7, cur62, 56⟩] : List Bx) ++ []) w63 := hs67.drop
    exact ⟨_, _, rfl, ⟨_, (k + 1), cur62, G4, rfl, updL_self (.cons rfl (.cons rfl (.cons rfl (.cons rfl (.cons rfl (.cons rfl .nil)))))), (((le21.trans le48).trans le54).trans le58), (by omega), ⟨hc65, by rw [ht66, List.take_succ_eq_append_getElem hlt]; exact (hq.2.up ((le48.trans le54).trans le58)).snoc (hc44.up (le54.trans le58)) (hc50.up le58)⟩, hs68⟩, (by omega)⟩
  ·
    have p69 := of_decide_eq_false h26
    obtain rfl : k = l.length := by omega
    refine wp_exit ?_
    refine hK13 _ _ ?_; (try clear hK13 K12)
    refine wp_seq_k fun K70 hK71 => ?_
    refine wl_begin ?_
    refine sq (r_move rfl) rfl ?_
    refine sq (r_assign rfl) rfl ?_
    refine wl_nil ?_
    refine hK71 _ _ ?_; (try clear hK71 K70)
    refine wp_ret ?_
    exact leaveO (X' := []) (N := ([⟨gb7, cur, 56⟩] : List Bx)) (L := []) hs20 rfl (res_one (v := .slice (some ⟨gb7, 0, none⟩) l.length l.length) rfl (.tmp rfl rfl .nil)) ⟨gb7, l.length, cur, rfl, rfl, hq.1, Nat.le_refl _, by simp only [maxLen]; omega, by have := hq.2; rwa [List.take_length] at this⟩
end Go.Proofs.YtlnlodfnplkckaaDoor
/- The contracts of node.Leaf, node.Pair. -/
namespace Go.Proofs.YtlnlodfnplkckaaDoor
open T (Sm)
set_option linter.unusedVariables false
set_option linter.unusedSimpArgs false
theorem one_pair {I : GH} {cur : Array Value} {p : Bs × Bs} (h : PairCells I (cur.toList.take ([p].length * 2)) [p]) : ∃ kv xv, (cur.toList.drop 0).take 2 = [kv, xv] ∧ BytesAt I kv p.1 ∧ BytesAt I xv p.2 := by
  obtain ⟨kv, xv, e, h1, h2⟩ := PairCells.get (i := 0) h (by simp)
  exact ⟨kv, xv, by simpa [List.take_take] using e, h1, h2⟩
theorem lit_pair {I : GH} {b : Nat} {kv xv : Value} {k x : Bs} {T0 : TypeId} (hb : I b = some (.cells #[kv, xv] T0 (0, 0))) (hk : BytesAt I kv k) (hx : BytesAt I xv x) : PairsAt I (.slice (some ⟨b, 0, none⟩) 1 1) [(k, x)] :=
  ⟨[kv, xv], ⟨_, 1, rfl, Nat.le_refl _, (fun h => by cases h), rfl, fun _ => ⟨b, 0, _, _, _, rfl, hb, rfl⟩⟩, ⟨hk, hx, trivial⟩⟩
theorem Sm.one {k x : Bs} (h1 : k.length ≤ 1000000) (h2 : x.length ≤ 1000000) : Sm [(k, x)] := .cons h1 h2 .nil
set_option maxRecDepth 100000 in
theorem leaf_ok {I : GH} {h : Nat} {kv xv : Value} {k x : Bs} (hh : h < 2 ^ 64) (hk : BytesAt I kv k) (hx : BytesAt I xv x) (h1 : k.length ≤ 1000000) (h2 : x.length ≤ 1000000) :
    Fn Tryd.prog 111 #[.int .u64 ((h : Nat) : Int), .agg #[kv, xv]] I [] (fun v J _ => NodeAt J v (.leaf h k x)) := by
  refine enter (args := [.int .u64 ((h : Nat) : Int), .agg #[kv, xv]]) Tryd.func111 rfl rfl fun w0 hs0 => ?_
  refine wp_seq_k fun K1 hK2 => ?_
  refine wl_begin ?_
  refine sqo rfl fun K3 hK4 => ow_newbox (mk := fun b => .pointer (some ⟨b, 0, none⟩)) hs0 (r_box rfl rfl) rfl ?_
  rintro b5 w6 (hs7 : St w0 I (ids []) I [⟨b5, #[kv, xv], 56⟩] w6)
  clear hs0
  refine hK4 _ _ ?_; clear hK4 K3
  refine sq (r_assign rfl) rfl ?_
  refine wl_nil ?_
  refine hK2 _ _ ?_; (try clear hK2 K1)
  refine wp_seq_k fun K8 hK9 => ?_
  refine wl_begin ?_
  refine sq (r_move rfl) rfl ?_
  refine sq (r_loadN (m := 2) rfl (by kernel_rfl) rfl (hs7.box (.head _)) rfl rfl) rfl ?_
  refine sqo rfl fun K10 hK11 => ow_newimm (mk := fun b => .slice (some ⟨b, 0, none⟩) 1 1) hs7 (r_buildSlice (e := 56) (cells := #[kv, xv]) (.cons rfl rfl .nil) (by kernel_rfl)) rfl ?_
  rintro b12 G1 w13 hb14 le15 hs16 ge17
  clear hs7
  replace hb14 : G1 b12 = some (.cells #[kv, xv] 56 (0, 0)) := hb14
  refine hK11 _ _ ?_; clear hK11 K10
  refine sqo rfl fun K18 hK19 => ow_callO (X := []) (L := [⟨b5, #[kv, xv], 56⟩]) (lb := []) hs16 (own_list_ok (lit_pair hb14 (hk.up le15) (hx.up le15)) (Sm.one h1 h2) (by simp)) (by kernel_rfl) rfl rfl rfl rfl rfl ?_
  rintro _ G2 X1 N27 w33 ⟨gb20, cap21, cur22, rfl, rfl, hz23, hcap24, hmx25, pc26⟩ le36 hs34 hid35
  obtain rfl : X1 = [] := List.map_eq_nil_iff.1 hid35
  replace hs34 : St w0 I (ids []) G2 (([⟨gb20, cur22, 56⟩] : List Bx) ++ ([⟨b5, #[kv, xv], 56⟩] : List Bx)) w33 := hs34
  clear hs16 hid35
  obtain ⟨kv28, xv29, el30, hk31, hx32⟩ := one_pair pc26
  replace hs34 : St w0 I (ids []) G2 [⟨gb20, cur22, 56⟩, ⟨b5, #[kv, xv], 56⟩] w33 := hs34
  refine hK19 _ _ ?_; clear hK19 K18
  refine sq (r_index (e := 56) (sz := 2) (i := 0) rfl rfl (by kernel_rfl) rfl rfl (by first | decide | exact Nat.zero_lt_succ _)) rfl ?_
  refine sq (r_loadN (m := 2) rfl (by kernel_rfl) rfl (hs34.box (.head _)) el30 rfl) rfl ?_
  refine sq (r_build (.cons rfl rfl (.cons rfl rfl .nil)) (cells := #[.int .u64 ((h : Nat) : Int), kv28, xv29]) (by kernel_rfl)) rfl ?_
  refine sqo rfl fun K37 hK38 => ow_newimm (mk := fun b => .pointer (some ⟨b, 0, none⟩)) hs34 (r_box rfl rfl) rfl ?_
  rintro b39 G3 w40 hb41 le42 hs43 ge44
  clear hs34
  replace hb41 : G3 b39 = some (.cells #[.int .u64 ((h : Nat) : Int), kv28, xv29] 159 (0, 0)) := hb41
  refine hK38 _ _ ?_; clear hK38 K37
  refine sq (r_makeIf rfl (by kernel_rfl)) rfl ?_
  refine sq (r_assign rfl) rfl ?_
  refine wl_nil ?_
  refine hK9 _ _ ?_; (try clear hK9 K8)
  refine wp_ret ?_
  exact leave (X' := []) (L := [⟨gb20, cur22, 56⟩, ⟨b5, #[kv, xv], 56⟩]) hs43 rfl (res_one (v := .iface 157 (.pointer (some ⟨b39, 0, none⟩))) rfl (.tmp rfl rfl .nil)) ⟨b39, kv28, xv29, rfl, hb41, (hk31.up le42), (hx32.up le42), hh⟩
/-- A leaf's pair; of any other node the empty one. -/
def N.pair : N → Bs × Bs
  | .leaf _ k x => (k, x)
  | _ => ([], [])
set_option maxRecDepth 100000 in
theorem pair_of_ok {I : GH} {v : Value} {n : N} (hn : NodeAt I v n) (hsm : n.pair.1.length ≤ 1000000 ∧ n.pair.2.length ≤ 1000000) :
    Fn Tryd.prog 58 #[v] I [] (fun u J _ => ∃ kv xv, u = .tuple #[.agg #[kv, xv], .bool (decide (n.kind = 1))] ∧ BytesAt J kv n.pair.1 ∧ BytesAt J xv n.pair.2) := by
  cases n with
  | none =>
    obtain rfl : v = .nilIface := hn
    have h1 := hsm.1
    have h2 := hsm.2
    refine enter (args := [.nilIface]) Tryd.func58 rfl rfl fun w0 hs0 => ?_
    refine wp_seq_k fun K1 hK2 => ?_
    refine wl_begin ?_
    refine sqo rfl fun K3 hK4 => ow_newbox (mk := fun b => .pointer (some ⟨b, 0, none⟩)) hs0 (r_alloc (cs := [.slice none 0 0, .slice none 0 0]) (by kernel_rfl)) rfl ?_
    rintro b5 w6 (hs7 : St w0 I (ids []) I [⟨b5, #[.slice none 0 0, .slice none 0 0], 56⟩] w6)
    clear hs0
    refine hK4 _ _ ?_; clear hK4 K3
    refine sq (r_assign rfl) rfl ?_
    refine wl_nil ?_
    refine hK2 _ _ ?_; (try clear hK2 K1)
    refine wp_seq_k fun K8 hK9 => ?_
    refine wp_seq_k fun K10 hK11 => ?_
    refine wl_begin ?_
    refine sq (r_move rfl) rfl ?_
    refine sq (r_taNil (z := (.pointer none)) rfl (by kernel_rfl) (by kernel_rfl) rfl) rfl ?_
    refine sq (r_move rfl) rfl ?_
    refine sq (r_extract rfl rfl rfl) rfl ?_
    refine sq (r_extract rfl rfl rfl) rfl ?_
    refine sq (r_assign rfl) rfl ?_
    refine sq (r_assign rfl) rfl ?_
    refine wl_nil ?_
    refine hK11 _ _ ?_; (try clear hK11 K10)
    refine wp_seq_k fun K12 hK13 => ?_
    refine wl_begin ?_
    refine sq (r_move rfl) rfl ?_
    refine wl_nil ?_
    refine hK13 _ _ ?_; (try clear hK13 K12)
    refine condF rfl rfl ?_
    refine wp_skip ?_
    refine hK9 _ _ ?_; (try clear hK9 K8)
    refine wp_seq_k fun K14 hK15 => ?_
    refine wl_begin ?_
    refine sq (r_build .nil (cells := #[.slice none 0 0, .slice none 0 0]) (by kernel_rfl)) rfl ?_
    refine sqo rfl fun K16 hK17 => ow_store (vs := [.slice none 0 0, .slice none 0 0]) hs7 rfl rfl (by kernel_rfl) rfl rfl (.cons trivial (.cons trivial .nil)) rfl ?_
    rintro w18 (hs19 : St w0 I (ids []) I [⟨b5, #[.slice none 0 0, .slice none 0 0], 56⟩] w18)
    clear hs7
    refine hK17 _ _ ?_; clear hK17 K16
    refine sq (r_assign rfl) rfl ?_
    refine wl_nil ?_
    refine hK15 _ _ ?_; (try clear hK15 K14)
    refine wp_ret ?_
    exact leave (X' := []) (L := [⟨b5, #[.slice none 0 0, .slice none 0 0], 56⟩]) hs19 rfl (res_many (vs := [.agg #[.slice none 0 0, .slice none 0 0], .bool false]) rfl (.agg (m := 2) rfl rfl (by kernel_rfl) (hs19.box (.head _)) rfl rfl (.tmp rfl rfl .nil)) rfl) ⟨_, _, rfl, BytesAt.nil _, BytesAt.nil _⟩
  | leaf h k x =>
    have hn0 := hn
    obtain ⟨b, kv, xv, rfl, hb, hk, hx, hh⟩ := hn0
    have h1 := hsm.1
    have h2 := hsm.2
    refine enter (args := [.iface 157 (.pointer (some ⟨b, 0, none⟩))]) Tryd.func58 rfl rfl fun w0 hs0 => ?_
    refine wp_seq_k fun K1 hK2 => ?_
    refine wl_begin ?_
    refine sqo rfl fun K3 hK4 => ow_newbox (mk := fun b => .pointer (some ⟨b, 0, none⟩)) hs0 (r_alloc (cs := [.slice none 0 0, .slice none 0 0]) (by kernel_rfl)) rfl ?_
    rintro b5 w6 (hs7 : St w0 I (ids []) I [⟨b5, #[.slice none 0 0, .slice none 0 0], 56⟩] w6)
    clear hs0
    refine hK4 _ _ ?_; clear hK4 K3
    refine sq (r_assign rfl) rfl ?_
    refine wl_nil ?_
    refine hK2 _ _ ?_; (try clear hK2 K1)
    refine wp_seq_k fun K8 hK9 => ?_
    refine wp_seq_k fun K10 hK11 => ?_
    refine wl_begin ?_
    refine sq (r_move rfl) rfl ?_
    refine sq (r_taYes rfl (by kernel_rfl) rfl) rfl ?_
    refine sq (r_move rfl) rfl ?_
    refine sq (r_extract rfl rfl rfl) rfl ?_
    refine sq (r_extract rfl rfl rfl) rfl ?_
    refine sq (r_assign rfl) rfl ?_
    refine sq (r_assign rfl) rfl ?_
    refine wl_nil ?_
    refine hK11 _ _ ?_; (try clear hK11 K10)
    refine wp_seq_k fun K12 hK13 => ?_
    refine wl_begin ?_
    refine sq (r_move rfl) rfl ?_
    refine wl_nil ?_
    refine hK13 _ _ ?_; (try clear hK13 K12)
    refine condT rfl rfl ?_
    refine wp_seq_k fun K14 hK15 => ?_
    refine wl_begin ?_
    refine sq (r_move rfl) rfl ?_
    refine sq (r_nilCheck rfl rfl) rfl ?_
    refine sq (r_fieldAddr (off := 1) rfl (by kernel_rfl) rfl) rfl ?_
    refine sq (r_loadN (m := 2) rfl (by kernel_rfl) rfl (hs7.imm hb) rfl rfl) rfl ?_
    refine sqo rfl fun K16 hK17 => ow_newimm (mk := fun b => .slice (some ⟨b, 0, none⟩) 1 1) hs7 (r_buildSlice (e := 56) (cells := #[kv, xv]) (.cons rfl rfl .nil) (by kernel_rfl)) rfl ?_
    rintro b18 G1 w19 hb20 le21 hs22 ge23
    clear hs7
    replace hb20 : G1 b18 = some (.cells #[kv, xv] 56 (0, 0)) := hb20
    refine hK17 _ _ ?_; clear hK17 K16
    refine sqo rfl fun K24 hK25 => ow_callO (X := []) (L := [⟨b5, #[.slice none 0 0, .slice none 0 0], 56⟩]) (lb := []) hs22 (own_list_ok (lit_pair hb20 (hk.up le21) (hx.up le21)) (Sm.one h1 h2) (by simp)) (by kernel_rfl) rfl rfl rfl rfl rfl ?_
    rintro _ G2 X1 N33 w39 ⟨gb26, cap27, cur28, rfl, rfl, hz29, hcap30, hmx31, pc32⟩ le42 hs40 hid41
    obtain rfl : X1 = [] := List.map_eq_nil_iff.1 hid41
    replace hs40 : St w0 I (ids []) G2 (([⟨gb26, cur28, 56⟩] : List Bx) ++ ([⟨b5, #[.slice none 0 0, .slice none 0 0], 56⟩] : List Bx)) w39 := hs40
    clear hs22 hid41
    obtain ⟨kv34, xv35, el36, hk37, hx38⟩ := one_pair pc32
    replace hs40 : St w0 I (ids []) G2 [⟨gb26, cur28, 56⟩, ⟨b5, #[.slice none 0 0, .slice none 0 0], 56⟩] w39 := hs40
    refine hK25 _ _ ?_; clear hK25 K24
    refine sq (r_index (e := 56) (sz := 2) (i := 0) rfl rfl (by kernel_rfl) rfl rfl (by first | decide | exact Nat.zero_lt_succ _)) rfl ?_
    refine sq (r_loadN (m := 2) rfl (by kernel_rfl) rfl (hs40.box (.head _)) el36 rfl) rfl ?_
    have hs45 : St w0 I (ids []) G2 [⟨b5, #[.slice none 0 0, .slice none 0 0], 56⟩, ⟨gb26, cur28, 56⟩] w39 := hs40.perm (List.Perm.trans ((List.Perm.refl _).cons _) (List.Perm.swap _ _ _)); clear hs40
    refine sqo rfl fun K43 hK44 => ow_store (vs := [kv34, xv35]) hs45 rfl rfl (by kernel_rfl) rfl rfl (.cons (hk37).one (.cons (hx38).one .nil)) rfl ?_
    rintro w46 (hs47 : St w0 I (ids []) G2 [⟨b5, #[kv34, xv35], 56⟩, ⟨gb26, cur28, 56⟩] w46)
    clear hs45
    refine hK44 _ _ ?_; clear hK44 K43
    refine sq (r_assign rfl) rfl ?_
    refine wl_nil ?_
    refine hK15 _ _ ?_; (try clear hK15 K14)
    refine wp_ret ?_
    exact leave (X' := []) (L := [⟨b5, #[kv34, xv35], 56⟩, ⟨gb26, cur28, 56⟩]) hs47 rfl (res_many (vs := [.agg #[kv34, xv35], .bool true]) rfl (.agg (m := 2) rfl rfl (by kernel_rfl) (hs47.box (.head _)) rfl rfl (.tmp rfl rfl .nil)) rfl) ⟨_, _, rfl, hk37, hx38⟩
  | bucket h t =>
    have hn0 := hn
    obtain ⟨b, p, rfl, hb, ht, hh⟩ := hn0
    have h1 := hsm.1
    have h2 := hsm.2
    refine enter (args := [.iface 160 (.pointer (some ⟨b, 0, none⟩))]) Tryd.func58 rfl rfl fun w0 hs0 => ?_
    refine wp_seq_k fun K1 hK2 => ?_
    refine wl_begin ?_
    refine sqo rfl fun K3 hK4 => ow_newbox (mk := fun b => .pointer (some ⟨b, 0, none⟩)) hs0 (r_alloc (cs := [.slice none 0 0, .slice none 0 0]) (by kernel_rfl)) rfl ?_
    rintro b5 w6 (hs7 : St w0 I (ids []) I [⟨b5, #[.slice none 0 0, .slice none 0 0], 56⟩] w6)
    clear hs0
    refine hK4 _ _ ?_; clear hK4 K3
    refine sq (r_assign rfl) rfl ?_
    refine wl_nil ?_
    refine hK2 _ _ ?_; (try clear hK2 K1)
    refine wp_seq_k fun K8 hK9 => ?_
    refine wp_seq_k fun K10 hK11 => ?_
    refine wl_begin ?_
    refine sq (r_move rfl) rfl ?_
    refine sq (r_taNo (z := (.pointer none)) rfl (by kernel_rfl) (by kernel_rfl) rfl rfl) rfl ?_
    refine sq (r_move rfl) rfl ?_
    refine sq (r_extract rfl rfl rfl) rfl ?_
    refine sq (r_extract rfl rfl rfl) rfl ?_
    refine sq (r_assign rfl) rfl ?_
    refine sq (r_assign rfl) rfl ?_
    refine wl_nil ?_
    refine hK11 _ _ ?_; (try clear hK11 K10)
    refine wp_seq_k fun K12 hK13 => ?_
    refine wl_begin ?_
    refine sq (r_move rfl) rfl ?_
    refine wl_nil ?_
    refine hK13 _ _ ?_; (try clear hK13 K12)
    refine condF rfl rfl ?_
    refine wp_skip ?_
    refine hK9 _ _ ?_; (try clear hK9 K8)
    refine wp_seq_k fun K14 hK15 => ?_
    refine wl_begin ?_
    refine sq (r_build .nil (cells := #[.slice none 0 0, .slice none 0 0]) (by kernel_rfl)) rfl ?_
    refine sqo rfl fun K16 hK17 => ow_store (vs := [.slice none 0 0, .slice none 0 0]) hs7 rfl rfl (by kernel_rfl) rfl rfl (.cons trivial (.cons trivial .nil)) rfl ?_
    rintro w18 (hs19 : St w0 I (ids []) I [⟨b5, #[.slice none 0 0, .slice none 0 0], 56⟩] w18)
    clear hs7
    refine hK17 _ _ ?_; clear hK17 K16
    refine sq (r_assign rfl) rfl ?_
    refine wl_nil ?_
    refine hK15 _ _ ?_; (try clear hK15 K14)
    refine wp_ret ?_
    exact leave (X' := []) (L := [⟨b5, #[.slice none 0 0, .slice none 0 0], 56⟩]) hs19 rfl (res_many (vs := [.agg #[.slice none 0 0, .slice none 0 0], .bool false]) rfl (.agg (m := 2) rfl rfl (by kernel_rfl) (hs19.box (.head _)) rfl rfl (.tmp rfl rfl .nil)) rfl) ⟨_, _, rfl, BytesAt.nil _, BytesAt.nil _⟩
  | branch m kids =>
    have hn0 := hn
    obtain ⟨b, sv, vs, rfl, hb, hs, hks, hm⟩ := hn0
    have h1 := hsm.1
    have h2 := hsm.2
    refine enter (args := [.iface 133 (.pointer (some ⟨b, 0, none⟩))]) Tryd.func58 rfl rfl fun w0 hs0 => ?_
    refine wp_seq_k fun K1 hK2 => ?_
    refine wl_begin ?_
    refine sqo rfl fun K3 hK4 => ow_newbox (mk := fun b => .pointer (some ⟨b, 0, none⟩)) hs0 (r_alloc (cs := [.slice none 0 0, .slice none 0 0]) (by kernel_rfl)) rfl ?_
    rintro b5 w6 (hs7 : St w0 I (ids []) I [⟨b5, #[.slice none 0 0, .slice none 0 0], 56⟩] w6)
    clear hs0
    refine hK4 _ _ ?_; clear hK4 K3
    refine sq (r_assign rfl) rfl ?_
    refine wl_nil ?_
    refine hK2 _ _ ?_; (try clear hK2 K1)
    refine wp_seq_k fun K8 hK9 => ?_
    refine wp_seq_k fun K10 hK11 => ?_
    refine wl_begin ?_
    refine sq (r_move rfl) rfl ?_
    refine sq (r_taNo (z := (.pointer none)) rfl (by kernel_rfl) (by kernel_rfl) rfl rfl) rfl ?_
    refine sq (r_move rfl) rfl ?_
    refine sq (r_extract rfl rfl rfl) rfl ?_
    refine sq (r_extract rfl rfl rfl) rfl ?_
    refine sq (r_assign rfl) rfl ?_
    refine sq (r_assign rfl) rfl ?_
    refine wl_nil ?_
    refine hK11 _ _ ?_; (try clear hK11 K10)
    refine wp_seq_k fun K12 hK13 => ?_
    refine wl_begin ?_
    refine sq (r_move rfl) rfl ?_
    refine wl_nil ?_
    refine hK13 _ _ ?_; (try clear hK13 K12)
    refine condF rfl rfl ?_
    refine wp_skip ?_
    refine hK9 _ _ ?_; (try clear hK9 K8)
    refine wp_seq_k fun K14 hK15 => ?_
    refine wl_begin ?_
    refine sq (r_build .nil (cells := #[.slice none 0 0, .slice none 0 0]) (by kernel_rfl)) rfl ?_
    refine sqo rfl fun K16 hK17 => ow_store (vs := [.slice none 0 0, .slice none 0 0]) hs7 rfl rfl (by kernel_rfl) rfl rfl (.cons trivial (.cons trivial .nil)) rfl ?_
    rintro w18 (hs19 : St w0 I (ids []) I [⟨b5, #[.slice none 0 0, .slice none 0 0], 56⟩] w18)
    clear hs7
    refine hK17 _ _ ?_; clear hK17 K16
    refine sq (r_assign rfl) rfl ?_
    refine wl_nil ?_
    refine hK15 _ _ ?_; (try clear hK15 K14)
    refine wp_ret ?_
    exact leave (X' := []) (L := [⟨b5, #[.slice none 0 0, .slice none 0 0], 56⟩]) hs19 rfl (res_many (vs := [.agg #[.slice none 0 0, .slice none 0 0], .bool false]) rfl (.agg (m := 2) rfl rfl (by kernel_rfl) (hs19.box (.head _)) rfl rfl (.tmp rfl rfl .nil)) rfl) ⟨_, _, rfl, BytesAt.nil _, BytesAt.nil _⟩
end Go.Proofs.YtlnlodfnplkckaaDoor
/- The contract of node.Bucket. -/
namespace Go.Proofs.YtlnlodfnplkckaaDoor
open T (Sm)
set_option linter.unusedVariables false
set_option linter.unusedSimpArgs false
/-- The node of a hash and a tree. -/
def N.ofTree (h : Nat) : T → N
  | .nil => .none
  | .node .nil k x .nil => .leaf h k x
  | t => .bucket h t
theorem T.size_one {t : T} (h : t.size = 1) : ∃ k x, t = .node .nil k x .nil := by
  cases t with
  | nil => cases h
  | node l k x r =>
    cases l with
    | nil =>
      cases r with
      | nil => exact ⟨k, x, rfl⟩
      | node _ _ _ _ => simp only [T.size] at h; omega
    | node _ _ _ _ => simp only [T.size] at h; omega
theorem T.size_zero {t : T} (h : t.size = 0) : t = .nil := by
  cases t with
  | nil => rfl
  | node l k x r => simp only [T.size] at h; omega
theorem N.ofTree_big {h : Nat} {t : T} (h0 : t.size ≠ 0) (h1 : t.size ≠ 1) : N.ofTree h t = .bucket h t := by
  unfold N.ofTree
  split
  · exact absurd rfl h0
  · exact absurd rfl h1
  · rfl
set_option maxRecDepth 100000 in
theorem bucket_ok {I : GH} {h : Nat} {p : Option Addr} {t : T} (hh : h < 2 ^ 64) (ht : TreeAt I p t) (hsm : Sm t.toList) :
    Fn Tryd.prog 82 #[.int .u64 ((h : Nat) : Int), .pointer p] I [] (fun v J _ => NodeAt J v (N.ofTree h t)) := by
  refine enter (args := [.int .u64 ((h : Nat) : Int), .pointer p]) Tryd.func82 rfl rfl fun w0 hs0 => ?_
  refine wp_seq_k fun K1 hK2 => ?_
  refine wl_begin ?_
  refine sq (r_assign rfl) rfl ?_
  refine wl_nil ?_
  refine hK2 _ _ ?_; (try clear hK2 K1)
  refine wp_seq_k fun K3 hK4 => ?_
  refine wp_seq_k fun K5 hK6 => ?_
  refine wl_begin ?_
  refine sq (r_move rfl) rfl ?_
  refine sqo rfl fun K7 hK8 => ow_call (X := []) (L := []) (lb := []) hs0 (tsize_ok ht) (by kernel_rfl) rfl rfl rfl rfl rfl ?_
  rintro _ _ X1 w9 ⟨rfl, rfl⟩ - hs10 hid11
  obtain rfl : X1 = [] := List.map_eq_nil_iff.1 hid11
  replace hs10 : St w0 I (ids []) I [] w9 := hs10
  clear hs0 hid11
  refine hK8 _ _ ?_; clear hK8 K7
  refine wl_nil ?_
  refine hK6 _ _ ?_; (try clear hK6 K5)
  refine wp_block ?_
  refine wp_seq_k fun K12 hK13 => ?_
  refine wl_begin ?_
  refine sq (r_eqi rfl rfl rfl rfl) rfl ?_
  refine sq (r_assign rfl) rfl ?_
  refine wl_nil ?_
  refine hK13 _ _ ?_; (try clear hK13 K12)
  refine condS rfl rfl (fun h14 => ?_) (fun h14 => ?_)
  ·
    have p15 := of_decide_eq_true h14
    have z0 : t.size = 0 := by omega
    refine wp_seq_k fun K16 hK17 => ?_
    refine wl_begin ?_
    refine sq (r_assign rfl) rfl ?_
    refine wl_nil ?_
    refine hK17 _ _ ?_; (try clear hK17 K16)
    refine wp_ret ?_
    exact leave (X' := []) (L := []) hs10 rfl (res_one (v := .nilIface) rfl (.tmp rfl rfl .nil)) (by rw [T.size_zero z0]; rfl)
  ·
    have p18 := of_decide_eq_false h14
    have z0 : ¬ t.size = 0 := by omega
    refine wp_seq_k fun K19 hK20 => ?_
    refine wl_begin ?_
    refine sq (r_eqi rfl rfl rfl rfl) rfl ?_
    refine sq (r_assign rfl) rfl ?_
    refine wl_nil ?_
    refine hK20 _ _ ?_; (try clear hK20 K19)
    refine condS rfl rfl (fun h21 => ?_) (fun h21 => ?_)
    ·
      have p22 := of_decide_eq_true h21
      have z1 : t.size = 1 := by omega
      obtain ⟨k, x, et⟩ := T.size_one z1
      have ht1 := ht; rw [et] at ht1
      have sm1 := hsm; rw [et] at sm1; obtain ⟨_, s1, s2, _⟩ := T.Sm.node sm1
      refine wp_seq_k fun K23 hK24 => ?_
      refine wl_begin ?_
      refine sq (r_move rfl) rfl ?_
      refine sq (r_move rfl) rfl ?_
      refine sqo rfl fun K25 hK26 => ow_call (X := []) (L := []) (lb := []) hs10 (root_ok ht1 s1 s2) (by kernel_rfl) rfl rfl rfl rfl rfl ?_
      rintro _ G1 X1 w31 ⟨kv27, xv28, rfl, hk29, hx30⟩ le34 hs32 hid33
      obtain rfl : X1 = [] := List.map_eq_nil_iff.1 hid33
      replace hs32 : St w0 I (ids []) G1 [] w31 := hs32
      clear hs10 hid33
      refine hK26 _ _ ?_; clear hK26 K25
      refine sqo rfl fun K35 hK36 => ow_call (X := []) (L := []) (lb := []) hs32 (leaf_ok hh hk29 hx30 s1 s2) (by kernel_rfl) rfl rfl rfl rfl rfl ?_
      rintro lv37 G2 X1 w39 hn38 le42 hs40 hid41
      obtain rfl : X1 = [] := List.map_eq_nil_iff.1 hid41
      replace hs40 : St w0 I (ids []) G2 [] w39 := hs40
      clear hs32 hid41
      refine hK36 _ _ ?_; clear hK36 K35
      refine sq (r_assign rfl) rfl ?_
      refine wl_nil ?_
      refine hK24 _ _ ?_; (try clear hK24 K23)
      refine wp_ret ?_
      exact leave (X' := []) (L := []) hs40 rfl (res_one (v := lv37) rfl (.tmp rfl rfl .nil)) (by rw [et]; exact hn38)
    ·
      have p43 := of_decide_eq_false h21
      have z1 : ¬ t.size = 1 := by omega
      refine wp_skip ?_
      refine hK4 _ _ ?_; (try clear hK4 K3)
      refine wp_seq_k fun K44 hK45 => ?_
      refine wl_begin ?_
      refine sq (r_move rfl) rfl ?_
      refine sq (r_move rfl) rfl ?_
      refine sq (r_build (.cons rfl rfl (.cons rfl rfl .nil)) (cells := #[.int .u64 ((h : Nat) : Int), .pointer p]) (by kernel_rfl)) rfl ?_
      refine sqo rfl fun K46 hK47 => ow_newimm (mk := fun b => .pointer (some ⟨b, 0, none⟩)) hs10 (r_box rfl rfl) rfl ?_
      rintro b48 G3 w49 hb50 le51 hs52 ge53
      clear hs10
      replace hb50 : G3 b48 = some (.cells #[.int .u64 ((h : Nat) : Int), .pointer p] 162 (0, 0)) := hb50
      refine hK47 _ _ ?_; clear hK47 K46
      refine sq (r_makeIf rfl (by kernel_rfl)) rfl ?_
      refine sq (r_assign rfl) rfl ?_
      refine wl_nil ?_
      refine hK45 _ _ ?_; (try clear hK45 K44)
      refine wp_ret ?_
      exact leave (X' := []) (L := []) hs52 rfl (res_one (v := .iface 160 (.pointer (some ⟨b48, 0, none⟩))) rfl (.tmp rfl rfl .nil)) (by rw [N.ofTree_big z0 z1]; exact ⟨b48, p, rfl, hb50, (ht.up le51), hh⟩)
end Go.Proofs.YtlnlodfnplkckaaDoor
/- The contract of bits.Of. -/
namespace Go.Proofs.YtlnlodfnplkckaaDoor
set_option linter.unusedVariables false
set_option linter.unusedSimpArgs false
/-- The set of some numbers. -/
def ofN (l : List Nat) : Nat := l.foldl (fun (m i : Nat) => m ||| bitN (i : Int)) 0
theorem ofN_snoc (l : List Nat) (i : Nat) : ofN (l ++ [i]) = ofN l ||| bitN (i : Int) := by simp [ofN, List.foldl_append]
theorem ofN_lt (l : List Nat) : ofN l < 2 ^ 32 := by
  have key : ∀ (l : List Nat) (m : Nat), m < 2 ^ 32 → l.foldl (fun (m i : Nat) => m ||| bitN (i : Int)) m < 2 ^ 32 := by
    intro l
    induction l with
    | nil => exact fun _ h => h
    | cons i l ih => exact fun m h => ih _ (Nat.or_lt_two_pow h (bitN_lt _))
  exact key l 0 (by decide)
end Go.Proofs.YtlnlodfnplkckaaDoor
/- The engine in the body of a loop over an iterator: the rules on code in a round; the loop itself; how a function leaves behind one. Each theorem's conditions stand in it. -/
namespace Go.Proofs.YtlnlodfnplkckaaDoor
open Go.RowKit
/-- The fence that lets in all, at a round. -/
def FW (ρ : Option Nat) : Fence := { fn := fun _ => True, depth := none, alive := false, round := ρ }
/-- A walk in a round. -/
def WR (ρ : Option Nat) (P : Program) (c : Code) (Q : Exit → Act → World → Prop) (a : Act) (w : World) : Prop := c.wpIn (FW ρ) 0 P Q a w
/-- None of the operations is a defer statement. -/
def calm (l : List Oper) : Bool := l.all fun o => match o.op with
  | .defer _ => false
  | _ => true
theorem calm_of {l : List Oper} (h : calm l = true) {o : Oper} (ho : o ∈ l) : ∀ c, o.op ≠ .defer c := by
  intro c e
  have := List.all_eq_true.1 h o ho
  rw [e] at this
  cases this

section
variable {P : Program} {ops : Array Oper} {Q : Exit → Act → World → Prop} {ρ : Option Nat}
theorem oper_in {o : Oper} {a : Act} {w : World} {K K' : Act → World → Prop} (h0 : ∀ c, o.op ≠ .defer c) (hK : ∀ a w, K a w → K' a w) (h : o.wp P a w K Q) :
    o.wpIn (FW ρ) 0 P a w K' Q := by
  refine ⟨fun _ _ => trivial, ?_⟩
  rw [Oper.semAt_plain (FW ρ) _ _ h0]
  unfold Oper.wp at h
  generalize (execOp a.eval o).run P w = r at *
  cases r with
  | ok x w' =>
    cases x <;> simp only [Oper.upon] at h <;> simp only [Oper.uponIn]
    case value v => exact hK _ _ h
    case skip => exact hK _ _ h
    case defer d => exact hK _ _ h
    case enter f args =>
      refine ⟨fun h => by simp [FW] at h, ?_⟩
      have h2 : CallsIn Fence.wide 0 P f args w' _ := callsIn_wide.2 h
      exact CallsIn.mono (F := FW ρ) h2 (fun e w'' he => by cases e <;> first | exact hK _ _ he | exact he)
    case row r args =>
      refine ⟨fun h => by simp [FW] at h, ?_⟩
      intro c cs _
      obtain ⟨v, w'', h1, h2⟩ := h c cs
      exact ⟨v, w'', hK _ _ h1, (stepsIn_wide (P := P)).2 h2⟩
  | halt x w' =>
    cases x <;> simp only [Oper.upon] at h <;> simp only [Oper.uponIn]
    exact h
theorem wl_in (hq : ∀ a w, ¬ Q .outgrown a w) : ∀ (l : List Oper), calm l = true → ∀ a w, wpList P ops Q l a w → wpListIn (FW ρ) 0 P ops Q l a w := by
  intro l
  induction l with
  | nil => exact fun _ _ _ h => h
  | cons o l ih =>
    intro hc a w h
    have hc' : calm l = true := by
      simp only [calm, List.all_cons, Bool.and_eq_true] at hc
      exact hc.2
    unfold wpList at h
    unfold wpListIn
    split
    · rename_i hw
      rw [if_pos hw] at h
      rcases h with h | ⟨_, a', w', h⟩
      · exact oper_in (calm_of hc (.head _)) (fun a w h => ih hc' a w h) h
      · exact absurd h (hq _ _)
    · rename_i hw
      rw [if_neg hw] at h
      exact ⟨fun _ _ => trivial, ih hc' _ _ h⟩
theorem any_in (hq : ∀ a w, ¬ Q .outgrown a w) (hc : calm ops.toList = true) : ∀ (fuel : Nat) (listed : Array Bool) (a : Act) (w : World), wpAny P .any ops Q fuel listed a w → wpAnyIn (FW ρ) 0 P .any ops Q fuel listed a w := by
  intro fuel
  induction fuel with
  | zero => exact fun _ _ _ h => h
  | succ fuel ih =>
    intro listed a w h
    refine ⟨h.1, fun i hi => ?_⟩
    have h := h.2 i hi
    unfold wpOp at h
    unfold wpOpIn
    cases ho : ops[i]? with
    | none => simp only [ho] at h ⊢; exact ih _ _ _ h
    | some o =>
      simp only [ho] at h ⊢
      have hm : o ∈ ops.toList := by
        have : ops.toList[i]? = some o := by simpa using ho
        exact List.mem_of_getElem? this
      split
      · rename_i hw
        rw [if_pos hw] at h
        rcases h with h | ⟨_, a', w', h⟩
        · exact oper_in (calm_of hc hm) (fun a w h => ih _ a w h) h
        · exact absurd h (hq _ _)
      · rename_i hw
        rw [if_neg hw] at h
        exact ⟨fun _ _ => trivial, ih _ _ _ h⟩
end

/-! ### Code in a round -/
section
variable {P : Program} {Q : Exit → Act → World → Prop} {f : Nat → Value} {n : Fr} {w : World} {ρ : Option Nat} {S : World → Prop}
theorem wl_beginR {id : Nat} {l : List Oper} (hc : calm l = true) (hq : ∀ a w, ¬ Q .outgrown a w) (h : WL P l.toArray Q l f n w) : WR ρ P (Code.region id l.toArray false) Q (FA f n) w :=
  wpIn_region_lit (wl_in hq l hc _ _ h.h)
theorem draw_beginR {id : Nat} {l : List Oper} (hm : P.follows .mixedOrders = true) (hc : calm l = true) (hq : ∀ a w, ¬ Q .outgrown a w)
    (h : Draw P l.toArray Q S (Array.replicate l.length false) (FA f n) { w with drawn := w.drawn + 1 }) : WR ρ P (Code.region id l.toArray true) Q (FA f n) w := by
  refine wpIn_region_any hm ?_
  simp only [List.size_toArray]
  exact any_in hq (by simpa using hc) _ _ _ _ (wpAny_of_held _ _ _ _ (h _ (by simp)))
theorem condTR {c : Operand} {x y : Code} (hok : okO n c = true) (hc : ev f c = .bool true) (h : WR ρ P x Q (FA f n) w) : WR ρ P (Code.cond c x y) Q (FA f n) w :=
  wpIn_cond_true (by rw [FA_eval hok]; exact hc) h
theorem condFR {c : Operand} {x y : Code} (hok : okO n c = true) (hc : ev f c = .bool false) (h : WR ρ P y Q (FA f n) w) : WR ρ P (Code.cond c x y) Q (FA f n) w :=
  wpIn_cond_false (by rw [FA_eval hok]; exact hc) h
theorem condSR {c : Operand} {x y : Code} {t : Bool} (hok : okO n c = true) (hc : ev f c = .bool t) (h1 : t = true → WR ρ P x Q (FA f n) w) (h2 : t = false → WR ρ P y Q (FA f n) w) :
    WR ρ P (Code.cond c x y) Q (FA f n) w := wpIn_cond_split (by rw [FA_eval hok]; exact hc) h1 h2
variable {a : Act}
theorem seqR {x y : Code} (h : ∀ K : Act → World → Prop, (∀ a w, WR ρ P y Q a w → K a w) → WR ρ P x (Exit.then K Q) a w) : WR ρ P (Code.seq x y) Q a w := wpIn_seq_k h
theorem blockR {id : Nat} {c : Code} (h : WR ρ P c (Exit.inBlock id Q) a w) : WR ρ P (Code.block id c) Q a w := wpIn_block h
theorem exitR {id : Nat} (h : Q (.exit id) a w) : WR ρ P (Code.exit id) Q a w := wpIn_exit h
theorem retR (h : Q .ret a w) : WR ρ P Code.ret Q a w := wpIn_ret h
theorem skipR (h : Q .normal a w) : WR ρ P Code.skip Q a w := wpIn_skip h
end

/-! ### A new start: the world at hand is the one that all is reckoned from -/
theorem St.base {w0 : World} {I0 I : GH} {X0 : List Nat} {L : List Bx} {w : World} (h : St w0 I0 X0 I L w) : St w I (ids L) I L w :=
  ⟨h.sat, GH.le.refl _, fun _ _ => rfl, FrBut.refl _ _, h.bx, fun x hx => ⟨(h.own x hx).1, .inr (List.mem_map.2 ⟨x, hx, rfl⟩)⟩, h.nd⟩
theorem St.comp {w0 W w : World} {I0 J I : GH} {X0 : List Nat} {L1 L : List Bx} (h : St w0 I0 X0 J L1 W) (k : St W J (ids L1) I L w) : St w0 I0 X0 I L w := by
  have hx : ∀ b, b ∈ ids L1 → w0.heap.size ≤ b ∨ b ∈ X0 := by
    intro b hb
    obtain ⟨x, hx, e⟩ := List.mem_map.1 hb
    have := (h.own x hx).2
    rwa [e] at this
  refine ⟨k.sat, h.le.trans k.le, ?_, ?_, k.bx, ?_, k.nd⟩
  · intro b hb
    rw [k.old b (Nat.lt_of_lt_of_le hb h.fr.size)]; exact h.old b hb
  · refine ⟨k.fr.os.trans h.fr.os, k.fr.tape.trans h.fr.tape, k.fr.output.trans h.fr.output, Nat.le_trans h.fr.size k.fr.size, fun b hb hn => ?_⟩
    rw [k.fr.block b (Nat.lt_of_lt_of_le hb h.fr.size) (fun hm => ?_)]
    · exact h.fr.block b hb hn
    · rcases hx b hm with h' | h'
      · omega
      · exact hn h'
  · intro x hxm
    refine ⟨(k.own x hxm).1, ?_⟩
    rcases (k.own x hxm).2 with h' | h'
    · exact .inl (Nat.le_trans h.fr.size h')
    · exact hx _ h'
/-- A block that holds no cells, and is new, is turned. -/
theorem St.turn {w0 : World} {I0 I : GH} {X0 : List Nat} {L : List Bx} {w w' : World} {row : Option Nat} (h : St w0 I0 X0 I L w) (hg : w.grownBy w' row)
    (hr : ∀ r, row = some r → w0.heap.size ≤ r ∧ ∃ o : Obj, w.heap[r]? = some o ∧ o.isCells = false) : St w0 I0 X0 I L w' := by
  have key : ∀ (b : Nat) (o : Obj), w.heap[b]? = some o → o.isCells = true → w'.heap[b]? = some o := by
    intro b o hb ho
    rw [hg.block b (lt_of_heap hb) (fun e => ?_)]
    · exact hb
    · obtain ⟨_, o', h1, h2⟩ := hr b e.symm
      rw [hb] at h1
      cases h1
      rw [ho] at h2
      cases h2
  refine ⟨⟨fun b o hb => key b o (h.sat.blk b o hb) (h.sat.cel b o hb), h.sat.cel⟩, h.le, h.old, ?_, fun x hx => key _ _ (h.bx x hx) rfl, h.own, h.nd⟩
  refine ⟨hg.os.trans h.fr.os, hg.tape.trans h.fr.tape, hg.output.trans h.fr.output, Nat.le_trans h.fr.size hg.size, fun b hb hn => ?_⟩
  rw [hg.block b (Nat.lt_of_lt_of_le hb h.fr.size) (fun e => by have := (hr b e.symm).1; omega)]
  exact h.fr.block b hb hn
/-! ### The loop -/
/-- What an iterator's value is: of all, in order, the body is called at each, as long as it says yes; what the ghost heap I holds must stay. -/
def SeqI (P : Program) (gf : FuncId) (lb : List Value) {α : Type} (enc : α → Value) (all : List α) (N : Nat) (I : GH) : Prop :=
  ∀ w, Sat I w → SeqStopsK Fence.wide 0 P gf lb.toArray (fun x => #[enc x]) (fun A B => Sat I A → Sat I B) (fun xs => xs = all) (fun pre => pre <+: all) N w
/-- How a round may end. -/
def RPost {α : Type} (Inv : List α → GH → List Bx → Prop) (Ix : Code → List α → GH → List Bx → Prop) (W : World) (J : GH) (L : List Bx) (pre : List α) : Exit → Act → World → Prop
  | .normal, _, W' => ∃ J' L', St W J (ids L) J' L' W' ∧ Inv pre J' L'
  | .ret, _, W' => ∃ J' L', St W J (ids L) J' L' W' ∧ Ix .ret pre J' L'
  | .exit id, _, W' => ∃ J' L', St W J (ids L) J' L' W' ∧ Ix (.exit id) pre J' L'
  | .goto t, _, W' => ∃ J' L', St W J (ids L) J' L' W' ∧ Ix (.goto t) pre J' L'
  | .panic _, _, _ => False
  | .outgrown, _, _ => False
theorem St.keepsFrom {W W' : World} {J J' : GH} {L L' : List Bx} (h0 : BoxesAt L W) (h : St W J (ids L) J' L' W') (B : Nat) : KeepsFrom B W W' := by
  refine ⟨h.fr.size, fun k o _ hk ho => ?_⟩
  rw [h.fr.block k (lt_of_heap hk) (fun hm => ?_)]
  · exact hk
  · obtain ⟨x, hx, e⟩ := List.mem_map.1 hm
    have := h0 x hx
    rw [e, hk] at this
    cases this
    cases ho
def markD (D : Nat) : Deferred := { target := .collected D, args := #[] }
theorem rangeF {α : Type} {P : Program} {g : Operand} {p : Nat} {assign body : Code} {Q : Exit → Act → World → Prop} {f : Nat → Value} {n : Fr} {w w0 : World} {I0 I : GH} {X0 : List Nat} {L : List Bx}
    (hs : St w0 I0 X0 I L w) (hgok : okO n g = true) {gf : FuncId} {lb : List Value} (hg : ev f g = .func (.func gf) #[] lb.toArray) (hgo : isGo P gf = true)
    {enc : α → Value} {all : List α} {N : Nat} (hseq : SeqI P gf lb enc all N I) (hp : Nat.blt p n.k = true)
    (Inv : List α → GH → List Bx → Prop) (Ix : Code → List α → GH → List Bx → Prop) (hinit : Inv [] I L) (fx : α → Nat → Value)
    (hassign : ∀ (l : Nat) (x : α) (W : World) (K : Act → World → Prop), K (FA (fx x) ⟨n.k, []⟩) W → WR (some l) P assign (Exit.then K (fun _ _ _ => False)) (FA (upd f p (enc x)) ⟨n.k, []⟩) W)
    (hbody : ∀ (l : Nat) (pre : List α) (x : α) (J : GH) (L1 : List Bx) (W : World), pre.length < N → I.le J → Inv pre J L1 → (∀ y ∈ L1, w0.heap.size ≤ y.b ∨ y.b ∈ X0) → St W J (ids L1) J L1 W →
      WR (some l) P body (RPost Inv Ix W J L1 (pre ++ [x])) (FA (fx x) ⟨n.k, []⟩) W)
    (hdone : ∀ (D : Nat) (J : GH) (L1 : List Bx) (W : World), w0.heap.size ≤ D → I.le J → Inv all J L1 → W.heap[D]? = some (.deferred (some [])) → St w0 I0 X0 J L1 W → Q .normal (FA f ⟨n.k, markD D :: n.ds⟩) W)
    (hstop : ∀ (D : Nat) (c : Code) (pre : List α) (J : GH) (L1 : List Bx) (W : World), w0.heap.size ≤ D → pre <+: all → I.le J → Ix c pre J L1 → W.heap[D]? = some (.deferred (some [])) → St w0 I0 X0 J L1 W →
      c.wp P Q (FA f ⟨n.k, markD D :: n.ds⟩) W) :
    (Code.rangeFunc g #[p] assign body).wp P Q (FA f n) w := by
  refine (wpIn_wide (n := 1)).1 ?_
  have hown : ∀ (q : List α → GH → List Bx → Prop), OwnFrom w.heap.size (fun pre W => ∃ J L1, St w0 I0 X0 J L1 W ∧ I.le J ∧ q pre J L1) := by
    rintro q pre W W' row ⟨J, L1, h1, h2, h3⟩ hgr hr
    exact ⟨J, L1, h1.turn hgr (fun r e => ⟨Nat.le_trans hs.fr.size (hr r e).1, (hr r e).2⟩), h2, h3⟩
  have hfr : ∀ x, (#[p].zip #[enc x]).foldl (fun t (p, v) => t.setIfInBounds p v) (FA f n).tmps = (FA (upd f p (enc x)) ⟨n.k, []⟩).tmps := by
    intro x
    have := FA_put (f := f) (n := ⟨n.k, []⟩) (d := p) (v := enc x) hp
    rw [← this]
    simp [FA, Act.put]
  refine wpIn_rangeFunc_ownG (F := Fence.wide) (n := 1) rfl (Nat.le_refl _) (by rw [FA_eval hgok]; exact hg) trivial (fun args w => run_callFunc hgo) (hseq w hs.sat)
    (fun h k a => k (h a)) ?_ (Below.refl _ _) (fun _ => rfl)
    (fun pre W => ∃ J L1, St w0 I0 X0 J L1 W ∧ I.le J ∧ Inv pre J L1) (fun c pre W => ∃ J L1, St w0 I0 X0 J L1 W ∧ I.le J ∧ Ix c pre J L1) (hown _) (fun c => hown _)
    ⟨I, L, hs, GH.le.refl _, hinit⟩ (fun x => FA (fx x) ⟨n.k, []⟩) ?_ ?_ ?_ ?_
  · intro W l o o' hl hw ho _ hsat
    refine ⟨fun b x hb => ?_, hsat.cel⟩
    have hb' := hsat.blk b x hb
    rw [World.putObj_heap_other (fun e => ?_)]
    · exact hb'
    · subst e
      have := hsat.cel _ _ hb
      rw [hw] at hb'
      cases hb'
      rw [ho] at this
      cases this
  · intro l x W K hK
    rw [show ({ tmps := (#[p].zip #[enc x]).foldl (fun t (p, v) => t.setIfInBounds p v) (FA f n).tmps, defers := [] } : Act) = FA (upd f p (enc x)) ⟨n.k, []⟩ by rw [hfr]; rfl]
    exact hassign l x W K hK
  · rintro l pre x W ⟨J, L1, h1, h2, h3⟩ hlen
    have hb := hbody l pre x J L1 W hlen h2 h3 (fun y hy => (h1.own y hy).2) h1.base
    refine Go.wpIn_mono hb ?_
    rintro e a W' hp
    cases e with
    | normal =>
      obtain ⟨J', L', k1, k2⟩ := hp
      exact ⟨St.keepsFrom h1.bx k1 _, fun hsI => ⟨fun b o hb => k1.sat.blk b o (k1.le b o (h2 b o hb)), hsI.cel⟩, J', L', h1.comp k1, h2.trans k1.le, k2⟩
    | ret =>
      obtain ⟨J', L', k1, k2⟩ := hp
      exact ⟨St.keepsFrom h1.bx k1 _, J', L', h1.comp k1, h2.trans k1.le, k2⟩
    | exit id =>
      obtain ⟨J', L', k1, k2⟩ := hp
      exact ⟨St.keepsFrom h1.bx k1 _, J', L', h1.comp k1, h2.trans k1.le, k2⟩
    | goto t =>
      obtain ⟨J', L', k1, k2⟩ := hp
      exact ⟨St.keepsFrom h1.bx k1 _, J', L', h1.comp k1, h2.trans k1.le, k2⟩
    | panic _ => exact hp.elim
    | outgrown => exact hp.elim
  · rintro D xs W hD rfl ⟨J, L1, h1, h2, h3⟩ hw
    exact hdone D J L1 W (Nat.le_trans hs.fr.size hD) h2 h3 hw h1
  · rintro D c pre W hD hpre ⟨J, L1, h1, h2, h3⟩ hw
    exact wpIn_wide.2 (hstop D c pre J L1 W (Nat.le_trans hs.fr.size hD) hpre h2 h3 hw h1)

/-! ### A function that holds such a loop -/
theorem enterM {P : Program} {f : FuncId} {fn : Func} {c : Code} {args : List Value} {I : GH} {X : List Bx} {R : Value → GH → List Bx → Prop}
    (hf : P.funcs[f]? = some fn) (hb : fn.body = some c) (hn : Nat.ble args.length fn.ntmps = true)
    (h : ∀ w, St w I (ids X) I X w → c.wp P (bodyPostM Fence.wide 0 P fn (FnPost w I X R)) (FA (initF args) ⟨fn.ntmps, []⟩) w) : Fn P f args.toArray I X R := by
  intro w hs hx hi hnd
  refine callsIn_wide.1 (callsIn_of_wp_marks (F := Fence.wide) (n := 0) hf hb trivial (wpIn_wide.2 ?_))
  have := h w ⟨hs, GH.le.refl _, fun _ _ => rfl, FrBut.refl _ _, hx, fun x hx => ⟨hi x hx, .inr (List.mem_map.2 ⟨x, hx, rfl⟩)⟩, hnd⟩
  rw [← init_FA args fn.ntmps (Nat.le_of_ble_eq_true hn)] at this
  exact this
theorem leaveM {P : Program} {fn : Func} {w0 W w : World} {I0 J I : GH} {X X' L1 L : List Bx} {R : Value → GH → List Bx → Prop} {f : Nat → Value} {n : Fr} {D : Nat} {e : Exit}
    (hA : St w0 I0 (ids X) J L1 W) (hD : W.heap[D]? = some (.deferred (some []))) (hD0 : w0.heap.size ≤ D) (hs : St W J (ids L1) I (X' ++ L) w) (hid : ids X' = ids X) (hn : n.ds = [markD D]) (he : e = .ret ∨ e = .normal)
    (h : ∀ w', St w0 I0 (ids X) I (X' ++ L) w' → ∃ v, (results fn (FA f n).tmps).run P w' = .ok v w' ∧ R v I X') :
    bodyPostM Fence.wide 0 P fn (FnPost w0 I0 X R) e (FA f n) w := by
  have hD' : w.heap[D]? = some (.deferred (some [])) := by
    rw [hs.fr.block D (lt_of_heap hD) (fun hm => ?_)]
    · exact hD
    · obtain ⟨x, hx, e⟩ := List.mem_map.1 hm
      have := hA.bx x hx
      rw [e, hD] at this
      cases this
  have hs2 : St w0 I0 (ids X) I (X' ++ L) (w.putObj D (.deferred none)) :=
    (hA.comp hs).turn (grownBy_putObj' w D _) (fun r e => by cases e; exact ⟨hD0, _, hD', rfl⟩)
  obtain ⟨v, hr, hR⟩ := h _ hs2
  have key : LeavesInM Fence.wide 0 P fn (FA f n).tmps (FnPost w0 I0 X R) (FA f n).defers .returning w := by
    rw [show (FA f n).defers = [markD D] from hn]
    refine ⟨by simp, .inl ⟨D, _, rfl, run_takeDeferred hD', ?_⟩⟩
    exact ⟨v, hr, v, I, X', rfl, hs2.sat, hs2.le, hs2.old, hs2.fr, fun x hx => hs2.bx x (List.mem_append_left _ hx), hid, hR⟩
  rcases he with rfl | rfl <;> exact key
end Go.Proofs.YtlnlodfnplkckaaDoor
/- The engine: the walk of an iterator: regions in which its yield is called; loops in a round. Each theorem's conditions stand in it. -/
namespace Go.Proofs.YtlnlodfnplkckaaDoor
open Go.RowKit
structure WLI (ρ : Option Nat) (P : Program) (ops : Array Oper) (Q : Exit → Act → World → Prop) (l : List Oper) (f : Nat → Value) (n : Fr) (w : World) : Prop where
  h : wpListIn (FW ρ) 0 P ops Q l (FA f n) w
section
variable {P : Program} {ops : Array Oper} {Q : Exit → Act → World → Prop} {rest : List Oper} {f : Nat → Value} {n : Fr} {w w' : World} {ρ : Option Nat}
  {d : Nat} {op : Op} {ty : TypeId} {pos : String} {af : Array Edge} {v : Value}
theorem wli_begin {id : Nat} {l : List Oper} (h : WLI ρ P l.toArray Q l f n w) : WR ρ P (Code.region id l.toArray false) Q (FA f n) w := wpIn_region_lit h.h
theorem wli_nil (h : Q .normal (FA f n) w) : WLI ρ P ops Q [] f n w := ⟨h⟩
theorem wli_sq (hc : calm [⟨some d, op, ty, pos, af, none⟩] = true) (hr : (execOp (FA f n).eval ⟨some d, op, ty, pos, af, none⟩).run P w = .ok (.value v) w') (hd : Nat.blt d n.k = true)
    (h : WLI ρ P ops Q rest (upd f d v) n w') : WLI ρ P ops Q (⟨some d, op, ty, pos, af, none⟩ :: rest) f n w := by
  refine ⟨wpListIn_plain rfl fun K hK => oper_in (K := K) (calm_of hc (.head _)) (fun _ _ h => h) ?_⟩
  unfold Oper.wp
  rw [hr, Oper.upon_value]
  exact hK _ _ (by rw [FA_put hd]; exact h.h)
theorem wli_o {o : Oper} (hg : o.guard = none) (hc : calm [o] = true) (h : ∀ K : Act → World → Prop, (∀ f w, WLI ρ P ops Q rest f n w → K (FA f n) w) → OW P o f n w K Q) : WLI ρ P ops Q (o :: rest) f n w := by
  refine ⟨wpListIn_plain hg fun K hK => oper_in (K := K) (calm_of hc (.head _)) (fun _ _ h => h) ?_⟩
  exact (h K fun f w h => hK _ _ h.h).h
/-- The call of yield. -/
theorem wli_yield {x : Operand} {args : Array Operand} {ats : Array TypeId} {vl : List Value} {l : Nat} {R : Ending → World → Prop} (hx : okO n x = true) (hxv : ev f x = .func (.yield l) #[] #[])
    (ha : args.toList.all (okO n) = true) (hav : args.toList.map (ev f) = vl) (hy : YieldAt Fence.wide 0 P l vl.toArray w R) (hd : Nat.blt d n.k = true)
    (k : ∀ e w', R e w' → ∃ v, e = .returned v ∧ WLI ρ P ops Q rest (upd f d v) n w') : WLI ρ P ops Q (⟨some d, .call ⟨.value x, args, ats⟩, ty, pos, af, none⟩ :: rest) f n w := by
  obtain ⟨fn, tmps, assign, body, hrun, hround⟩ := hy
  have hmap : args.map (FA f n).eval = (args.toList.map (ev f)).toArray := by
    apply Array.toList_inj.1
    rw [Array.toList_map]
    simp only
    refine List.map_congr_left fun a ha' => FA_eval ?_
    exact (List.all_eq_true.1 ha) a ha'
  have hr : (execOp (FA f n).eval ⟨some d, .call ⟨.value x, args, ats⟩, ty, pos, af, none⟩).run P w = .ok (.round l fn tmps assign body) w := by
    simp only [execOp, resolve, Sem.run_bind, FA_eval hx, hxv, hmap, hav, Deferred.ofValue]
    simp only [Sem.run_pure, Result.andThen_ok, invoke]
    simp only [Array.empty_append]
    exact hrun
  refine ⟨wpListIn_plain rfl fun K hK => ?_⟩
  refine ⟨fun _ _ => trivial, ?_⟩
  rw [Oper.semAt_plain (FW ρ) _ _ (by intro c h; cases h), hr, Oper.uponIn_round]
  refine ⟨fun h => by simp [FW] at h, ?_⟩
  refine RoundIn.mono (F := FW ρ) (show RoundIn (FW ρ) 0 P l fn tmps assign body w R from hround) ?_
  intro e w' he
  obtain ⟨v, rfl, h⟩ := k e w' he
  show K ((FA f n).put (some d) v) w'
  rw [FA_put hd]
  exact hK _ _ h.h
theorem lpR {c : Code} {σ : Type} (Inv : σ → (Nat → Value) → World → Prop) (μ : σ → Nat) (x0 : σ) (h0 : Inv x0 f w)
    (round : ∀ x f w, Inv x f w → WR ρ P c (Exit.then (fun a' w' => ∃ x' f', a' = FA f' n ∧ Inv x' f' w' ∧ μ x' < μ x) Q) (FA f n) w) : WR ρ P (Code.loop c) Q (FA f n) w := by
  have key : ∀ m x f w, μ x < m → Inv x f w → Code.roundsIn (FW ρ) 0 P c Q m (FA f n) w := by
    intro m
    induction m with
    | zero => intro x f w h; omega
    | succ m ih =>
      intro x f w h hI
      rw [roundsIn_succ]
      refine Go.wpIn_mono (round x f w hI) ?_
      intro e a' w' q
      cases e with
      | normal =>
        obtain ⟨x', f', rfl, hI', hlt⟩ := q
        exact ih x' f' w' (by omega) hI'
      | _ => exact q
  exact wpIn_loop_rounds _ (key (μ x0 + 1) x0 f w (by omega) h0)
end
theorem enterI {P : Program} {f : FuncId} {fn : Func} {c : Code} {args : List Value} {w : World} {R : Ending → World → Prop} (hf : P.funcs[f]? = some fn) (hb : fn.body = some c) (hn : Nat.ble args.length fn.ntmps = true)
    (h : WR none P c (bodyPost P fn R) (FA (initF args) ⟨fn.ntmps, []⟩) w) : CallsIn Fence.wide 0 P f args.toArray w R := by
  refine callsIn_of_wp (F := Fence.wide) (n := 0) hf hb trivial ?_
  rw [← init_FA args fn.ntmps (Nat.le_of_ble_eq_true hn)] at h
  exact h
theorem FrBut.grown {w w' : World} (h : FrBut [] w w') : w.grownBy w' none := ⟨h.os, h.tape, h.output, h.size, fun k hk _ => h.block k hk (fun x => by cases x)⟩
theorem Sat.below {I : GH} {w w' : World} (h : Sat I w) (hb : Below w.heap.size w w') : Sat I w' :=
  ⟨fun b o hI => by rw [hb.block b (lt_of_heap (h.blk b o hI))]; exact h.blk b o hI, h.cel⟩
end Go.Proofs.YtlnlodfnplkckaaDoor
/- Sets of numbers as bits: the least number, the place of a number, how many there are. Each theorem's conditions stand in it. -/
namespace Go.Proofs.YtlnlodfnplkckaaDoor
/-- The numbers in a set, as numbers below 32. -/
def bitsF (m : Nat) : List (Fin 32) := (List.finRange 32).filter fun i => m.testBit i.val
theorem bitsF_val (m : Nat) : (bitsF m).map (·.val) = bitsL m := by
  unfold bitsF bitsL
  have h : List.range 32 = (List.finRange 32).map (·.val) := by decide
  rw [h, List.filter_map]
  rfl
theorem bitsF_length (m : Nat) : (bitsF m).length = (bitsL m).length := by rw [← bitsF_val, List.length_map]
theorem mem_bitsL {m i : Nat} : i ∈ bitsL m ↔ i < 32 ∧ m.testBit i = true := by simp [bitsL]
theorem bitsL_le (m : Nat) : (bitsL m).length ≤ 32 := by
  have := List.length_filter_le (fun i => m.testBit i) (List.range 32)
  rwa [List.length_range] at this
theorem bitsL_zero : bitsL 0 = [] := by simp [bitsL]
theorem range_cut {k : Nat} (hk : k < 32) : List.range 32 = List.range k ++ (k :: List.range' (k + 1) (31 - k)) := by
  have h1 : List.range' 0 k ++ List.range' k (32 - k) = List.range' 0 32 := by
    have := List.range'_append (s := 0) (m := k) (n := 32 - k) (step := 1)
    simp only [Nat.one_mul, Nat.zero_add] at this
    rwa [show k + (32 - k) = 32 by omega] at this
  have h2 : List.range' k (32 - k) = k :: List.range' (k + 1) (31 - k) := by
    rw [show 32 - k = (31 - k) + 1 by omega, List.range'_succ]
  rw [List.range_eq_range', List.range_eq_range', ← h1, h2]
theorem filter_low {m k : Nat} (h : ∀ j, j < k → m.testBit j = false) : (List.range k).filter (fun i => m.testBit i) = [] := by
  rw [List.filter_eq_nil_iff]
  intro j hj
  simp [h j (List.mem_range.1 hj)]
theorem bitsL_low {m m' k : Nat} (hk : k < 32) (h1 : m.testBit k = true) (h2 : ∀ j, j < k → m.testBit j = false) (h3 : ∀ j, m'.testBit j = (m.testBit j && !decide (j = k))) : bitsL m = k :: bitsL m' := by
  have h2' : ∀ j, j < k → m'.testBit j = false := fun j hj => by rw [h3, h2 j hj]; rfl
  have hk' : m'.testBit k = false := by rw [h3]; simp
  unfold bitsL
  rw [range_cut hk, List.filter_append, List.filter_append, filter_low h2, filter_low h2', List.nil_append, List.nil_append, List.filter_cons_of_pos (by simpa using h1), List.filter_cons_of_neg (by simp [hk'])]
  congr 1
  apply List.filter_congr
  intro j hj
  have := (List.mem_range'_1.1 hj).1
  rw [h3]
  have : ¬ j = k := by omega
  simp [this]
theorem ctz_split {m : Nat} (h0 : m ≠ 0) (hm : m < 2 ^ 32) : Go.Lib.ctz 32 m < 32 ∧ ∃ q, m = 2 ^ Go.Lib.ctz 32 m * (2 * q + 1) := by
  obtain ⟨q, h1, h2⟩ := Go.Lib.ctzFrom_spec 32 m (by omega) hm
  unfold Go.Lib.ctz
  rw [if_neg h0]
  exact ⟨h2, q, h1⟩
theorem testBit_odd (k q j : Nat) : (2 ^ k * (2 * q + 1)).testBit j = (decide (j = k) || (decide (k < j) && q.testBit (j - k - 1))) := by
  rw [Nat.mul_comm, Nat.testBit_mul_two_pow]
  by_cases h : k ≤ j
  · by_cases e : j = k
    · subst e; simp [Nat.testBit_zero]
    · obtain ⟨i, rfl⟩ : ∃ i, j = k + (i + 1) := ⟨j - k - 1, by omega⟩
      have e3 : k + (i + 1) - k = i + 1 := by omega
      have e4 : k + (i + 1) - k - 1 = i := by omega
      rw [e3, Nat.testBit_succ]
      have d1 : (2 * q + 1) / 2 = q := by omega
      rw [d1]
      simp
  · have : ¬ j = k := by omega
    have : ¬ k < j := by omega
    simp [*]
theorem testBit_even (k q j : Nat) : (2 ^ k * (2 * q)).testBit j = (decide (k < j) && q.testBit (j - k - 1)) := by
  rw [Nat.mul_comm, Nat.testBit_mul_two_pow]
  by_cases h : k ≤ j
  · by_cases e : j = k
    · subst e; simp [Nat.testBit_zero]
    · obtain ⟨i, rfl⟩ : ∃ i, j = k + (i + 1) := ⟨j - k - 1, by omega⟩
      have e3 : k + (i + 1) - k = i + 1 := by omega
      rw [e3, Nat.testBit_succ]
      have d1 : (2 * q) / 2 = q := by omega
      rw [d1]
      simp
  · have : ¬ k < j := by omega
    simp [*]
/-- The least number, and the set of all others. -/
theorem bitsL_ctz {m : Nat} (h0 : m ≠ 0) (hm : m < 2 ^ 32) : bitsL m = Go.Lib.ctz 32 m :: bitsL (m &&& (m - 1)) := by
  obtain ⟨hk, q, hq⟩ := ctz_split h0 hm
  generalize Go.Lib.ctz 32 m = k at *
  have hm1 : m - 1 = 2 ^ k * (2 * q) + (2 ^ k - 1) := by
    have := Nat.two_pow_pos k
    rw [hq, Nat.mul_add]
    omega
  refine bitsL_low hk ?_ ?_ ?_
  · rw [hq, testBit_odd]; simp
  · intro j hj
    rw [hq, testBit_odd]
    have a : ¬ j = k := by omega
    have b : ¬ k < j := by omega
    simp [a, b]
  · intro j
    have hlt : 2 ^ k - 1 < 2 ^ k := by have := Nat.two_pow_pos k; omega
    rw [Nat.testBit_and, hm1, Nat.testBit_two_pow_mul_add _ hlt]
    by_cases hjk : j < k
    · have a : ¬ j = k := by omega
      have b : ¬ k < j := by omega
      rw [hq, testBit_odd]
      simp [a, b]
    · rw [if_neg hjk, show (2 * q).testBit (j - k) = (decide (k < j) && q.testBit (j - k - 1)) by
        have := testBit_even k q j
        rw [Nat.mul_comm, Nat.testBit_mul_two_pow] at this
        simpa [show k ≤ j by omega] using this]
      rw [hq, testBit_odd]
      by_cases e : j = k
      · subst e; simp
      · simp [e]
theorem bitsL_ne {m : Nat} (h0 : m ≠ 0) (hm : m < 2 ^ 32) : bitsL m ≠ [] := by rw [bitsL_ctz h0 hm]; simp

/-! ### The place of a number -/
theorem bitsL_at {m i : Nat} (hi : i < 32) (h : m.testBit i = true) : (bitsL m)[cntB m i]? = some i := by
  unfold bitsL cntB
  rw [range_cut hi, List.filter_append, List.getElem?_append_right (Nat.le_refl _), Nat.sub_self, List.filter_cons_of_pos (by simpa using h)]
  rfl
theorem cntB_lt {m i : Nat} (hi : i < 32) (h : m.testBit i = true) : cntB m i < (bitsL m).length := by
  have := bitsL_at hi h
  rcases Nat.lt_or_ge (cntB m i) (bitsL m).length with h' | h'
  · exact h'
  · rw [List.getElem?_eq_none h'] at this; cases this
theorem cntB_le (m i : Nat) : cntB m i ≤ i := by
  have := List.length_filter_le (fun j => m.testBit j) (List.range i)
  rwa [List.length_range] at this
theorem cntB_low {m i : Nat} (hi : i ≤ 32) : cntB (m &&& (2 ^ i - 1)) 32 = cntB m i := by
  rw [Nat.and_two_pow_sub_one_eq_mod]
  rw [show 32 = i + (32 - i) by omega, cntB_add, cntB_mod]
  have : m % 2 ^ i / 2 ^ i = 0 := Nat.div_eq_of_lt (Nat.mod_lt _ (Nat.two_pow_pos i))
  rw [this]
  simp [cntB]

/-! ### How many bits: by fields -/
theorem and_cut {b y p q : Nat} (hb : b < 256) (hp : p < 256) : (b + 256 * y) &&& (p + 256 * q) = (b &&& p) + 256 * (y &&& q) := by
  have e : ∀ a c : Nat, a + 256 * c = 2 ^ 8 * c + a := fun a c => by omega
  have hbp : b &&& p < 2 ^ 8 := Nat.and_lt_two_pow _ hp
  apply Nat.eq_of_testBit_eq
  intro j
  rw [Nat.testBit_and, e, e, e, Nat.testBit_two_pow_mul_add _ hb, Nat.testBit_two_pow_mul_add _ hp, Nat.testBit_two_pow_mul_add _ hbp]
  split <;> simp [Nat.testBit_and]
def G1 (M x : Nat) : Nat := (x / 2 &&& M) + (x &&& M)
def G2 (M x : Nat) : Nat := (x / 4 &&& M) + (x &&& M)
def G3 (M x : Nat) : Nat := (x / 16 + x) &&& M
theorem g1c : ∀ (b : Fin 256) (r : Fin 2), (b.val / 2 + 128 * r.val) &&& 85 = b.val / 2 &&& 85 := by decide +kernel
theorem g2c : ∀ (b : Fin 256) (r : Fin 4), (b.val / 4 + 64 * r.val) &&& 51 = b.val / 4 &&& 51 := by decide +kernel
theorem g3c : ∀ (e : Fin 69) (r : Fin 5), (e.val / 16 + 16 * r.val + e.val) &&& 15 = G3 15 e.val := by decide +kernel
theorem G1_cut {b y M : Nat} (hb : b < 256) : G1 (85 + 256 * M) (b + 256 * y) = G1 85 b + 256 * G1 M y := by
  have h1 : (b + 256 * y) / 2 = (b / 2 + 128 * (y % 2)) + 256 * (y / 2) := by omega
  have h2 := g1c ⟨b, hb⟩ ⟨y % 2, by omega⟩
  simp only at h2
  unfold G1
  rw [h1, and_cut (by omega) (by decide), and_cut hb (by decide), h2, Nat.mul_add]
  omega
theorem G2_cut {b y M : Nat} (hb : b < 256) : G2 (51 + 256 * M) (b + 256 * y) = G2 51 b + 256 * G2 M y := by
  have h1 : (b + 256 * y) / 4 = (b / 4 + 64 * (y % 4)) + 256 * (y / 4) := by omega
  have h2 := g2c ⟨b, hb⟩ ⟨y % 4, by omega⟩
  simp only at h2
  unfold G2
  rw [h1, and_cut (by omega) (by decide), and_cut hb (by decide), h2, Nat.mul_add]
  omega
theorem G3_cut {e y M : Nat} (he : e < 69) (hy : y % 16 < 5) : G3 (15 + 256 * M) (e + 256 * y) = G3 15 e + 256 * G3 M y := by
  have h1 : (e + 256 * y) / 16 + (e + 256 * y) = (e / 16 + 16 * (y % 16) + e) + 256 * (y / 16 + y) := by omega
  have h2 := g3c ⟨e, he⟩ ⟨y % 16, hy⟩
  simp only at h2
  show ((e + 256 * y) / 16 + (e + 256 * y)) &&& (15 + 256 * M) = _
  rw [h1, and_cut (by omega) (by decide), h2]
  rfl
theorem G1_zero (M : Nat) : G1 M 0 = 0 := by simp [G1]
theorem G2_zero (M : Nat) : G2 M 0 = 0 := by simp [G2]
theorem G3_zero (M : Nat) : G3 M 0 = 0 := by simp [G3]
theorem g1b : ∀ b : Fin 256, G1 85 b.val < 256 := by decide +kernel
theorem g2b : ∀ b : Fin 256, G2 51 (G1 85 b.val) < 69 ∧ G2 51 (G1 85 b.val) % 16 < 5 := by decide +kernel
theorem g3b : ∀ b : Fin 256, G3 15 (G2 51 (G1 85 b.val)) = cntB b.val 8 := by decide +kernel
theorem pop64_eq {x y1 y2 y3 y4 y5 y6 : Nat} (hx : x < 2 ^ 32) (h1 : y1 = ((x / 2 ^ 1 &&& 6148914691236517205) + (x &&& 6148914691236517205)) % 2 ^ 64)
    (h2 : y2 = ((y1 / 2 ^ 2 &&& 3689348814741910323) + (y1 &&& 3689348814741910323)) % 2 ^ 64) (h3 : y3 = (y2 / 2 ^ 4 + y2) % 2 ^ 64 &&& 1085102592571150095)
    (h4 : y4 = (y3 + y3 / 2 ^ 8) % 2 ^ 64) (h5 : y5 = (y4 + y4 / 2 ^ 16) % 2 ^ 64) (h6 : y6 = (y5 + y5 / 2 ^ 32) % 2 ^ 64) : y6 &&& 127 = cntB x 32 ∧ y6 < 2 ^ 63 := by
  obtain ⟨b0, b1, b2, b3, k0, k1, k2, k3, rfl⟩ : ∃ b0 b1 b2 b3, b0 < 256 ∧ b1 < 256 ∧ b2 < 256 ∧ b3 < 256 ∧ x = b0 + 256 * (b1 + 256 * (b2 + 256 * (b3 + 256 * 0))) :=
    ⟨x % 256, x / 256 % 256, x / 65536 % 256, x / 16777216, by omega, by omega, by omega, by omega, by omega⟩
  have c : cntB (b0 + 256 * (b1 + 256 * (b2 + 256 * (b3 + 256 * 0)))) 32 = cntB b0 8 + cntB b1 8 + cntB b2 8 + cntB b3 8 := by
    have e : ∀ b y n : Nat, b < 256 → cntB (b + 256 * y) (8 + n) = cntB b 8 + cntB y n := by
      intro b y n hb
      rw [cntB_add, ← cntB_mod (b + 256 * y) 8, show (b + 256 * y) % 2 ^ 8 = b by omega, show (b + 256 * y) / 2 ^ 8 = y by omega]
    rw [show 32 = 8 + 24 from rfl, e _ _ _ k0, show 24 = 8 + 16 from rfl, e _ _ _ k1, show 16 = 8 + 8 from rfl, e _ _ _ k2, Nat.mul_zero, Nat.add_zero]
    omega
  have f0 := g1b ⟨b0, k0⟩
  have f1 := g1b ⟨b1, k1⟩
  have f2 := g1b ⟨b2, k2⟩
  have f3 := g1b ⟨b3, k3⟩
  have i0 := g2b ⟨b0, k0⟩
  have i1 := g2b ⟨b1, k1⟩
  have i2 := g2b ⟨b2, k2⟩
  have i3 := g2b ⟨b3, k3⟩
  have j0 := g3b ⟨b0, k0⟩
  have j1 := g3b ⟨b1, k1⟩
  have j2 := g3b ⟨b2, k2⟩
  have j3 := g3b ⟨b3, k3⟩
  have l0 := cntB_le b0 8
  have l1 := cntB_le b1 8
  have l2 := cntB_le b2 8
  have l3 := cntB_le b3 8
  simp only at f0 f1 f2 f3 i0 i1 i2 i3 j0 j1 j2 j3
  have a1 : y1 = G1 85 b0 + 256 * (G1 85 b1 + 256 * (G1 85 b2 + 256 * (G1 85 b3 + 256 * 0))) := by
    have : ((b0 + 256 * (b1 + 256 * (b2 + 256 * (b3 + 256 * 0)))) / 2 ^ 1 &&& 6148914691236517205) + ((b0 + 256 * (b1 + 256 * (b2 + 256 * (b3 + 256 * 0)))) &&& 6148914691236517205) =
        G1 (85 + 256 * (85 + 256 * (85 + 256 * (85 + 256 * 1431655765)))) (b0 + 256 * (b1 + 256 * (b2 + 256 * (b3 + 256 * 0)))) := rfl
    rw [this, G1_cut k0, G1_cut k1, G1_cut k2, G1_cut k3, G1_zero] at h1
    rw [h1, Nat.mod_eq_of_lt (by omega)]
  have a2 : y2 = G2 51 (G1 85 b0) + 256 * (G2 51 (G1 85 b1) + 256 * (G2 51 (G1 85 b2) + 256 * (G2 51 (G1 85 b3) + 256 * 0))) := by
    have : (y1 / 2 ^ 2 &&& 3689348814741910323) + (y1 &&& 3689348814741910323) = G2 (51 + 256 * (51 + 256 * (51 + 256 * (51 + 256 * 858993459)))) y1 := rfl
    rw [this, a1, G2_cut f0, G2_cut f1, G2_cut f2, G2_cut f3, G2_zero] at h2
    rw [h2, Nat.mod_eq_of_lt (by omega)]
  have a3 : y3 = cntB b0 8 + 256 * (cntB b1 8 + 256 * (cntB b2 8 + 256 * (cntB b3 8 + 256 * 0))) := by
    have : (y2 / 2 ^ 4 + y2) &&& 1085102592571150095 = G3 (15 + 256 * (15 + 256 * (15 + 256 * (15 + 256 * 252645135)))) y2 := rfl
    rw [Nat.mod_eq_of_lt (by omega), this, a2, G3_cut i0.1 (by omega), G3_cut i1.1 (by omega), G3_cut i2.1 (by omega), G3_cut i3.1 (by omega), G3_zero, j0, j1, j2, j3] at h3
    exact h3
  rw [c]
  have h127 : y6 &&& 127 = y6 % 2 ^ 7 := Nat.and_two_pow_sub_one_eq_mod y6 7
  rw [h127]
  generalize cntB b0 8 = c0 at *
  generalize cntB b1 8 = c1 at *
  generalize cntB b2 8 = c2 at *
  generalize cntB b3 8 = c3 at *
  clear a1 a2 h1 h2 h3 c f0 f1 f2 f3 i0 i1 i2 i3 j0 j1 j2 j3 hx
  have q4 : y3 / 2 ^ 8 = c1 + 256 * c2 + 65536 * c3 := by omega
  have a4 : y4 = (c0 + c1) + 256 * (c1 + c2) + 65536 * (c2 + c3) + 16777216 * c3 := by
    rw [h4, q4, Nat.mod_eq_of_lt (by omega)]; omega
  clear q4 h4 a3
  have q5 : y4 / 2 ^ 16 = (c2 + c3) + 256 * c3 := by omega
  have a5 : y5 = (c0 + c1 + c2 + c3) + 256 * (c1 + c2 + c3) + 65536 * (c2 + c3) + 16777216 * c3 := by
    rw [h5, q5, Nat.mod_eq_of_lt (by omega)]; omega
  clear q5 h5 a4
  have q6 : y5 / 2 ^ 32 = 0 := by omega
  have a6 : y6 = y5 := by
    rw [h6, q6, Nat.mod_eq_of_lt (by omega)]; omega
  clear q6 h6
  exact ⟨by omega, by omega⟩
section
variable {P : Program} {f : Nat → Value} {n : Fr} {w : World} {d : Option Tmp} {t ty yt : TypeId} {pos : String} {af : Array Edge} {g : Option (Nat × Bool)} {x y : Operand} {a b : Nat}
theorem r_andI (hx : okO n x = true) (hy : okO n y = true) (hxv : ev f x = .int .i64 (a : Int)) (hyv : ev f y = .int .i64 (b : Int)) (ha : a < 2 ^ 63) (hb : b < 2 ^ 63) :
    (execOp (FA f n).eval ⟨d, .binOp .and t x y yt, ty, pos, af, g⟩).run P w = .ok (.value (.int .i64 ((a &&& b : Nat) : Int))) w := by
  have h1 : a % 18446744073709551616 = a := Nat.mod_eq_of_lt (by omega)
  have h2 : b % 18446744073709551616 = b := Nat.mod_eq_of_lt (by omega)
  have h3 : a &&& b < 2 ^ 63 := Nat.and_lt_two_pow _ hb
  have h4 : IntKind.i64.wrap ((a &&& b : Nat) : Int) = ((a &&& b : Nat) : Int) := Go.IntWalk.i64_in _ ⟨by omega, by omega⟩
  have hbits : IntKind.i64.bits = 64 := rfl
  simp [execOp, FA_eval hx, FA_eval hy, hxv, hyv, eqGuard, binOp, Op.intBits, hbits, h1, h2, h4]
end
end Go.Proofs.YtlnlodfnplkckaaDoor
