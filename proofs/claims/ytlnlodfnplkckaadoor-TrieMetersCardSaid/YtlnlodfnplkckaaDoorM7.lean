/- Texts of the walk, laid together. Each theorem's conditions stand in it. -/
import Derived.Test.YtlnlodfnplkckaaDoorM6
import Derived.DeepKeys
import Derived.RowKit3
import Derived.ProofKit
import Derived.OpenShut
import Derived.ChangeSlices
import Derived.ReadAgain
import Derived.Deep.Slices
import Derived.Test.YtlnlodfnplkckaaDoorRows
import Derived.Test.YtlnlodfnplkckaaDoorTie
import Derived.Test.YtlnlodfnplkckaaDoorCards
import Derived.LaidMore
import Derived.Stop.Joined
import Derived.SevenTiedAt
/- Tries as maps: what is found after a Put and after a Delete; what a call costs. Each theorem's conditions stand in it. -/
namespace Go.Proofs.YtlnlodfnplkckaaDoor
open T (Sm)
set_option linter.unusedVariables false
theorem cmpB_iff {a b : Bs} : cmpB a b = 0 ↔ a = b := ⟨cmpB_eq, fun e => by rw [e, cmpB_self]⟩
/-! ### Sets of one and of two -/
theorem bits_one {c : Nat} (hc : c < 32) : bitsL (ofN [c]) = [c] := by
  have h : ((List.range 32).all fun c => bitsL (ofN [c]) == [c]) = true := by kernel_rfl
  exact eq_of_beq (List.all_eq_true.1 h c (List.mem_range.2 hc))
theorem bits_two {c d : Nat} (hc : c < 32) (hd : d < 32) (hne : c ≠ d) : bitsL (ofN [c, d]) = if d < c then [d, c] else [c, d] := by
  have h : ((List.range 32).all fun c => (List.range 32).all fun d => c == d || bitsL (ofN [c, d]) == if d < c then [d, c] else [c, d]) = true := by kernel_rfl
  have h1 := List.all_eq_true.1 (List.all_eq_true.1 h c (List.mem_range.2 hc)) d (List.mem_range.2 hd)
  rw [Bool.or_eq_true] at h1
  rcases h1 with h1 | h1
  · exact absurd (eq_of_beq h1) hne
  · exact eq_of_beq h1
namespace N
/-- What is found of a key under its hash. -/
def look (h : Nat) (k : Bs) (n : N) (l : Nat) : Option Bs := endGet h k (way h n l).1
theorem look_branch {h l m : Nat} {kids : List N} {k : Bs} : look h k (.branch m kids) l = look h k (kid (.branch m kids) ((chunkN h l : Nat) : Int)) (l + 1) := by
  unfold look; rw [way]
theorem look_end {n : N} {h l : Nat} {k : Bs} (hm : n.map.isSome = false) : look h k n l = endGet h k n := by unfold look; rw [way_end h l hm]
theorem look_none {h l : Nat} {k : Bs} : look h k .none l = Option.none := by rw [look_end rfl]; rfl
theorem look_leaf {h l g : Nat} {k k0 x0 : Bs} : look h k (.leaf g k0 x0) l = if g = h ∧ k = k0 then some x0 else Option.none := by
  rw [look_end rfl]; simp only [endGet, cmpB_iff]
theorem look_bucket {h l g : Nat} {k : Bs} {t : T} (hs : Srt t.toList) : look h k (.bucket g t) l = if g = h then getL t.toList k else Option.none := by
  rw [look_end rfl]; simp only [endGet, T.get_eq t k hs]
/-- All buckets are sorted and even. -/
inductive SB : N → Prop where
  | none : SB .none
  | leaf {h : Nat} {k x : Bs} : SB (.leaf h k x)
  | bucket {h : Nat} {t : T} (hs : Srt t.toList) (hb : t.Bal) : SB (.bucket h t)
  | branch {m : Nat} {kids : List N} (hk : ∀ i, i < 32 → m.testBit i = true → SB (kid (.branch m kids) ((i : Nat) : Int))) : SB (.branch m kids)
theorem SB.kid {m : Nat} {kids : List N} (h : SB (.branch m kids)) {c : Nat} (hc : c < 32) : SB (N.kid (.branch m kids) ((c : Nat) : Int)) := by
  cases h with
  | branch hk =>
    by_cases hb : m.testBit c = true
    · exact hk c hc hb
    · rw [kid_no hb]; exact .none
def W (l q : Nat) (n : N) : Prop := WF l q n ∧ SB n
theorem W.kid {l q m : Nat} {kids : List N} (h : W l q (.branch m kids)) {c : Nat} (hc : c < 32) : W (l + 1) (q + c * 32 ^ l) (N.kid (.branch m kids) ((c : Nat) : Int)) := ⟨h.1.kid hc, h.2.kid hc⟩
theorem W.none {l q : Nat} : W l q .none := ⟨.none, .none⟩
theorem mk_nil (m : Nat) : mk m [] = .none := by unfold mk; rw [if_pos (.inl rfl)]
/-- What Branch makes of a set and its nodes. -/
theorem mk_set {l q m : Nat} {F : Nat → N} (hl : l < 13) (hm : m < 2 ^ 32) (hF : ∀ i, i < 32 → m.testBit i = true → (F i).isN = false ∧ W (l + 1) (q + i * 32 ^ l) (F i)) :
    W l q (mk m ((bitsL m).map F)) ∧ ((mk m ((bitsL m).map F)).isN = true → bitsL m = []) ∧ ∀ h k, look h k (mk m ((bitsL m).map F)) l = if m.testBit (chunkN h l) = true then look h k (F (chunkN h l)) (l + 1) else Option.none := by
  by_cases h0 : bitsL m = []
  · rw [h0, List.map_nil, mk_nil]
    refine ⟨.none, fun _ => rfl, fun h k => ?_⟩
    rw [look_none, if_neg]
    intro hb
    have := mem_bitsL.2 ⟨chunkN_lt h l, hb⟩
    rw [h0] at this; cases this
  · have hpos : 0 < (bitsL m).length := List.length_pos_iff.2 h0
    have hno : ∀ n ∈ (bitsL m).map F, n.isN = false := fun n hn => by
      obtain ⟨i, hi, rfl⟩ := List.mem_map.1 hn
      have := mem_bitsL.1 hi
      exact (hF i this.1 this.2).1
    have hlen : ((bitsL m).map F).length = (bitsL m).length := List.length_map _
    rw [mk_yes (by omega) hlen hno]
    have hk : ∀ i, i < 32 → m.testBit i = true → kid (.branch m ((bitsL m).map F)) ((i : Nat) : Int) = F i := fun i hi hb => by rw [kid_map hi, if_pos hb]
    refine ⟨⟨.branch hl hm hlen (by omega) hno fun i hi hb => ?_, .branch fun i hi hb => ?_⟩, fun e => (nomatch e), fun h k => ?_⟩
    · rw [hk i hi hb]; exact (hF i hi hb).2.1
    · rw [hk i hi hb]; exact (hF i hi hb).2.2
    · rw [look_branch, kid_map (chunkN_lt h l)]
      split
      · rfl
      · rw [look_none]
theorem testBit_lt {m i : Nat} (hm : m < 2 ^ 32) (h : m.testBit i = true) : i < 32 := Classical.byContradiction fun hi => by
  rw [Nat.testBit_lt_two_pow (Nat.lt_of_lt_of_le hm (Nat.pow_le_pow_right (by decide) (by omega)))] at h; cases h
theorem one_bit {c i : Nat} (hc : c < 32) : (ofN [c]).testBit i = true ↔ i = c := by
  constructor
  · intro h
    have := mem_bitsL.2 ⟨testBit_lt (ofN_lt _) h, h⟩
    rw [bits_one hc] at this
    exact List.mem_singleton.1 this
  · rintro rfl
    have : i ∈ bitsL (ofN [i]) := by rw [bits_one hc]; exact .head _
    exact (mem_bitsL.1 this).2
theorem two_bit {c d i : Nat} (hc : c < 32) (hd : d < 32) (hne : c ≠ d) : (ofN [c, d]).testBit i = true ↔ i = c ∨ i = d := by
  have key : i ∈ bitsL (ofN [c, d]) ↔ i = c ∨ i = d := by
    rw [bits_two hc hd hne]
    split <;> simp only [List.mem_cons, List.not_mem_nil, or_false]
    exact or_comm
  rw [← key, mem_bitsL]
  exact ⟨fun h => ⟨testBit_lt (ofN_lt _) h, h⟩, fun h => h.2⟩
theorem two_eq {c d : Nat} (hc : c < 32) (hd : d < 32) (hne : c ≠ d) (a b : N) : (if d < c then mk (ofN [c, d]) [b, a] else mk (ofN [c, d]) [a, b]) = mk (ofN [c, d]) ((bitsL (ofN [c, d])).map fun i => if i = c then a else b) := by
  rw [bits_two hc hd hne]
  split
  · simp [Ne.symm hne]
  · simp [Ne.symm hne]
theorem mod_ne {g h l : Nat} (hg : g < 2 ^ 64) (hh : h < 2 ^ 64) (hne : g ≠ h) (hq : g % 32 ^ l = h % 32 ^ l) : l < 13 := Classical.byContradiction fun hl => by
  have e : (2 : Nat) ^ 64 ≤ 32 ^ l := Nat.le_trans (by decide : 2 ^ 64 ≤ 32 ^ 13) (Nat.pow_le_pow_right (by decide) (by omega))
  rw [Nat.mod_eq_of_lt (Nat.lt_of_lt_of_le hg e), Nat.mod_eq_of_lt (Nat.lt_of_lt_of_le hh e)] at hq
  exact hne hq
theorem fork_w {a b : N} {g h : Nat} (hg : g < 2 ^ 64) (hh : h < 2 ^ 64) (hne : g ≠ h) (ha : ∀ l, W l (g % 32 ^ l) a) (hb : ∀ l, W l (h % 32 ^ l) b) (hna : a.isN = false) (hnb : b.isN = false) :
    ∀ f l, 13 ≤ l + f → g % 32 ^ l = h % 32 ^ l → W l (h % 32 ^ l) (fork f a g b h l) ∧ (fork f a g b h l).isN = false ∧
      ∀ h' k' A B, (∀ l, look h' k' a l = if g = h' then A else Option.none) → (∀ l, look h' k' b l = if h = h' then B else Option.none) → look h' k' (fork f a g b h l) l = if g = h' then A else if h = h' then B else Option.none := by
  intro f
  induction f with
  | zero =>
    intro l hl hq
    have := mod_ne hg hh hne hq
    omega
  | succ f ih =>
    intro l hl hq
    have hl13 := mod_ne hg hh hne hq
    have hcg := chunkN_lt g l
    have hch := chunkN_lt h l
    have sg := chunk_step (h := g) hl13 rfl
    have sh := chunk_step (h := h) hl13 rfl
    rw [fork]
    by_cases hc : chunkN g l = chunkN h l
    · rw [if_pos hc]
      obtain ⟨i1, i2, i3⟩ := ih (l + 1) (by omega) (by rw [sg, sh, hq, hc])
      have e : mk (ofN [chunkN g l]) [fork f a g b h (l + 1)] = mk (ofN [chunkN g l]) ((bitsL (ofN [chunkN g l])).map fun _ => fork f a g b h (l + 1)) := by rw [bits_one hcg]; rfl
      rw [e]
      obtain ⟨m1, m2, m3⟩ := mk_set (q := h % 32 ^ l) (m := ofN [chunkN g l]) (F := fun _ => fork f a g b h (l + 1)) hl13 (ofN_lt _) (fun i hi hb => by
        rw [one_bit hcg] at hb
        subst hb
        refine ⟨i2, ?_⟩
        rw [hc, ← sh]; exact i1)
      refine ⟨m1, ?_, fun h' k' A B hA hB => ?_⟩
      · cases hn : (mk (ofN [chunkN g l]) ((bitsL (ofN [chunkN g l])).map fun _ => fork f a g b h (l + 1))).isN with
        | false => rfl
        | true => have := m2 hn; rw [bits_one hcg] at this; cases this
      · rw [m3]
        by_cases hb : chunkN h' l = chunkN g l
        · rw [if_pos ((one_bit hcg).2 hb)]
          exact i3 h' k' A B hA hB
        · rw [if_neg (fun z => hb ((one_bit hcg).1 z)), if_neg (fun z => hb (by rw [← z])), if_neg (fun z => hb (by rw [hc, ← z]))]
    · rw [if_neg hc, two_eq hcg hch hc]
      obtain ⟨m1, m2, m3⟩ := mk_set (q := h % 32 ^ l) (m := ofN [chunkN g l, chunkN h l]) (F := fun i => if i = chunkN g l then a else b) hl13 (ofN_lt _) (fun i hi hbit => by
        rw [two_bit hcg hch hc] at hbit
        rcases hbit with rfl | rfl
        · rw [if_pos rfl]
          refine ⟨hna, ?_⟩
          rw [← hq, ← sg]; exact ha _
        · rw [if_neg (Ne.symm hc)]
          refine ⟨hnb, ?_⟩
          rw [← sh]; exact hb _)
      refine ⟨m1, ?_, fun h' k' A B hA hB => ?_⟩
      · cases hn : (mk (ofN [chunkN g l, chunkN h l]) ((bitsL (ofN [chunkN g l, chunkN h l])).map fun i => if i = chunkN g l then a else b)).isN with
        | false => rfl
        | true => have := m2 hn; rw [bits_two hcg hch hc] at this; split at this <;> cases this
      · rw [m3]
        by_cases hb : chunkN h' l = chunkN g l
        · rw [if_pos ((two_bit hcg hch hc).2 (.inl hb)), if_pos hb, hA, if_neg (c := h = h') (fun z => hc (by rw [← hb, z]))]
        · by_cases hb2 : chunkN h' l = chunkN h l
          · rw [if_pos ((two_bit hcg hch hc).2 (.inr hb2)), if_neg hb, hB, if_neg (c := g = h') (fun z => hb (by rw [z]))]
          · rw [if_neg (fun z => ((two_bit hcg hch hc).1 z).elim hb hb2), if_neg (fun z => hb (by rw [← z])), if_neg (fun z => hb2 (by rw [← z]))]
theorem ofTree_w {l h : Nat} {t : T} (hh : h < 2 ^ 64) (hs : Sm t.toList) (hr : Srt t.toList) (hb : t.Bal) : W l (h % 32 ^ l) (ofTree h t) ∧ (t.size ≠ 0 → (ofTree h t).isN = false) ∧ ∀ h' k', look h' k' (ofTree h t) l = if h = h' then getL t.toList k' else Option.none := by
  by_cases h0 : t.size = 0
  · rw [T.size_zero h0]
    refine ⟨.none, fun e => absurd rfl e, fun h' k' => ?_⟩
    rw [show ofTree h T.nil = N.none from rfl, look_none]
    split <;> rfl
  · by_cases h1 : t.size = 1
    · obtain ⟨k, x, rfl⟩ := T.size_one h1
      have := hs (k, x) (.head _)
      refine ⟨⟨.leaf hh rfl this.1 this.2, .leaf⟩, fun _ => rfl, fun h' k' => ?_⟩
      rw [show ofTree h (T.node .nil k x .nil) = N.leaf h k x from rfl, look_leaf]
      show _ = if h = h' then getL [(k, x)] k' else Option.none
      rw [getL_cons, getL_nil]
      by_cases e : h = h'
      · simp [e, eq_comm]
      · simp [e]
    · rw [ofTree_big h0 h1]
      exact ⟨⟨.bucket hh rfl hs (by omega), .bucket hr hb⟩, fun _ => rfl, fun h' k' => look_bucket hr⟩
/-- What a Put keeps, and what is found after it. -/
theorem ins_w {h : Nat} {k x : Bs} (hh : h < 2 ^ 64) (hk : k.length ≤ 1000000) (hx : x.length ≤ 1000000) : ∀ n l, W l (h % 32 ^ l) n →
    W l (h % 32 ^ l) (ins h k x n l).1 ∧ (ins h k x n l).1.isN = false ∧ (∀ h' k', look h' k' (ins h k x n l).1 l = if h = h' ∧ k' = k then some x else look h' k' n l) ∧ (ins h k x n l).2 = (look h k n l).isNone := by
  have hleaf : ∀ l, W l (h % 32 ^ l) (.leaf h k x) := fun l => ⟨.leaf hh rfl hk hx, .leaf⟩
  refine rec2 ?_ ?_ ?_ ?_
  · intro l hw
    rw [ins]
    refine ⟨hleaf l, rfl, fun h' k' => ?_, by rw [look_none]; rfl⟩
    rw [look_leaf, look_none]
  · intro g k0 x0 l hw
    obtain ⟨hw1, -⟩ := hw
    cases hw1 with
    | leaf hg hq hk0 hx0 =>
    rw [ins]
    split
    · rename_i hne
      obtain ⟨f1, f2, f3⟩ := fork_w (a := .leaf g k0 x0) (b := .leaf h k x) hg hh hne (fun l => ⟨.leaf hg rfl hk0 hx0, .leaf⟩) hleaf rfl rfl 13 l (by omega) hq
      refine ⟨f1, f2, fun h' k' => ?_, ?_⟩
      · rw [f3 h' k' (if k' = k0 then some x0 else Option.none) (if k' = k then some x else Option.none) (fun l => by rw [look_leaf]; by_cases z : g = h' <;> simp [z]) (fun l => by rw [look_leaf]; by_cases z : h = h' <;> simp [z]), look_leaf]
        by_cases z1 : g = h'
        · have z2 : h ≠ h' := fun z2 => hne (by rw [z1, z2])
          simp [z1, z2]
        · simp [z1]
          by_cases z2 : h = h' <;> simp [z2]
      · rw [look_leaf, if_neg (fun z => hne z.1)]; rfl
    · rename_i he
      have he : g = h := Classical.not_not.1 he
      subst he
      split
      · rename_i hc
        have := cmpB_eq hc
        subst this
        refine ⟨hleaf l, rfl, fun h' k' => ?_, ?_⟩
        · rw [look_leaf, look_leaf]
          split <;> rfl
        · rw [look_leaf, if_pos ⟨rfl, rfl⟩]; rfl
      · rename_i hc
        have hc' : k ≠ k0 := fun e => hc (by rw [e, cmpB_self])
        have hl0 : (T.fromL [(k0, x0)]).toList = [(k0, x0)] := T.toList_fromL _
        have hs0 : Srt (T.fromL [(k0, x0)]).toList := by rw [hl0]; exact List.pairwise_singleton _ _
        have hm0 : Sm (T.fromL [(k0, x0)]).toList := by rw [hl0]; exact Sm.cons hk0 hx0 Sm.nil
        obtain ⟨o1, o2, o3⟩ := ofTree_w (l := l) hg (Sm.put hm0 hk hx) (T.put_srt _ k x hs0) (T.Bal.put k x (T.Bal.fromL _))
        refine ⟨o1, o2 (by have := (T.size_put (T.fromL [(k0, x0)]) k x).1; rw [T.size_fromL] at this; simp only [List.length_cons] at this; omega), fun h' k' => ?_, ?_⟩
        · rw [o3, T.put_get _ k x k' hs0, hl0, look_leaf, getL_cons, getL_nil]
          by_cases z1 : g = h'
          · subst z1
            by_cases z2 : k' = k <;> simp [z2, eq_comm]
          · simp [z1]
        · rw [look_leaf, if_neg (fun z => hc' z.2)]; rfl
  · intro g t l hw
    obtain ⟨hw1, hw2⟩ := hw
    cases hw2 with
    | bucket hr hb =>
    cases hw1 with
    | bucket hg hq hs h2 =>
    rw [ins]
    split
    · rename_i hne
      obtain ⟨f1, f2, f3⟩ := fork_w (a := .bucket g t) (b := .leaf h k x) hg hh hne (fun l => ⟨.bucket hg rfl hs h2, .bucket hr hb⟩) hleaf rfl rfl 13 l (by omega) hq
      refine ⟨f1, f2, fun h' k' => ?_, ?_⟩
      · rw [f3 h' k' (getL t.toList k') (if k' = k then some x else Option.none) (fun l => by rw [look_bucket hr]) (fun l => by rw [look_leaf]; by_cases z : h = h' <;> simp [z]), look_bucket hr]
        by_cases z1 : g = h'
        · have z2 : h ≠ h' := fun z2 => hne (by rw [z1, z2])
          simp [z1, z2]
        · simp [z1]
          by_cases z2 : h = h' <;> simp [z2]
      · rw [look_bucket hr, if_neg hne]; rfl
    · rename_i he
      have he : g = h := Classical.not_not.1 he
      subst he
      obtain ⟨o1, o2, o3⟩ := ofTree_w (l := l) hg (Sm.put hs hk hx) (T.put_srt _ k x hr) (T.Bal.put k x hb)
      refine ⟨o1, o2 (by have := (T.size_put t k x).1; omega), fun h' k' => ?_, ?_⟩
      · rw [o3, T.put_get _ k x k' hr, look_bucket hr]
        by_cases z1 : g = h'
        · simp [z1]
        · simp [z1]
      · rw [look_bucket hr, if_pos rfl, T.put_size t k x hr]
        cases getL t.toList k with
        | none => simp
        | some y => simp
  · intro m kids l ih hw
    have hl := hw.1.level
    have hc := chunkN_lt h l
    have hm : m < 2 ^ 32 := hw.1.map_lt
    have hstep := chunk_step (h := h) hl rfl
    obtain ⟨i1, i2, i3, i4⟩ := ih ((chunkN h l : Nat) : Int) (l + 1) (by rw [hstep]; exact hw.kid hc)
    rw [ins]
    have hnk : ∀ n ∈ kids, n.isN = false := by cases hw.1; assumption
    have hmm : (m ||| bitN ((chunkN h l : Nat) : Int)) < 2 ^ 32 := Nat.or_lt_two_pow hm (bitN_lt _)
    obtain ⟨m1, m2, m3⟩ := mk_set (l := l) (q := h % 32 ^ l) (m := m ||| bitN ((chunkN h l : Nat) : Int)) (F := fun i => wkid (.branch m kids) ((chunkN h l : Nat) : Int) (ins h k x (kid (.branch m kids) ((chunkN h l : Nat) : Int)) (l + 1)).1 (i : Int)) hl hmm (fun i hi hb => by
      simp only [wkid]
      by_cases e : i = chunkN h l
      · subst e
        rw [if_pos rfl]
        refine ⟨i2, ?_⟩
        rw [← hstep]; exact i1
      · rw [or_bit hc] at hb
        have hb' : m.testBit i = true := by simpa [e] using hb
        rw [if_neg (by omega)]
        exact ⟨hnk _ (kid_mem hw.1.fit (by rw [has_iff hi]; exact hb')), hw.kid hi⟩)
    refine ⟨m1, ?_, fun h' k' => ?_, ?_⟩
    · show (mk _ _).isN = false
      cases hn : (withK (.branch m kids) ((chunkN h l : Nat) : Int) (ins h k x (kid (.branch m kids) ((chunkN h l : Nat) : Int)) (l + 1)).1).isN with
      | false => exact hn
      | true =>
        have h0 := m2 hn
        have : chunkN h l ∈ bitsL (m ||| bitN ((chunkN h l : Nat) : Int)) := mem_bitsL.2 ⟨hc, by rw [or_bit hc]; simp⟩
        rw [h0] at this; cases this
    · refine (m3 h' k').trans ?_
      rw [look_branch, or_bit hc]
      simp only [wkid]
      by_cases e : chunkN h' l = chunkN h l
      · rw [e, if_pos (by simp), if_pos rfl, i3]
      · rw [if_neg (c := ((chunkN h' l : Nat) : Int) = ((chunkN h l : Nat) : Int)) (by omega), if_neg (c := h = h' ∧ k' = k) (fun z => e (by rw [z.1]))]
        by_cases hb : m.testBit (chunkN h' l) = true
        · rw [if_pos (by simp [hb])]
        · rw [if_neg (by simp [hb, e]), kid_no hb, look_none]
    · rw [look_branch]; exact i4
theorem collapse_w {l q : Nat} {n : N} (hq : q < 32 ^ l) (hw : W l q n) : W l q n.collapse ∧ ∀ h k, look h k n.collapse l = look h k n l := by
  cases n with
  | branch m kids =>
    simp only [collapse]
    split
    · exact ⟨hw, fun _ _ => rfl⟩
    · rename_i h1
      have h1 : (bitsL m).length = 1 := Classical.not_not.1 h1
      obtain ⟨c, hc⟩ := List.length_eq_one_iff.1 h1
      have hl := hw.1.level
      have hn : (nthN m 0).getD 0 = c := by unfold nthN; rw [if_pos (by omega), hc]; rfl
      rw [hn]
      have hcm : c < 32 ∧ m.testBit c = true := mem_bitsL.1 (by rw [hc]; exact .head _)
      split
      · exact ⟨hw, fun _ _ => rfl⟩
      · rename_i h3
        have hk := hw.kid hcm.1
        have hother : ∀ h k, look h k (.branch m kids) l = if chunkN h l = c then look h k (N.kid (.branch m kids) ((c : Nat) : Int)) (l + 1) else Option.none := fun h k => by
          rw [look_branch]
          by_cases e : chunkN h l = c
          · rw [if_pos e, e]
          · rw [if_neg e, kid_no, look_none]
            intro hb
            have : chunkN h l ∈ bitsL m := mem_bitsL.2 ⟨chunkN_lt _ _, hb⟩
            rw [hc] at this
            exact e (List.mem_singleton.1 this)
        have hmod : ∀ g, g % 32 ^ (l + 1) = q + c * 32 ^ l → g % 32 ^ l = q ∧ chunkN g l = c := fun g hg => by
          have hs := chunk_step (h := g) hl rfl
          rw [hg] at hs
          have hp : 0 < 32 ^ l := Nat.pow_pos (by decide)
          have a1 : (q + c * 32 ^ l) % 32 ^ l = q := by rw [Nat.add_mul_mod_self_right, Nat.mod_eq_of_lt hq]
          have a2 : (q + c * 32 ^ l) / 32 ^ l = c := by rw [Nat.add_mul_div_right _ _ hp, Nat.div_eq_of_lt hq, Nat.zero_add]
          have b1 : (g % 32 ^ l + chunkN g l * 32 ^ l) % 32 ^ l = g % 32 ^ l := by rw [Nat.add_mul_mod_self_right, Nat.mod_mod]
          have b2 : (g % 32 ^ l + chunkN g l * 32 ^ l) / 32 ^ l = chunkN g l := by rw [Nat.add_mul_div_right _ _ hp, Nat.div_eq_of_lt (Nat.mod_lt _ hp), Nat.zero_add]
          rw [hs] at a1 a2
          exact ⟨b1.symm.trans a1, b2.symm.trans a2⟩
        generalize hz : N.kid (.branch m kids) ((c : Nat) : Int) = z at *
        cases z with
        | none => exact ⟨.none, fun h k => by rw [hother, look_none, look_none]; split <;> rfl⟩
        | leaf g k0 x0 =>
          obtain ⟨hk1, -⟩ := hk
          cases hk1 with
          | leaf hg hgq a b =>
          obtain ⟨e1, e2⟩ := hmod g hgq
          refine ⟨⟨.leaf hg e1 a b, .leaf⟩, fun h k => ?_⟩
          rw [hother, look_leaf, look_leaf]
          by_cases e : chunkN h l = c
          · rw [if_pos e]
          · rw [if_neg e, if_neg (fun z => e (by rw [← z.1, e2]))]
        | bucket g t =>
          obtain ⟨hk1, hk2⟩ := hk
          cases hk2 with
          | bucket hr hb =>
          cases hk1 with
          | bucket hg hgq a b =>
          obtain ⟨e1, e2⟩ := hmod g hgq
          refine ⟨⟨.bucket hg e1 a b, .bucket hr hb⟩, fun h k => ?_⟩
          rw [hother, look_bucket hr, look_bucket hr]
          by_cases e : chunkN h l = c
          · rw [if_pos e]
          · rw [if_neg e, if_neg (fun z => e (by rw [← z, e2]))]
        | branch m2 kids2 => exact absurd rfl h3
  | _ => exact ⟨hw, fun _ _ => rfl⟩
/-- What a Delete keeps, and what is found after it. -/
theorem rem_w {h : Nat} {k : Bs} (hh : h < 2 ^ 64) : ∀ n l, W l (h % 32 ^ l) n →
    (rem h k n l).isSome = (look h k n l).isSome ∧ ∀ r, rem h k n l = some r → W l (h % 32 ^ l) r ∧ ∀ h' k', look h' k' r l = if h = h' ∧ k' = k then Option.none else look h' k' n l := by
  refine rec2 ?_ ?_ ?_ ?_
  · intro l hw
    rw [rem, look_none]
    exact ⟨rfl, fun r hr => by cases hr⟩
  · intro g k0 x0 l hw
    rw [rem, look_leaf]
    split
    · rename_i hne
      rw [if_neg (fun z => hne z.1)]
      exact ⟨rfl, fun r hr => by cases hr⟩
    · rename_i he
      have he : g = h := Classical.not_not.1 he
      subst he
      split
      · rename_i hc
        rw [if_neg (fun z => hc (by rw [z.2, cmpB_self]))]
        exact ⟨rfl, fun r hr => by cases hr⟩
      · rename_i hc
        have hc := cmpB_eq (Classical.not_not.1 hc)
        subst hc
        rw [if_pos ⟨rfl, rfl⟩]
        refine ⟨rfl, fun r hr => ?_⟩
        cases hr
        refine ⟨.none, fun h' k' => ?_⟩
        rw [look_none, look_leaf]
        split <;> rfl
  · intro g t l hw
    obtain ⟨hw1, hw2⟩ := hw
    cases hw2 with
    | bucket hr hb =>
    cases hw1 with
    | bucket hg hq hs h2 =>
    rw [rem, look_bucket hr]
    split
    · exact ⟨rfl, fun r hr => by cases hr⟩
    · rename_i he
      have he : g = h := Classical.not_not.1 he
      subst he
      rw [if_pos rfl, Option.isSome_map]
      refine ⟨T.del_some t k hr, fun r hd => ?_⟩
      cases ht : t.del k with
      | none => rw [ht] at hd; cases hd
      | some t' =>
        rw [ht] at hd
        cases hd
        have hl := T.del_list t k t' hr ht
        obtain ⟨o1, o2, o3⟩ := ofTree_w (l := l) (t := t') hg (Sm.del hs ht) (by rw [hl]; exact hr.filter _) (T.Bal.del hb ht)
        refine ⟨o1, fun h' k' => ?_⟩
        rw [o3, hl, getL_filter, look_bucket hr]
        by_cases z1 : g = h'
        · simp [z1]
        · simp [z1]
  · intro m kids l ih hw
    have hl := hw.1.level
    have hc := chunkN_lt h l
    have hm : m < 2 ^ 32 := hw.1.map_lt
    have hstep := chunk_step (h := h) hl rfl
    have hq : h % 32 ^ l < 32 ^ l := Nat.mod_lt _ (Nat.pow_pos (by decide))
    obtain ⟨i1, i2⟩ := ih ((chunkN h l : Nat) : Int) (l + 1) (by rw [hstep]; exact hw.kid hc)
    have hnk : ∀ n ∈ kids, n.isN = false := by cases hw.1; assumption
    rw [rem, look_branch, has_iff hc]
    by_cases hbit : m.testBit (chunkN h l) = true
    · rw [if_neg (by rw [hbit]; exact Bool.noConfusion), Option.isSome_map]
      refine ⟨i1, fun r hr => ?_⟩
      cases hrr : rem h k (kid (.branch m kids) ((chunkN h l : Nat) : Int)) (l + 1) with
      | none => rw [hrr] at hr; cases hr
      | some r0 =>
        rw [hrr] at hr
        simp only [Option.map_some, Option.some.injEq] at hr
        obtain ⟨j1, j2⟩ := i2 r0 hrr
        rw [hstep] at j1
        by_cases hn : r0.isN = true
        · rw [if_pos hn] at hr
          subst hr
          have hr0 : r0 = .none := by cases r0 <;> first | rfl | cases hn
          subst hr0
          obtain ⟨m1, m2, m3⟩ := mk_set (l := l) (q := h % 32 ^ l) (m := andNot 32 m (bitN ((chunkN h l : Nat) : Int))) (F := fun i => kid (.branch m kids) (i : Int)) hl (andNot_lt32 _ hm) (fun i hi hb => by
            rw [andNot_bit hm hc, Bool.and_eq_true] at hb
            exact ⟨hnk _ (kid_mem hw.1.fit (by rw [has_iff hi]; exact hb.1)), hw.kid hi⟩)
          obtain ⟨c1, c2⟩ := collapse_w hq m1
          refine ⟨c1, fun h' k' => (c2 h' k').trans ?_⟩
          rw [m3, andNot_bit hm hc, look_branch]
          by_cases e : chunkN h' l = chunkN h l
          · have := j2 h' k'
            rw [look_none] at this
            rw [e, if_neg (by simp)]; exact this
          · rw [if_neg (c := h = h' ∧ k' = k) (fun z => e (by rw [z.1]))]
            by_cases hb : m.testBit (chunkN h' l) = true
            · rw [if_pos (by simp [hb, e])]
            · rw [if_neg (by simp [hb]), kid_no hb, look_none]
        · rw [if_neg hn] at hr
          subst hr
          have hmm : (m ||| bitN ((chunkN h l : Nat) : Int)) < 2 ^ 32 := Nat.or_lt_two_pow hm (bitN_lt _)
          obtain ⟨m1, m2, m3⟩ := mk_set (l := l) (q := h % 32 ^ l) (m := m ||| bitN ((chunkN h l : Nat) : Int)) (F := fun i => wkid (.branch m kids) ((chunkN h l : Nat) : Int) r0 (i : Int)) hl hmm (fun i hi hb => by
            simp only [wkid]
            by_cases e : i = chunkN h l
            · subst e
              rw [if_pos rfl]
              exact ⟨by simpa using hn, j1⟩
            · rw [or_bit hc] at hb
              have hb' : m.testBit i = true := by simpa [e] using hb
              rw [if_neg (by omega)]
              exact ⟨hnk _ (kid_mem hw.1.fit (by rw [has_iff hi]; exact hb')), hw.kid hi⟩)
          obtain ⟨c1, c2⟩ := collapse_w hq m1
          refine ⟨c1, fun h' k' => (c2 h' k').trans ?_⟩
          rw [m3, or_bit hc, look_branch]
          simp only [wkid]
          by_cases e : chunkN h' l = chunkN h l
          · rw [e, if_pos (by simp), if_pos rfl, j2]
          · rw [if_neg (c := ((chunkN h' l : Nat) : Int) = ((chunkN h l : Nat) : Int)) (by omega), if_neg (c := h = h' ∧ k' = k) (fun z => e (by rw [z.1]))]
            by_cases hb : m.testBit (chunkN h' l) = true
            · rw [if_pos (by simp [hb])]
            · rw [if_neg (by simp [hb, e]), kid_no hb, look_none]
    · rw [if_pos (by simpa using hbit), kid_no hbit, look_none]
      exact ⟨rfl, fun r hr => by cases hr⟩
/-! ### What a call costs -/
theorem bucket_ht {t : T} {s r : Nat} (hb : t.Bal) (hs : t.size ≤ s) (hr : (s + 1) ^ 6 < 2 ^ r) : t.ht < r := by
  have h1 := T.ht_six t hb
  have h2 : (t.size + 1) ^ 6 ≤ (s + 1) ^ 6 := Nat.pow_le_pow_left (by omega) 6
  exact (Nat.pow_lt_pow_iff_right (by decide : 1 < 2)).1 (Nat.lt_of_le_of_lt h1 (Nat.lt_of_le_of_lt h2 hr))
theorem ins_cost {h : Nat} {k : Bs} {s r : Nat} (hr : (s + 1) ^ 6 < 2 ^ r) : ∀ n l, ∀ {q}, W l q n → n.size ≤ s → insV h k n l ≤ 14 - l + r ∧ insC h k n l ≤ insV h k n l := by
  have hr0 : 0 < r := Nat.pos_of_ne_zero fun e => by
    subst e
    have : 1 ≤ (s + 1) ^ 6 := Nat.pow_pos (by omega)
    simp only [Nat.pow_zero] at hr; omega
  refine rec2 (P := fun n l => ∀ {q}, W l q n → n.size ≤ s → insV h k n l ≤ 14 - l + r ∧ insC h k n l ≤ insV h k n l) ?_ ?_ ?_ ?_
  · intro l q hw hs
    rw [insV, insC]; exact ⟨Nat.zero_le _, Nat.le_refl _⟩
  · intro g k0 x0 l q hw hs
    rw [insV, insC]
    exact ⟨by omega, by split <;> omega⟩
  · intro g t l q hw hs
    rw [insV, insC]
    obtain ⟨-, hw2⟩ := hw
    cases hw2 with
    | bucket h1 h2 =>
    have := bucket_ht h2 (show t.size ≤ s from hs) hr
    have := T.path_le t k
    split
    · exact ⟨Nat.zero_le _, Nat.le_refl _⟩
    · exact ⟨by omega, Nat.le_refl _⟩
  · intro m kids l ih q hw hs
    have hl := hw.1.level
    have hc := chunkN_lt h l
    obtain ⟨i1, i2⟩ := ih ((chunkN h l : Nat) : Int) (l + 1) (hw.kid hc) (Nat.le_trans (kid_size hw.1.fit hc) hs)
    rw [insV, insC]
    exact ⟨by omega, by omega⟩
theorem rem_cost {h : Nat} {k : Bs} {s r : Nat} (hr : (s + 1) ^ 6 < 2 ^ r) : ∀ n l, ∀ {q}, W l q n → n.size ≤ s → remV h k n l ≤ 14 - l + r ∧ remC h k n l ≤ remV h k n l := by
  have hr0 : 0 < r := Nat.pos_of_ne_zero fun e => by
    subst e
    have : 1 ≤ (s + 1) ^ 6 := Nat.pow_pos (by omega)
    simp only [Nat.pow_zero] at hr; omega
  refine rec2 (P := fun n l => ∀ {q}, W l q n → n.size ≤ s → remV h k n l ≤ 14 - l + r ∧ remC h k n l ≤ remV h k n l) ?_ ?_ ?_ ?_
  · intro l q hw hs
    rw [remV, remC]; exact ⟨Nat.zero_le _, Nat.le_refl _⟩
  · intro g k0 x0 l q hw hs
    rw [remV, remC]
    exact ⟨by omega, by split <;> omega⟩
  · intro g t l q hw hs
    rw [remV, remC]
    obtain ⟨-, hw2⟩ := hw
    cases hw2 with
    | bucket h1 h2 =>
    have := bucket_ht h2 (show t.size ≤ s from hs) hr
    have := T.delV_le t k
    have := T.path_delV t k
    split
    · exact ⟨Nat.zero_le _, Nat.le_refl _⟩
    · exact ⟨by omega, by omega⟩
  · intro m kids l ih q hw hs
    have hl := hw.1.level
    have hc := chunkN_lt h l
    obtain ⟨i1, i2⟩ := ih ((chunkN h l : Nat) : Int) (l + 1) (hw.kid hc) (Nat.le_trans (kid_size hw.1.fit hc) hs)
    rw [remV, remC]
    split
    · exact ⟨by omega, by omega⟩
    · exact ⟨by omega, by omega⟩
theorem way_cost {h : Nat} {k : Bs} {s r : Nat} (hr : (s + 1) ^ 6 < 2 ^ r) : ∀ n l, ∀ {q}, W l q n → n.size ≤ s → l ≤ 13 → (way h n l).2 + endV h k (way h n l).1 ≤ 14 + r ∧ endC h k (way h n l).1 ≤ endV h k (way h n l).1 := by
  have hr0 : 0 < r := Nat.pos_of_ne_zero fun e => by
    subst e
    have : 1 ≤ (s + 1) ^ 6 := Nat.pow_pos (by omega)
    simp only [Nat.pow_zero] at hr; omega
  refine rec2 (P := fun n l => ∀ {q}, W l q n → n.size ≤ s → l ≤ 13 → (way h n l).2 + endV h k (way h n l).1 ≤ 14 + r ∧ endC h k (way h n l).1 ≤ endV h k (way h n l).1) ?_ ?_ ?_ ?_
  · intro l q hw hs hl
    rw [way_end h l rfl]
    exact ⟨by simp only [endV]; omega, Nat.le_refl _⟩
  · intro g k0 x0 l q hw hs hl
    rw [way_end h l rfl]
    simp only [endV, endC]
    exact ⟨by omega, by split <;> omega⟩
  · intro g t l q hw hs hl
    rw [way_end h l rfl]
    simp only [endV, endC]
    obtain ⟨-, hw2⟩ := hw
    cases hw2 with
    | bucket h1 h2 =>
    have := bucket_ht h2 (show t.size ≤ s from hs) hr
    have := T.path_le t k
    split
    · exact ⟨by omega, Nat.le_refl _⟩
    · exact ⟨by omega, Nat.le_refl _⟩
  · intro m kids l ih q hw hs hl
    have hl := hw.1.level
    have hc := chunkN_lt h l
    rw [way]
    exact ih ((chunkN h l : Nat) : Int) (l + 1) (hw.kid hc) (Nat.le_trans (kid_size hw.1.fit hc) hs) (by omega)
end N
/-! ### The model: lists of pairs -/
theorem putF_get (k x k' : Bs) (hne : k' ≠ k) : ∀ (l : List (Bs × Bs)) (s : List (Bs × Bs) × Bool), getL (l.foldl (putF k x) s).1 k' = (getL s.1 k').or (getL l k')
  | [], s => by rw [getL_nil, Option.or_none]; rfl
  | q :: l, s => by
    rw [List.foldl_cons, putF_get k x k' hne l, getL_cons]
    have hkx : getL [(k, x)] k' = none := by rw [getL_cons, if_neg (Ne.symm hne)]; rfl
    have hqk : q.1 = k → (if q.1 = k' then some q.2 else getL l k') = getL l k' := fun e => by rw [if_neg (fun z => hne (by rw [← z, e]))]
    have hq1 : getL [q] k' = if q.1 = k' then some q.2 else none := getL_cons _ _ _
    have hor : ∀ a : Option Bs, (a.or (getL [q] k')).or (getL l k') = a.or (if q.1 = k' then some q.2 else getL l k') := fun a => by
      rw [Option.or_assoc, hq1]; congr 1; split <;> rfl
    by_cases h1 : s.2 = true
    · by_cases h2 : q.1 = k
      · rw [putF_1 h1 h2, hqk h2]
      · rw [putF_2 h1 h2, getL_append, hor]
    · have h1 : s.2 = false := by simpa using h1
      by_cases h3 : cmpB q.1 k < 0
      · by_cases h2 : q.1 = k
        · rw [putF_3 h1 h3 h2, hqk h2]
        · rw [putF_4 h1 h3 h2, getL_append, hor]
      · by_cases h2 : q.1 = k
        · rw [putF_5 h1 h3 h2, hqk h2, getL_append, hkx, Option.or_none]
        · rw [putF_6 h1 h3 h2, getL_append, getL_append, hkx, Option.or_none, hor]
theorem putF_own (k x : Bs) : ∀ (l : List (Bs × Bs)) (s : List (Bs × Bs) × Bool), getL s.1 k = (if s.2 = true then some x else none) → getL (l.foldl (putF k x) s).1 k = if (l.foldl (putF k x) s).2 = true then some x else none
  | [], s, h => h
  | q :: l, s, h => by
    rw [List.foldl_cons]
    refine putF_own k x l _ ?_
    have hkx : getL [(k, x)] k = some x := by rw [getL_cons, if_pos rfl]
    have hq1 : ¬ q.1 = k → getL [q] k = none := fun e => by rw [getL_cons, if_neg e]; rfl
    by_cases h1 : s.2 = true
    · rw [if_pos h1] at h
      by_cases h2 : q.1 = k
      · rw [putF_1 h1 h2, if_pos rfl]; exact h
      · rw [putF_2 h1 h2, getL_append, h]; rfl
    · have h1 : s.2 = false := by simpa using h1
      rw [if_neg (by rw [h1]; exact Bool.noConfusion)] at h
      by_cases h3 : cmpB q.1 k < 0
      · by_cases h2 : q.1 = k
        · rw [putF_3 h1 h3 h2]; exact h
        · rw [putF_4 h1 h3 h2, getL_append, h, hq1 h2]; rfl
      · by_cases h2 : q.1 = k
        · rw [putF_5 h1 h3 h2, getL_append, h, hkx]; rfl
        · rw [putF_6 h1 h3 h2, getL_append, getL_append, h, hkx]; rfl
theorem getL_put (l : List (Bs × Bs)) (k x k' : Bs) : getL (putL l k x) k' = if k' = k then some x else getL l k' := by
  unfold putL
  have hkx : getL [(k, x)] k' = if k' = k then some x else none := by rw [getL_cons, getL_nil]; simp only [eq_comm]
  by_cases e : k' = k
  · subst e
    have := putF_own k' x l ([], false) rfl
    rw [if_pos rfl]
    split
    · rename_i h; rw [show (putS l k' x).1 = (l.foldl (putF k' x) ([], false)).1 from rfl, this]; exact if_pos h
    · rename_i h
      rw [getL_append, show (putS l k' x).1 = (l.foldl (putF k' x) ([], false)).1 from rfl, this, hkx, if_neg (c := (l.foldl (putF k' x) ([], false)).2 = true) h, if_pos rfl]; rfl
  · have := putF_get k x k' e l ([], false)
    rw [if_neg e]
    split
    · exact this
    · rw [getL_append, hkx, if_neg e, Option.or_none]; exact this
theorem putF_len (k x : Bs) : ∀ (l : List (Bs × Bs)) (s : List (Bs × Bs) × Bool), (l.foldl (putF k x) s).1.length + (if (l.foldl (putF k x) s).2 = true then 0 else 1) ≤ s.1.length + (if s.2 = true then 0 else 1) + l.length
  | [], s => Nat.le_refl _
  | q :: l, s => by
    rw [List.foldl_cons]
    have ih := putF_len k x l (putF k x s q)
    have : (putF k x s q).1.length + (if (putF k x s q).2 = true then 0 else 1) ≤ s.1.length + (if s.2 = true then 0 else 1) + 1 := by
      by_cases h1 : s.2 = true
      · by_cases h2 : q.1 = k
        · rw [putF_1 h1 h2]; simp [h1]
        · rw [putF_2 h1 h2]; simp [h1]
      · have h1 : s.2 = false := by simpa using h1
        by_cases h3 : cmpB q.1 k < 0
        · by_cases h2 : q.1 = k
          · rw [putF_3 h1 h3 h2]; simp [h1]
          · rw [putF_4 h1 h3 h2]; simp [h1]
        · by_cases h2 : q.1 = k
          · rw [putF_5 h1 h3 h2]; simp [h1]
          · rw [putF_6 h1 h3 h2]; simp [h1]
    simp only [List.length_cons]; omega
theorem putL_len (l : List (Bs × Bs)) (k x : Bs) : (putL l k x).length ≤ l.length + 1 := by
  have := putF_len k x l ([], false)
  unfold putL
  rw [show (([], false) : List (Bs × Bs) × Bool).1.length = 0 from rfl, if_neg (c := (([], false) : List (Bs × Bs) × Bool).2 = true) Bool.noConfusion] at this
  split
  · unfold putS; omega
  · rename_i h
    rw [if_neg (c := (l.foldl (putF k x) ([], false)).2 = true) h] at this
    rw [List.length_append]
    unfold putS
    simp only [List.length_cons, List.length_nil]
    omega
theorem putF_mem (k x : Bs) : ∀ (l : List (Bs × Bs)) (s : List (Bs × Bs) × Bool), ∀ p ∈ (l.foldl (putF k x) s).1, p ∈ s.1 ∨ p ∈ l ∨ p = (k, x)
  | [], s, p, h => .inl h
  | q :: l, s, p, h => by
    rw [List.foldl_cons] at h
    rcases putF_mem k x l (putF k x s q) p h with h | h | h
    · have : p ∈ s.1 ∨ p = q ∨ p = (k, x) := by
        unfold putF at h
        simp only at h
        split at h <;> split at h <;> (try simp only [List.mem_append, List.mem_singleton] at h)
        · rcases h with h | h
          · exact .inl h
          · exact .inr (.inr h)
        · exact .inl h
        · rcases h with (h | h) | h
          · exact .inl h
          · exact .inr (.inr h)
          · exact .inr (.inl h)
        · rcases h with h | h
          · exact .inl h
          · exact .inr (.inl h)
      rcases this with h | h | h
      · exact .inl h
      · subst h; exact .inr (.inl (.head _))
      · exact .inr (.inr h)
    · exact .inr (.inl (.tail _ h))
    · exact .inr (.inr h)
theorem putL_mem {l : List (Bs × Bs)} {k x : Bs} : ∀ p ∈ putL l k x, p ∈ l ∨ p = (k, x) := by
  intro p hp
  have key : p ∈ (putS l k x).1 → p ∈ l ∨ p = (k, x) := fun h => by
    rcases putF_mem k x l ([], false) p h with h | h
    · cases h
    · exact h
  unfold putL at hp
  split at hp
  · exact key hp
  · rcases List.mem_append.1 hp with h | h
    · exact key h
    · exact .inr (List.mem_singleton.1 h)
end Go.Proofs.YtlnlodfnplkckaaDoor
/- Literals of bytes: the conversion of a row to its own type; two arrays alike. Each theorem's conditions stand in it. -/
namespace Go.Proofs.YtlnlodfnplkckaaDoor
set_option linter.unusedVariables false
section
variable {P : Program} {Q : Exit → Act → World → Prop} {K : Act → World → Prop} {f : Nat → Value} {n : Fr} {w w' : World}
  {d : Nat} {op : Op} {ty : TypeId} {pos : String} {af : Array Edge} {v : Value} {g : Option (Nat × Bool)}
  {w0 : World} {I0 I : GH} {X0 : List Nat} {X L : List Bx}
theorem freeze_at {b : Nat} {cs : Array Value} {T : TypeId} (h : w.heap[b]? = some (.cells cs T (0, 0))) : (w.freeze ⟨b, cs.size, none⟩ 1).heap[b]? = some (.cells cs T (cs.size, cs.size + 1)) := by
  unfold World.freeze
  rw [if_neg (by decide)]
  simp only [Array.getElem?_modify, if_true, h, Option.map_some]
  rfl
theorem freeze_other {b k : Nat} {m : Nat} (h : k ≠ b) : (w.freeze ⟨b, m, none⟩ 1).heap[k]? = w.heap[k]? := by
  unfold World.freeze
  rw [if_neg (by decide)]
  simp only [Array.getElem?_modify, if_neg (Ne.symm h)]
theorem freeze_size {a : Addr} {m : Nat} : (w.freeze a m).heap.size = w.heap.size := by
  unfold World.freeze
  split
  · rfl
  · simp
theorem freeze_rest {a : Addr} {m : Nat} : (w.freeze a m).os = w.os ∧ (w.freeze a m).tape = w.tape ∧ (w.freeze a m).output = w.output := by
  unfold World.freeze
  split <;> exact ⟨rfl, rfl, rfl⟩
theorem St.mark {b : Nat} {cs : Array Value} {T : TypeId} (h : St w0 I0 X0 I (⟨b, cs, T⟩ :: L) w) (hb : w0.heap.size ≤ b) :
    St w0 I0 X0 (I.add b (.cells cs T (cs.size, cs.size + 1))) L (w.freeze ⟨b, cs.size, none⟩ 1) ∧ I.le (I.add b (.cells cs T (cs.size, cs.size + 1))) := by
  have hn := (h.own _ (.head _)).1
  have hnd := List.nodup_cons.1 (show (b :: ids L).Nodup from h.nd)
  have hh := h.bx _ (.head _)
  have hne : ∀ y ∈ L, y.b ≠ b := fun y hy e => hnd.1 (List.mem_map.2 ⟨y, hy, e⟩)
  refine ⟨⟨⟨?_, ?_⟩, h.le.trans (GH.le_add _ hn), ?_, ⟨freeze_rest.1.trans h.fr.os, freeze_rest.2.1.trans h.fr.tape, freeze_rest.2.2.trans h.fr.output, by rw [freeze_size]; exact h.fr.size, ?_⟩, ?_, ?_, hnd.2⟩, GH.le_add _ hn⟩
  · intro k o hk
    by_cases e : k = b
    · subst e; rw [GH.add_same] at hk; rw [← hk]; exact freeze_at hh
    · rw [GH.add_other I _ e] at hk; rw [freeze_other e]; exact h.sat.blk k o hk
  · intro k o hk
    by_cases e : k = b
    · subst e; rw [GH.add_same] at hk; cases hk; rfl
    · rw [GH.add_other I _ e] at hk; exact h.sat.cel k o hk
  · intro k hk
    rw [GH.add_other I _ (by omega)]; exact h.old k hk
  · intro k hk hx
    rw [freeze_other (by omega)]; exact h.fr.block k hk hx
  · intro y hy
    rw [freeze_other (hne y hy)]; exact h.bx y (.tail _ hy)
  · intro y hy
    have hy' := h.own y (.tail _ hy)
    refine ⟨?_, hy'.2⟩
    rw [GH.add_other I _ (hne y hy)]; exact hy'.1
theorem run_mark {b : Nat} {cs : Array Value} {T : TypeId} (h : w.heap[b]? = some (.cells cs T (0, 0))) : (markStringish ⟨b, 0, none⟩).run P w = .ok () (w.freeze ⟨b, cs.size, none⟩ 1) := by
  have hsh : w.shape? b = some (T, cs.size) := by unfold World.shape?; rw [h]
  simp [markStringish, hsh]
/-- A row that was just made is converted to its own type: it is a literal, and never changes any more. -/
theorem ow_convlit {src e b len cap : Nat} {x : Operand} {cs : Array Value} {T : TypeId} (hs : St w0 I0 X0 I (⟨b, cs, T⟩ :: L) w) (hx : okO n x = true) (ht : byT P src e = true) (hv : ev f x = .slice (some ⟨b, 0, none⟩) len cap) (hb : w0.heap.size ≤ b) (hd : Nat.blt d n.k = true)
    (k : ∀ J w', J b = some (.cells cs T (cs.size, cs.size + 1)) → I.le J → St w0 I0 X0 J L w' → K (FA (upd f d (.slice (some ⟨b, 0, none⟩) len cap)) n) w') :
    OW P ⟨some d, .convert src src x, ty, pos, af, g⟩ f n w K Q := by
  refine ow_val (w' := w.freeze ⟨b, cs.size, none⟩ 1) (v := .slice (some ⟨b, 0, none⟩) len cap) ?_ hd (k _ _ (GH.add_same _ _ _) (hs.mark hb).2 (hs.mark hb).1)
  unfold byT at ht
  cases hu : P.underlying src with
  | none => simp [hu] at ht
  | some dd =>
    cases dd <;> simp [hu] at ht
    obtain ⟨h1, h2⟩ := ht
    rw [h1] at hu
    unfold intT at h2
    cases hue : P.underlying e with
    | none => simp [hue] at h2
    | some de =>
      cases de <;> simp [hue] at h2
      subst h2
      have hm := run_mark (P := P) (hs.bx _ (.head _))
      simp only [execOp, FA_eval hx, hv, Sem.run_bind, convert, run_underlying hu, run_underlying hue, Result.andThen_ok, beq_self_eq_true, hm, Sem.run_pure]
/-- Two arrays that are alike. -/
theorem r_eqA {t : TypeId} {yt : TypeId} {x y : Operand} {a : Array Value} (hx : okO n x = true) (hy : okO n y = true) (hk : P.keyTypeAt 3 t = true) (hwide : (match P.underlying t with | some (.array _ _) | some (.struct _) => true | _ => false) = true)
    (hg : P.eqGuardType P.depth t = false) (hl : (keyOf P t (.agg a)).isSome = true) (ha : ev f x = .agg a) (hb : ev f y = .agg a) :
    (execOp (FA f n).eval ⟨some d, .binOp .eql t x y yt, ty, pos, af, g⟩).run P w = .ok (.value (.bool true)) w := by
  obtain ⟨l, hl⟩ := Option.isSome_iff_exists.1 hl
  obtain ⟨r, h1, h2⟩ := run_equal_deep (P := P) w (m := 3) (by decide) hk hwide hl hl
  rw [h2.2 rfl] at h1
  simp [execOp, FA_eval hx, FA_eval hy, ha, hb, eqGuard, binOp, h1, hg]
end
end Go.Proofs.YtlnlodfnplkckaaDoor
/- The contract of awake: the example. -/
namespace Go.Proofs.YtlnlodfnplkckaaDoor
set_option linter.unusedVariables false
set_option linter.unusedSimpArgs false
def s1 : Nat → UInt8
  | 0 => 1
  | _ => 0
theorem awnew_ok {I : GH} : Fn Tryd.prog 13 #[.agg #[.int .u8 1, .int .u8 0, .int .u8 0, .int .u8 0, .int .u8 0, .int .u8 0, .int .u8 0, .int .u8 0, .int .u8 0, .int .u8 0, .int .u8 0, .int .u8 0, .int .u8 0, .int .u8 0, .int .u8 0, .int .u8 0]] I [] (fun v J _ => v = .agg #[.int .u8 1, .int .u8 0, .int .u8 0, .int .u8 0, .int .u8 0, .int .u8 0, .int .u8 0, .int .u8 0, .int .u8 0, .int .u8 0, .int .u8 0, .int .u8 0, .int .u8 0, .int .u8 0, .int .u8 0, .int .u8 0, .nilIface] ∧ I = J) := trie_new_ok (s := s1)
theorem awput_ok {I : GH} {kv xv : Value} (ht : TabG I) (hst : StartG I) (hk : BytesAt I kv [107]) (hx : BytesAt I xv [118]) :
    Fn Tryd.prog 37 #[.agg #[.int .u8 1, .int .u8 0, .int .u8 0, .int .u8 0, .int .u8 0, .int .u8 0, .int .u8 0, .int .u8 0, .int .u8 0, .int .u8 0, .int .u8 0, .int .u8 0, .int .u8 0, .int .u8 0, .int .u8 0, .int .u8 0, .nilIface], .agg #[kv, xv], .pointer none] I [] (fun r J _ => ∃ u, r = .tuple #[.agg #[.int .u8 1, .int .u8 0, .int .u8 0, .int .u8 0, .int .u8 0, .int .u8 0, .int .u8 0, .int .u8 0, .int .u8 0, .int .u8 0, .int .u8 0, .int .u8 0, .int .u8 0, .int .u8 0, .int .u8 0, .int .u8 0, u], .bool true] ∧ NodeAt J u (.leaf (hashN s1 [107]) [107] [118])) :=
  (trie_putn_ok (s := s1) (n := .none) ht hst (by decide) (by decide) .none (Nat.zero_le _) rfl hk hx).mono fun v J X' ⟨u, h1, h2, _⟩ => by
    rw [N.insN_eq.1] at h1 h2
    exact ⟨u, h1, h2⟩
theorem aw_wf : N.WF 0 0 (.leaf (hashN s1 [107]) [107] [118]) := .leaf (hashN_lt _ _) (Nat.mod_one _) (by decide) (by decide)
theorem awget_ok {I : GH} {kv nv : Value} (ht : TabG I) (hst : StartG I) (hn : NodeAt I nv (.leaf (hashN s1 [107]) [107] [118])) (hk : BytesAt I kv [107]) :
    Fn Tryd.prog 38 #[.agg #[.int .u8 1, .int .u8 0, .int .u8 0, .int .u8 0, .int .u8 0, .int .u8 0, .int .u8 0, .int .u8 0, .int .u8 0, .int .u8 0, .int .u8 0, .int .u8 0, .int .u8 0, .int .u8 0, .int .u8 0, .int .u8 0, nv], kv, .pointer none] I [] (fun r J _ => ∃ xv, r = .tuple #[xv, .bool true] ∧ BytesAt J xv [118]) :=
  (trie_getn_ok (s := s1) ht hst (by decide) aw_wf (by decide) hn hk).mono fun v J X' ⟨u, h1, h2, _⟩ => by
    have e : N.endGet (hashN s1 [107]) [107] (N.way (hashN s1 [107]) (.leaf (hashN s1 [107]) [107] [118]) 0).1 = some [118] := by
      rw [N.way_end _ _ rfl]; simp only [N.endGet, cmpB_self, and_self, if_true]
    rw [e] at h1 h2
    exact ⟨u, h1, h2⟩
theorem awlen_ok {I : GH} {nv : Value} (hn : NodeAt I nv (.leaf (hashN s1 [107]) [107] [118])) :
    Fn Tryd.prog 14 #[.agg #[.int .u8 1, .int .u8 0, .int .u8 0, .int .u8 0, .int .u8 0, .int .u8 0, .int .u8 0, .int .u8 0, .int .u8 0, .int .u8 0, .int .u8 0, .int .u8 0, .int .u8 0, .int .u8 0, .int .u8 0, .int .u8 0, nv]] I [] (fun r J _ => r = .int .i64 1 ∧ I = J) := trie_len_ok (s := s1) hn
theorem awseed_ok {I : GH} {nv : Value} {n : N} (hn : NodeAt I nv n) :
    Fn Tryd.prog 39 #[.agg #[.int .u8 1, .int .u8 0, .int .u8 0, .int .u8 0, .int .u8 0, .int .u8 0, .int .u8 0, .int .u8 0, .int .u8 0, .int .u8 0, .int .u8 0, .int .u8 0, .int .u8 0, .int .u8 0, .int .u8 0, .int .u8 0, nv]] I [] (fun r J _ => r = .agg #[.int .u8 1, .int .u8 0, .int .u8 0, .int .u8 0, .int .u8 0, .int .u8 0, .int .u8 0, .int .u8 0, .int .u8 0, .int .u8 0, .int .u8 0, .int .u8 0, .int .u8 0, .int .u8 0, .int .u8 0, .int .u8 0] ∧ I = J) := trie_seed_ok (s := s1) hn
set_option maxRecDepth 100000 in
theorem awake_ok {I : GH} (ht : TabG I) (hst : StartG I) : Fn Tryd.prog 12 #[] I [] (fun v J _ => v = .bool true) := by
  refine enter (args := []) Tryd.func12 rfl rfl fun w0 hs0 => ?_
  refine wp_seq_k fun K1 hK2 => ?_
  refine wl_begin ?_
  refine sq (r_assign rfl) rfl ?_
  refine wl_nil ?_
  refine hK2 _ _ ?_; (try clear hK2 K1)
  refine wp_seq_k fun K3 hK4 => ?_
  refine wl_begin ?_
  refine sq (r_build (.cons rfl rfl .nil) (cells := #[.int .u8 1, .int .u8 0, .int .u8 0, .int .u8 0, .int .u8 0, .int .u8 0, .int .u8 0, .int .u8 0, .int .u8 0, .int .u8 0, .int .u8 0, .int .u8 0, .int .u8 0, .int .u8 0, .int .u8 0, .int .u8 0]) (by kernel_rfl)) rfl ?_
  refine sqo rfl fun K5 hK6 => ow_call (X := []) (L := []) (lb := []) hs0 awnew_ok (by kernel_rfl) rfl rfl rfl rfl rfl ?_
  rintro _ _ X1 w7 ⟨rfl, rfl⟩ - hs8 hid9
  obtain rfl : X1 = [] := List.map_eq_nil_iff.1 hid9
  replace hs8 : St w0 I (ids []) I [] w7 := hs8
  clear hs0 hid9
  refine hK6 _ _ ?_; clear hK6 K5
  refine sqo rfl fun K10 hK11 => ow_newbox (mk := fun b => .slice (some ⟨b, 0, none⟩) 1 1) hs8 (r_buildSlice (e := 5) (cells := #[.int .u8 107]) (.cons rfl rfl .nil) (by kernel_rfl)) rfl ?_
  rintro b12 w13 (hs14 : St w0 I (ids []) I [⟨b12, #[.int .u8 107], 5⟩] w13)
  clear hs8
  refine hK11 _ _ ?_; clear hK11 K10
  refine sqo rfl fun K15 hK16 => ow_convlit (e := 5) hs14 rfl (by kernel_rfl) rfl (St.own_ge hs14) rfl ?_
  rintro G1 w17 hb18 le19 hs20
  clear hs14
  refine hK16 _ _ ?_; clear hK16 K15
  refine sqo rfl fun K21 hK22 => ow_newbox (mk := fun b => .slice (some ⟨b, 0, none⟩) 1 1) hs20 (r_buildSlice (e := 5) (cells := #[.int .u8 118]) (.cons rfl rfl .nil) (by kernel_rfl)) rfl ?_
  rintro b23 w24 (hs25 : St w0 I (ids []) G1 [⟨b23, #[.int .u8 118], 5⟩] w24)
  clear hs20
  refine hK22 _ _ ?_; clear hK22 K21
  refine sqo rfl fun K26 hK27 => ow_convlit (e := 5) hs25 rfl (by kernel_rfl) rfl (St.own_ge hs25) rfl ?_
  rintro G2 w28 hb29 le30 hs31
  clear hs25
  refine hK27 _ _ ?_; clear hK27 K26
  refine sq (r_build (.cons rfl (One.cells ((bytes_lit (off := 0) (len := 1) (cap := 1) (k := [107]) hb18 rfl (by decide) rfl)).one) (.cons rfl (One.cells ((bytes_lit (off := 0) (len := 1) (cap := 1) (k := [118]) hb29 rfl (by decide) rfl)).one) .nil)) (cells := #[(.slice (some ⟨b12, 0, none⟩) 1 1), (.slice (some ⟨b23, 0, none⟩) 1 1)]) (by kernel_rfl)) rfl ?_
  refine sqo rfl fun K32 hK33 => ow_call (X := []) (L := []) (lb := []) hs31 (awput_ok (ht.up (le19.trans le30)) (hst.up (le19.trans le30)) ((bytes_lit (off := 0) (len := 1) (cap := 1) (k := [107]) hb18 rfl (by decide) rfl).up le30) (bytes_lit (off := 0) (len := 1) (cap := 1) (k := [118]) hb29 rfl (by decide) rfl)) (by kernel_rfl) rfl rfl rfl rfl rfl ?_
  rintro _ G3 X1 w36 ⟨u34, rfl, hn35⟩ le39 hs37 hid38
  obtain rfl : X1 = [] := List.map_eq_nil_iff.1 hid38
  replace hs37 : St w0 I (ids []) G3 [] w36 := hs37
  clear hs31 hid38
  refine hK33 _ _ ?_; clear hK33 K32
  refine sq (r_move rfl) rfl ?_
  refine sq (r_extract rfl rfl rfl) rfl ?_
  refine sq (r_extract rfl rfl rfl) rfl ?_
  refine sqo rfl fun K40 hK41 => ow_newbox (mk := fun b => .pointer (some ⟨b, 0, none⟩)) hs37 (r_alloc (cs := [.int .u8 0, .int .u8 0, .int .u8 0, .int .u8 0, .int .u8 0, .int .u8 0, .int .u8 0, .int .u8 0, .int .u8 0, .int .u8 0, .int .u8 0, .int .u8 0, .int .u8 0, .int .u8 0, .int .u8 0, .int .u8 0, .nilIface]) (by kernel_rfl)) rfl ?_
  rintro b42 w43 (hs44 : St w0 I (ids []) G3 [⟨b42, #[.int .u8 0, .int .u8 0, .int .u8 0, .int .u8 0, .int .u8 0, .int .u8 0, .int .u8 0, .int .u8 0, .int .u8 0, .int .u8 0, .int .u8 0, .int .u8 0, .int .u8 0, .int .u8 0, .int .u8 0, .int .u8 0, .nilIface], 30⟩] w43)
  clear hs37
  refine hK41 _ _ ?_; clear hK41 K40
  refine sqo rfl fun K45 hK46 => ow_storeK (vs := [.int .u8 1, .int .u8 0, .int .u8 0, .int .u8 0, .int .u8 0, .int .u8 0, .int .u8 0, .int .u8 0, .int .u8 0, .int .u8 0, .int .u8 0, .int .u8 0, .int .u8 0, .int .u8 0, .int .u8 0, .int .u8 0, u34]) (cs' := #[.int .u8 1, .int .u8 0, .int .u8 0, .int .u8 0, .int .u8 0, .int .u8 0, .int .u8 0, .int .u8 0, .int .u8 0, .int .u8 0, .int .u8 0, .int .u8 0, .int .u8 0, .int .u8 0, .int .u8 0, .int .u8 0, u34]) hs44 rfl rfl (by kernel_rfl) rfl rfl (.cons trivial (.cons trivial (.cons trivial (.cons trivial (.cons trivial (.cons trivial (.cons trivial (.cons trivial (.cons trivial (.cons trivial (.cons trivial (.cons trivial (.cons trivial (.cons trivial (.cons trivial (.cons trivial (.cons hn35.one .nil))))))))))))))))) (by kernel_rfl) (by kernel_rfl) ?_
  rintro w47 (hs48 : St w0 I (ids []) G3 [⟨b42, #[.int .u8 1, .int .u8 0, .int .u8 0, .int .u8 0, .int .u8 0, .int .u8 0, .int .u8 0, .int .u8 0, .int .u8 0, .int .u8 0, .int .u8 0, .int .u8 0, .int .u8 0, .int .u8 0, .int .u8 0, .int .u8 0, u34], 30⟩] w47)
  clear hs44
  refine hK46 _ _ ?_; clear hK46 K45
  refine sq (r_assign rfl) rfl ?_
  refine wl_nil ?_
  refine hK4 _ _ ?_; (try clear hK4 K3)
  refine wp_seq_k fun K49 hK50 => ?_
  refine nrm (vals := [(0, .bool false), (1, .pointer (some ⟨b42, 0, none⟩)), (2, .bool true)]) (.cons rfl (.cons rfl (.cons rfl .nil))) fun g51 => ?_
  refine wl_begin ?_
  refine sq (r_loadN (m := 17) (vs := [.int .u8 1, .int .u8 0, .int .u8 0, .int .u8 0, .int .u8 0, .int .u8 0, .int .u8 0, .int .u8 0, .int .u8 0, .int .u8 0, .int .u8 0, .int .u8 0, .int .u8 0, .int .u8 0, .int .u8 0, .int .u8 0, u34]) rfl (by kernel_rfl) rfl (hs48.box (.head _)) (by kernel_rfl) rfl) rfl ?_
  refine sqo rfl fun K52 hK53 => ow_newbox (mk := fun b => .slice (some ⟨b, 0, none⟩) 1 1) hs48 (r_buildSlice (e := 5) (cells := #[.int .u8 107]) (.cons rfl rfl .nil) (by kernel_rfl)) rfl ?_
  rintro b54 w55 (hs56 : St w0 I (ids []) G3 [⟨b54, #[.int .u8 107], 5⟩, ⟨b42, #[.int .u8 1, .int .u8 0, .int .u8 0, .int .u8 0, .int .u8 0, .int .u8 0, .int .u8 0, .int .u8 0, .int .u8 0, .int .u8 0, .int .u8 0, .int .u8 0, .int .u8 0, .int .u8 0, .int .u8 0, .int .u8 0, u34], 30⟩] w55)
  clear hs48
  refine hK53 _ _ ?_; clear hK53 K52
  refine sqo rfl fun K57 hK58 => ow_convlit (e := 5) hs56 rfl (by kernel_rfl) rfl (St.own_ge hs56) rfl ?_
  rintro G4 w59 hb60 le61 hs62
  clear hs56
  refine hK58 _ _ ?_; clear hK58 K57
  refine sqo rfl fun K63 hK64 => ow_call (X := []) (L := [⟨b42, #[.int .u8 1, .int .u8 0, .int .u8 0, .int .u8 0, .int .u8 0, .int .u8 0, .int .u8 0, .int .u8 0, .int .u8 0, .int .u8 0, .int .u8 0, .int .u8 0, .int .u8 0, .int .u8 0, .int .u8 0, .int .u8 0, u34], 30⟩]) (lb := []) hs62 (awget_ok (ht.up (((le19.trans le30).trans le39).trans le61)) (hst.up (((le19.trans le30).trans le39).trans le61)) (hn35.up le61) (bytes_lit (off := 0) (len := 1) (cap := 1) (k := [107]) hb60 rfl (by decide) rfl)) (by kernel_rfl) rfl rfl rfl rfl rfl ?_
  rintro _ G5 X1 w67 ⟨xv65, rfl, hx66⟩ le70 hs68 hid69
  obtain rfl : X1 = [] := List.map_eq_nil_iff.1 hid69
  replace hs68 : St w0 I (ids []) G5 [⟨b42, #[.int .u8 1, .int .u8 0, .int .u8 0, .int .u8 0, .int .u8 0, .int .u8 0, .int .u8 0, .int .u8 0, .int .u8 0, .int .u8 0, .int .u8 0, .int .u8 0, .int .u8 0, .int .u8 0, .int .u8 0, .int .u8 0, u34], 30⟩] w67 := hs68
  clear hs62 hid69
  refine hK64 _ _ ?_; clear hK64 K63
  refine sq (r_move rfl) rfl ?_
  refine sq (r_extract rfl rfl rfl) rfl ?_
  refine sq (r_extract rfl rfl rfl) rfl ?_
  refine sq (r_assign rfl) rfl ?_
  refine sq (r_assign rfl) rfl ?_
  refine wl_nil ?_
  refine hK50 _ _ ?_; (try clear hK50 K49)
  refine wp_seq_k fun K71 hK72 => ?_
  refine wl_begin ?_
  refine sq (r_move rfl) rfl ?_
  refine sq (r_move rfl) rfl ?_
  refine sqG (wantedT rfl rfl rfl rfl) (r_loadN (m := 17) (vs := [.int .u8 1, .int .u8 0, .int .u8 0, .int .u8 0, .int .u8 0, .int .u8 0, .int .u8 0, .int .u8 0, .int .u8 0, .int .u8 0, .int .u8 0, .int .u8 0, .int .u8 0, .int .u8 0, .int .u8 0, .int .u8 0, u34]) rfl (by kernel_rfl) rfl (hs68.box (.head _)) (by kernel_rfl) rfl) rfl ?_
  refine sqoG (wantedT rfl rfl rfl rfl) fun K73 hK74 => ow_call (X := []) (L := [⟨b42, #[.int .u8 1, .int .u8 0, .int .u8 0, .int .u8 0, .int .u8 0, .int .u8 0, .int .u8 0, .int .u8 0, .int .u8 0, .int .u8 0, .int .u8 0, .int .u8 0, .int .u8 0, .int .u8 0, .int .u8 0, .int .u8 0, u34], 30⟩]) (lb := []) hs68 (awlen_ok (hn35.up (le61.trans le70))) (by kernel_rfl) rfl rfl rfl rfl rfl ?_
  rintro _ _ X1 w75 ⟨rfl, rfl⟩ - hs76 hid77
  obtain rfl : X1 = [] := List.map_eq_nil_iff.1 hid77
  replace hs76 : St w0 I (ids []) G5 [⟨b42, #[.int .u8 1, .int .u8 0, .int .u8 0, .int .u8 0, .int .u8 0, .int .u8 0, .int .u8 0, .int .u8 0, .int .u8 0, .int .u8 0, .int .u8 0, .int .u8 0, .int .u8 0, .int .u8 0, .int .u8 0, .int .u8 0, u34], 30⟩] w75 := hs76
  clear hs68 hid77
  refine hK74 _ _ ?_; clear hK74 K73
  refine sqG (wantedT rfl rfl rfl rfl) (r_eqi rfl rfl rfl rfl) rfl ?_
  refine sq (r_pick rfl rfl rfl rfl) rfl ?_
  refine sq (r_move rfl) rfl ?_
  refine sqG (wantedT rfl rfl rfl rfl) (r_move rfl) rfl ?_
  refine sq (r_pick rfl rfl rfl rfl) rfl ?_
  refine sq (r_move rfl) rfl ?_
  refine sqG (wantedT rfl rfl rfl rfl) (r_move rfl) rfl ?_
  refine sqG (wantedT rfl rfl rfl rfl) (r_bytesStr (e := 5) rfl (by kernel_rfl) (by kernel_rfl) rfl hx66 (fun _ _ z => hs76.imm z)) rfl ?_
  refine sqG (wantedT rfl rfl rfl rfl) (r_eqstr rfl rfl rfl rfl) rfl ?_
  refine sq (r_pick rfl rfl rfl rfl) rfl ?_
  refine sq (r_move rfl) rfl ?_
  refine sqG (wantedT rfl rfl rfl (congrArg Value.bool (decide_eq_true rfl))) (r_loadN (m := 17) (vs := [.int .u8 1, .int .u8 0, .int .u8 0, .int .u8 0, .int .u8 0, .int .u8 0, .int .u8 0, .int .u8 0, .int .u8 0, .int .u8 0, .int .u8 0, .int .u8 0, .int .u8 0, .int .u8 0, .int .u8 0, .int .u8 0, u34]) rfl (by kernel_rfl) rfl (hs76.box (.head _)) (by kernel_rfl) rfl) rfl ?_
  refine sqoG (wantedT rfl rfl rfl (congrArg Value.bool (decide_eq_true rfl))) fun K78 hK79 => ow_call (X := []) (L := [⟨b42, #[.int .u8 1, .int .u8 0, .int .u8 0, .int .u8 0, .int .u8 0, .int .u8 0, .int .u8 0, .int .u8 0, .int .u8 0, .int .u8 0, .int .u8 0, .int .u8 0, .int .u8 0, .int .u8 0, .int .u8 0, .int .u8 0, u34], 30⟩]) (lb := []) hs76 (awseed_ok (hn35.up (le61.trans le70))) (by kernel_rfl) rfl rfl rfl rfl rfl ?_
  rintro _ _ X1 w80 ⟨rfl, rfl⟩ - hs81 hid82
  obtain rfl : X1 = [] := List.map_eq_nil_iff.1 hid82
  replace hs81 : St w0 I (ids []) G5 [⟨b42, #[.int .u8 1, .int .u8 0, .int .u8 0, .int .u8 0, .int .u8 0, .int .u8 0, .int .u8 0, .int .u8 0, .int .u8 0, .int .u8 0, .int .u8 0, .int .u8 0, .int .u8 0, .int .u8 0, .int .u8 0, .int .u8 0, u34], 30⟩] w80 := hs81
  clear hs76 hid82
  refine hK79 _ _ ?_; clear hK79 K78
  refine sqG (wantedT rfl rfl rfl (congrArg Value.bool (decide_eq_true rfl))) (r_build (.cons rfl rfl .nil) (cells := #[.int .u8 1, .int .u8 0, .int .u8 0, .int .u8 0, .int .u8 0, .int .u8 0, .int .u8 0, .int .u8 0, .int .u8 0, .int .u8 0, .int .u8 0, .int .u8 0, .int .u8 0, .int .u8 0, .int .u8 0, .int .u8 0]) (by kernel_rfl)) rfl ?_
  refine sqG (wantedT rfl rfl rfl (congrArg Value.bool (decide_eq_true rfl))) (r_eqA rfl rfl (by kernel_rfl) (by kernel_rfl) (by kernel_rfl) (by kernel_rfl) rfl rfl) rfl ?_
  refine sq (r_pick rfl rfl rfl (congrArg Value.bool (decide_eq_true rfl))) rfl ?_
  refine sq (r_assign rfl) rfl ?_
  refine wl_nil ?_
  refine hK72 _ _ ?_; (try clear hK72 K71)
  refine wp_ret ?_
  exact leave (X' := []) (L := [⟨b42, #[.int .u8 1, .int .u8 0, .int .u8 0, .int .u8 0, .int .u8 0, .int .u8 0, .int .u8 0, .int .u8 0, .int .u8 0, .int .u8 0, .int .u8 0, .int .u8 0, .int .u8 0, .int .u8 0, .int .u8 0, .int .u8 0, u34], 30⟩]) hs81 rfl (res_one (v := .bool true) rfl (.tmp rfl rfl .nil)) rfl
end Go.Proofs.YtlnlodfnplkckaaDoor
/- The law of the meters of tries: what a step keeps; the contract of the law. -/
namespace Go.Proofs.YtlnlodfnplkckaaDoor
set_option linter.unusedVariables false
set_option linter.unusedSimpArgs false
/-- The trie is what the model is, after j calls. -/
def Rel (s : Nat → UInt8) (n : N) (l : List (Bs × Bs)) (j : Nat) : Prop :=
  N.W 0 0 n ∧ (∀ k, N.look (hashN s k) k n 0 = getL l k) ∧ n.size ≤ j ∧ l.length ≤ j ∧ ∀ p ∈ l, p.1.length ≤ 100
theorem rel_nil (s : Nat → UInt8) : Rel s .none [] 0 := ⟨.none, fun k => N.look_none, Nat.le_refl _, Nat.le_refl _, fun p hp => (nomatch hp)⟩
/-- What a step keeps, answers and costs. -/
theorem rel_step {s : Nat → UInt8} {n : N} {l : List (Bs × Bs)} {j : Nat} {kd : Int} {k x : Bs} (h : Rel s n l j) (hk : k.length ≤ 100) (hx : x.length ≤ 100) :
    Rel s (stepN s kd k x n l).1 (stepN s kd k x n l).2.1 (j + 1) ∧ (stepN s kd k x n l).2.2.1 = true ∧
      ∀ r, (n.size + 1) ^ 6 < 2 ^ r → (stepN s kd k x n l).2.2.2.1 ≤ 14 + r ∧ (stepN s kd k x n l).2.2.2.2 ≤ (stepN s kd k x n l).2.2.2.1 := by
  obtain ⟨hw, hl, h1, h2, h3⟩ := h
  have hh := hashN_lt s k
  have e0 : hashN s k % 32 ^ 0 = 0 := Nat.mod_one _
  have hw' : N.W 0 (hashN s k % 32 ^ 0) n := by rw [e0]; exact hw
  unfold stepN
  split
  · obtain ⟨i1, i2, i3, i4⟩ := N.ins_w (k := k) (x := x) hh (Nat.le_trans hk (by decide)) (Nat.le_trans hx (by decide)) n 0 hw'
    rw [e0] at i1
    refine ⟨⟨i1, fun k' => ?_, Nat.le_trans (N.ins_size n hw.1) (by omega), Nat.le_trans (putL_len l k x) (by omega), fun p hp => ?_⟩, ?_, fun r hr => ?_⟩
    · rw [i3, getL_put, hl]
      by_cases e : k' = k
      · subst e; rw [if_pos ⟨rfl, rfl⟩, if_pos rfl]
      · rw [if_neg (fun z => e z.2), if_neg e]
    · rcases putL_mem p hp with h | h
      · exact h3 p h
      · subst h; exact hk
    · simp only
      rw [i4, hl]
      cases getL l k <;> rfl
    · have := N.ins_cost (h := hashN s k) (k := k) hr n 0 hw (Nat.le_refl _)
      simp only
      omega
  · split
    · obtain ⟨i1, i2⟩ := N.rem_w (k := k) hh n 0 hw'
      rw [hl] at i1
      have hc : ∀ r, (n.size + 1) ^ 6 < 2 ^ r → N.remV (hashN s k) k n 0 ≤ 14 + r ∧ N.remC (hashN s k) k n 0 ≤ N.remV (hashN s k) k n 0 := fun r hr => by
        have := N.rem_cost (h := hashN s k) (k := k) hr n 0 hw (Nat.le_refl _)
        omega
      have hlen : (withoutL l k).length ≤ j + 1 := Nat.le_trans (List.length_filter_le _ _) (by omega)
      have hmem : ∀ p ∈ withoutL l k, p.1.length ≤ 100 := fun p hp => h3 p (List.mem_filter.1 hp).1
      have hget : ∀ k', getL (withoutL l k) k' = if k' = k then none else getL l k' := getL_filter l k
      refine ⟨⟨?_, fun k' => ?_, ?_, hlen, hmem⟩, ?_, hc⟩
      · cases hr : N.rem (hashN s k) k n 0 with
        | none => exact hw
        | some r => have := (i2 r hr).1; rw [e0] at this; exact this
      · simp only
        rw [hget]
        cases hr : N.rem (hashN s k) k n 0 with
        | none =>
          rw [hr] at i1
          rw [Option.getD_none, hl]
          split
          · rename_i e
            subst e
            cases hg : getL l k' with
            | none => rfl
            | some y => rw [hg] at i1; cases i1
          · rfl
        | some r =>
          rw [Option.getD_some, (i2 r hr).2, hl]
          by_cases e : k' = k
          · subst e; rw [if_pos ⟨rfl, rfl⟩, if_pos rfl]
          · rw [if_neg (fun z => e z.2), if_neg e]
      · simp only
        cases hr : N.rem (hashN s k) k n 0 with
        | none => exact Nat.le_succ_of_le h1
        | some r => exact Nat.le_succ_of_le (Nat.le_trans (N.rem_size n 0 hw.1 hr) h1)
      · simp only
        rw [i1, beq_self_eq_true]
    · split
      · refine ⟨⟨hw, hl, Nat.le_succ_of_le h1, Nat.le_succ_of_le h2, h3⟩, ?_, fun r hr => ?_⟩
        · have := hl k
          unfold N.look at this
          simp only
          rw [this]
          simp
        · have := N.way_cost (h := hashN s k) (k := k) hr n 0 hw (Nat.le_refl _) (by omega)
          simp only
          omega
      · exact ⟨⟨hw, hl, Nat.le_succ_of_le h1, Nat.le_succ_of_le h2, h3⟩, rfl, fun r _ => ⟨Nat.zero_le _, Nat.le_refl _⟩⟩
theorem mX_small {b v c : Nat} (hv : v ≤ 1000000000) (hc : c ≤ 1000000000) : mX (some b) v c = [⟨b, #[.int .i64 (v : Int), .int .i64 (c : Int)], 37⟩] := by
  show [(⟨b, #[.int .i64 (wz v), .int .i64 (wz c)], 37⟩ : Bx)] = _
  rw [wz_small hv, wz_small hc]
theorem step1_ok {I : GH} {b j : Nat} {s : Nat → UInt8} {n : N} {nv y0 kv xv : Value} {kd : Int} {k x : Bs} {l : List (Bs × Bs)} (ht : TabG I) (hst : StartG I) (hrel : Rel s n l j) (hj : j ≤ 60) (h1 : k.length ≤ 100) (h2 : x.length ≤ 100)
    (hn : NodeAt I nv n) (hk : BytesAt I kv k) (hx : BytesAt I xv x) (hy : SPairsAt I y0 l) :
    Fn Tryd.prog 15 #[.agg #[bV (s 0), bV (s 1), bV (s 2), bV (s 3), bV (s 4), bV (s 5), bV (s 6), bV (s 7), bV (s 8), bV (s 9), bV (s 10), bV (s 11), bV (s 12), bV (s 13), bV (s 14), bV (s 15), nv], y0, .agg #[.int .i64 kd, kv, xv], .pointer (some ⟨b, 0, none⟩)] I [⟨b, #[.int .i64 0, .int .i64 0], 37⟩]
      (fun r J X => ∃ u y V C n' l', r = .tuple #[.agg #[bV (s 0), bV (s 1), bV (s 2), bV (s 3), bV (s 4), bV (s 5), bV (s 6), bV (s 7), bV (s 8), bV (s 9), bV (s 10), bV (s 11), bV (s 12), bV (s 13), bV (s 14), bV (s 15), u], y, .bool true] ∧ NodeAt J u n' ∧ SPairsAt J y l' ∧ Rel s n' l' (j + 1) ∧ (∀ r, (n.size + 1) ^ 6 < 2 ^ r → V ≤ 14 + r ∧ C ≤ V) ∧ X = [⟨b, #[.int .i64 ((V : Nat) : Int), .int .i64 ((C : Nat) : Int)], 37⟩]) := by
  obtain ⟨r1, r2, r3⟩ := rel_step (kd := kd) hrel h1 h2
  have hsz : n.size ≤ 60 := Nat.le_trans hrel.2.2.1 hj
  have h36 : (n.size + 1) ^ 6 < 2 ^ 36 := Nat.lt_of_le_of_lt (Nat.pow_le_pow_left (Nat.succ_le_succ hsz) 6) (by decide)
  have hb := r3 36 h36
  have hs := step_ok (m := some b) (v := 0) (c := 0) (s := s) (kd := kd) ht hst (Nat.le_trans h1 (by decide)) (Nat.le_trans h2 (by decide)) hrel.1.1 (Nat.le_trans hsz (by decide)) hn hk hx hy (Nat.le_trans (Nat.le_trans hrel.2.2.2.1 hj) (by decide)) (fun p hp => Nat.le_trans (hrel.2.2.2.2 p hp) (by decide))
  rw [mX_small (Nat.zero_le _) (Nat.zero_le _)] at hs
  refine hs.mono fun r J X ⟨u, y, e1, e2, e3, e4⟩ => ?_
  rw [r2] at e1
  rw [Nat.zero_add, Nat.zero_add, mX_small (by omega) (by omega)] at e4
  exact ⟨u, y, _, _, _, _, e1, e2, e3, r1, r3, e4⟩
theorem fine_at {l : OpL} {most : Nat} (h : fineB l most = true) {k : Nat} (hk : k < l.length) : (l[k]).2.1.length ≤ 100 ∧ (l[k]).2.2.length ≤ 100 := by
  unfold fineB at h
  rw [Bool.and_eq_true, List.all_eq_true] at h
  have := h.2 _ (List.getElem_mem hk)
  unfold fineO at this
  rw [Bool.and_eq_true, decide_eq_true_iff, decide_eq_true_iff] at this
  exact this
theorem fine_len {l : OpL} {most : Nat} (h : fineB l most = true) : l.length ≤ most := by
  unfold fineB at h
  rw [Bool.and_eq_true, decide_eq_true_iff] at h
  exact h.1
set_option maxRecDepth 100000 in
theorem triemeters_ok {I : GH} {s : Nat → UInt8} {v0 : Value} {l : OpL} (ht : TabG I) (hst : StartG I) (hl : OpsAt I v0 l) (hll : l.length ≤ 9223372036854775807) : Fn Tryd.prog 3 #[.agg #[bV (s 0), bV (s 1), bV (s 2), bV (s 3), bV (s 4), bV (s 5), bV (s 6), bV (s 7), bV (s 8), bV (s 9), bV (s 10), bV (s 11), bV (s 12), bV (s 13), bV (s 14), bV (s 15)], v0] I [] (fun v J _ => v = .bool true) := by
  obtain ⟨ad, cap, rfl⟩ := hl.slc
  refine enter (args := [.agg #[(bV (s 0)), (bV (s 1)), (bV (s 2)), (bV (s 3)), (bV (s 4)), (bV (s 5)), (bV (s 6)), (bV (s 7)), (bV (s 8)), (bV (s 9)), (bV (s 10)), (bV (s 11)), (bV (s 12)), (bV (s 13)), (bV (s 14)), (bV (s 15))], .slice ad l.length cap]) Tryd.func3 rfl rfl fun w0 hs0 => ?_
  refine wp_seq_k fun K1 hK2 => ?_
  refine wl_begin ?_
  refine sqo rfl fun K3 hK4 => ow_newbox (mk := fun b => .pointer (some ⟨b, 0, none⟩)) hs0 (r_box rfl rfl) rfl ?_
  rintro b5 w6 (hs7 : St w0 I (ids []) I [⟨b5, #[(bV (s 0)), (bV (s 1)), (bV (s 2)), (bV (s 3)), (bV (s 4)), (bV (s 5)), (bV (s 6)), (bV (s 7)), (bV (s 8)), (bV (s 9)), (bV (s 10)), (bV (s 11)), (bV (s 12)), (bV (s 13)), (bV (s 14)), (bV (s 15))], 23⟩] w6)
  clear hs0
  refine hK4 _ _ ?_; clear hK4 K3
  refine sq (r_assign rfl) rfl ?_
  refine wl_nil ?_
  refine hK2 _ _ ?_; (try clear hK2 K1)
  refine wp_seq_k fun K8 hK9 => ?_
  refine wp_seq_k fun K10 hK11 => ?_
  refine wl_begin ?_
  refine sq (r_move rfl) rfl ?_
  refine sqo rfl fun K12 hK13 => ow_call (X := []) (L := [⟨b5, #[(bV (s 0)), (bV (s 1)), (bV (s 2)), (bV (s 3)), (bV (s 4)), (bV (s 5)), (bV (s 6)), (bV (s 7)), (bV (s 8)), (bV (s 9)), (bV (s 10)), (bV (s 11)), (bV (s 12)), (bV (s 13)), (bV (s 14)), (bV (s 15))], 23⟩]) (lb := []) hs7 (fine_ok hl hll) (by kernel_rfl) rfl rfl rfl rfl rfl ?_
  rintro _ _ X1 w14 ⟨rfl, rfl⟩ - hs15 hid16
  obtain rfl : X1 = [] := List.map_eq_nil_iff.1 hid16
  replace hs15 : St w0 I (ids []) I [⟨b5, #[(bV (s 0)), (bV (s 1)), (bV (s 2)), (bV (s 3)), (bV (s 4)), (bV (s 5)), (bV (s 6)), (bV (s 7)), (bV (s 8)), (bV (s 9)), (bV (s 10)), (bV (s 11)), (bV (s 12)), (bV (s 13)), (bV (s 14)), (bV (s 15))], 23⟩] w14 := hs15
  clear hs7 hid16
  refine hK13 _ _ ?_; clear hK13 K12
  refine sq (r_not rfl rfl) rfl ?_
  refine wl_nil ?_
  refine hK11 _ _ ?_; (try clear hK11 K10)
  refine condS rfl rfl (fun h17 => ?_) (fun h17 => ?_)
  ·
    have h18 : (fineB l 60) = false := by simpa using h17
    refine wp_seq_k fun K19 hK20 => ?_
    refine wl_begin ?_
    refine sqo rfl fun K21 hK22 => ow_call (X := []) (L := [⟨b5, #[(bV (s 0)), (bV (s 1)), (bV (s 2)), (bV (s 3)), (bV (s 4)), (bV (s 5)), (bV (s 6)), (bV (s 7)), (bV (s 8)), (bV (s 9)), (bV (s 10)), (bV (s 11)), (bV (s 12)), (bV (s 13)), (bV (s 14)), (bV (s 15))], 23⟩]) (lb := []) hs15 (awake_ok ht hst) (by kernel_rfl) rfl rfl rfl rfl rfl ?_
    rintro _ G1 X1 w23 rfl le26 hs24 hid25
    obtain rfl : X1 = [] := List.map_eq_nil_iff.1 hid25
    replace hs24 : St w0 I (ids []) G1 [⟨b5, #[(bV (s 0)), (bV (s 1)), (bV (s 2)), (bV (s 3)), (bV (s 4)), (bV (s 5)), (bV (s 6)), (bV (s 7)), (bV (s 8)), (bV (s 9)), (bV (s 10)), (bV (s 11)), (bV (s 12)), (bV (s 13)), (bV (s 14)), (bV (s 15))], 23⟩] w23 := hs24
    clear hs15 hid25
    refine hK22 _ _ ?_; clear hK22 K21
    refine sq (r_assign rfl) rfl ?_
    refine wl_nil ?_
    refine hK20 _ _ ?_; (try clear hK20 K19)
    refine wp_ret ?_
    exact leave (X' := []) (L := [⟨b5, #[(bV (s 0)), (bV (s 1)), (bV (s 2)), (bV (s 3)), (bV (s 4)), (bV (s 5)), (bV (s 6)), (bV (s 7)), (bV (s 8)), (bV (s 9)), (bV (s 10)), (bV (s 11)), (bV (s 12)), (bV (s 13)), (bV (s 14)), (bV (s 15))], 23⟩]) hs24 rfl (res_one (v := .bool true) rfl (.tmp rfl rfl .nil)) rfl
  ·
    have h27 : (fineB l 60) = true := by simpa using h17
    have hfine : fineB l 60 = true := by simpa using h17
    refine wp_skip ?_
    refine hK9 _ _ ?_; (try clear hK9 K8)
    refine wp_seq_k fun K28 hK29 => ?_
    refine wl_begin ?_
    refine sq (r_loadN (m := 16) (vs := [(bV (s 0)), (bV (s 1)), (bV (s 2)), (bV (s 3)), (bV (s 4)), (bV (s 5)), (bV (s 6)), (bV (s 7)), (bV (s 8)), (bV (s 9)), (bV (s 10)), (bV (s 11)), (bV (s 12)), (bV (s 13)), (bV (s 14)), (bV (s 15))]) rfl (by kernel_rfl) rfl (hs15.box (.head _)) (by kernel_rfl) rfl) rfl ?_
    refine sqo rfl fun K30 hK31 => ow_call (X := []) (L := [⟨b5, #[(bV (s 0)), (bV (s 1)), (bV (s 2)), (bV (s 3)), (bV (s 4)), (bV (s 5)), (bV (s 6)), (bV (s 7)), (bV (s 8)), (bV (s 9)), (bV (s 10)), (bV (s 11)), (bV (s 12)), (bV (s 13)), (bV (s 14)), (bV (s 15))], 23⟩]) (lb := []) hs15 (trie_new_ok (s := s)) (by kernel_rfl) rfl rfl rfl rfl rfl ?_
    rintro _ _ X1 w32 ⟨rfl, rfl⟩ - hs33 hid34
    obtain rfl : X1 = [] := List.map_eq_nil_iff.1 hid34
    replace hs33 : St w0 I (ids []) I [⟨b5, #[(bV (s 0)), (bV (s 1)), (bV (s 2)), (bV (s 3)), (bV (s 4)), (bV (s 5)), (bV (s 6)), (bV (s 7)), (bV (s 8)), (bV (s 9)), (bV (s 10)), (bV (s 11)), (bV (s 12)), (bV (s 13)), (bV (s 14)), (bV (s 15))], 23⟩] w32 := hs33
    clear hs15 hid34
    refine hK31 _ _ ?_; clear hK31 K30
    refine sqo rfl fun K35 hK36 => ow_newbox (mk := fun b => .pointer (some ⟨b, 0, none⟩)) hs33 (r_alloc (cs := [.int .u8 0, .int .u8 0, .int .u8 0, .int .u8 0, .int .u8 0, .int .u8 0, .int .u8 0, .int .u8 0, .int .u8 0, .int .u8 0, .int .u8 0, .int .u8 0, .int .u8 0, .int .u8 0, .int .u8 0, .int .u8 0, .nilIface]) (by kernel_rfl)) rfl ?_
    rintro b37 w38 (hs39 : St w0 I (ids []) I [⟨b37, #[.int .u8 0, .int .u8 0, .int .u8 0, .int .u8 0, .int .u8 0, .int .u8 0, .int .u8 0, .int .u8 0, .int .u8 0, .int .u8 0, .int .u8 0, .int .u8 0, .int .u8 0, .int .u8 0, .int .u8 0, .int .u8 0, .nilIface], 30⟩, ⟨b5, #[(bV (s 0)), (bV (s 1)), (bV (s 2)), (bV (s 3)), (bV (s 4)), (bV (s 5)), (bV (s 6)), (bV (s 7)), (bV (s 8)), (bV (s 9)), (bV (s 10)), (bV (s 11)), (bV (s 12)), (bV (s 13)), (bV (s 14)), (bV (s 15))], 23⟩] w38)
    clear hs33
    refine hK36 _ _ ?_; clear hK36 K35
    refine sqo rfl fun K40 hK41 => ow_storeK (vs := [(bV (s 0)), (bV (s 1)), (bV (s 2)), (bV (s 3)), (bV (s 4)), (bV (s 5)), (bV (s 6)), (bV (s 7)), (bV (s 8)), (bV (s 9)), (bV (s 10)), (bV (s 11)), (bV (s 12)), (bV (s 13)), (bV (s 14)), (bV (s 15)), .nilIface]) (cs' := #[(bV (s 0)), (bV (s 1)), (bV (s 2)), (bV (s 3)), (bV (s 4)), (bV (s 5)), (bV (s 6)), (bV (s 7)), (bV (s 8)), (bV (s 9)), (bV (s 10)), (bV (s 11)), (bV (s 12)), (bV (s 13)), (bV (s 14)), (bV (s 15)), .nilIface]) hs39 rfl rfl (by kernel_rfl) rfl rfl (.cons trivial (.cons trivial (.cons trivial (.cons trivial (.cons trivial (.cons trivial (.cons trivial (.cons trivial (.cons trivial (.cons trivial (.cons trivial (.cons trivial (.cons trivial (.cons trivial (.cons trivial (.cons trivial (.cons trivial .nil))))))))))))))))) (by kernel_rfl) (by kernel_rfl) ?_
    rintro w42 (hs43 : St w0 I (ids []) I [⟨b37, #[(bV (s 0)), (bV (s 1)), (bV (s 2)), (bV (s 3)), (bV (s 4)), (bV (s 5)), (bV (s 6)), (bV (s 7)), (bV (s 8)), (bV (s 9)), (bV (s 10)), (bV (s 11)), (bV (s 12)), (bV (s 13)), (bV (s 14)), (bV (s 15)), .nilIface], 30⟩, ⟨b5, #[(bV (s 0)), (bV (s 1)), (bV (s 2)), (bV (s 3)), (bV (s 4)), (bV (s 5)), (bV (s 6)), (bV (s 7)), (bV (s 8)), (bV (s 9)), (bV (s 10)), (bV (s 11)), (bV (s 12)), (bV (s 13)), (bV (s 14)), (bV (s 15))], 23⟩] w42)
    clear hs39
    refine hK41 _ _ ?_; clear hK41 K40
    refine wl_nil ?_
    refine hK29 _ _ ?_; (try clear hK29 K28)
    refine wp_seq_k fun K44 hK45 => ?_
    refine wl_begin ?_
    refine sq (r_assign rfl) rfl ?_
    refine wl_nil ?_
    refine hK45 _ _ ?_; (try clear hK45 K44)
    refine wp_seq_k fun K46 hK47 => ?_
    refine wp_seq_k fun K48 hK49 => ?_
    refine wl_begin ?_
    refine sq (r_move rfl) rfl ?_
    refine sq (r_lens rfl (by kernel_rfl) rfl) rfl ?_
    refine sq (r_move rfl) rfl ?_
    refine wl_nil ?_
    refine hK49 _ _ ?_; (try clear hK49 K48)
    refine wp_block ?_
    refine lp (σ := Nat) (fun m51 f52 w53 => ∃ (g50 : Nat → Value) (k : Nat) (nv : Value) (n : N) (yv : Value) (y : List (Bs × Bs)) (G2 : GH), m51 = l.length - k ∧ f52 = updL g50 [(0, .agg #[(bV (s 0)), (bV (s 1)), (bV (s 2)), (bV (s 3)), (bV (s 4)), (bV (s 5)), (bV (s 6)), (bV (s 7)), (bV (s 8)), (bV (s 9)), (bV (s 10)), (bV (s 11)), (bV (s 12)), (bV (s 13)), (bV (s 14)), (bV (s 15))]), (1, .slice ad l.length cap), (2, .pointer (some ⟨b5, 0, none⟩)), (5, .pointer (some ⟨b37, 0, none⟩)), (6, yv), (14, .bool (!(fineB l 60))), (18, .slice ad l.length cap), (19, .int .i64 ((l.length : Nat) : Int)), (20, .int .i64 ((k : Nat) : Int))] ∧ I.le G2 ∧ (k ≤ l.length) ∧ (Rel s n y k) ∧ (NodeAt G2 nv n) ∧ (SPairsAt G2 yv y) ∧ St w0 I (ids []) G2 [⟨b37, #[(bV (s 0)), (bV (s 1)), (bV (s 2)), (bV (s 3)), (bV (s 4)), (bV (s 5)), (bV (s 6)), (bV (s 7)), (bV (s 8)), (bV (s 9)), (bV (s 10)), (bV (s 11)), (bV (s 12)), (bV (s 13)), (bV (s 14)), (bV (s 15)), nv], 30⟩, ⟨b5, #[(bV (s 0)), (bV (s 1)), (bV (s 2)), (bV (s 3)), (bV (s 4)), (bV (s 5)), (bV (s 6)), (bV (s 7)), (bV (s 8)), (bV (s 9)), (bV (s 10)), (bV (s 11)), (bV (s 12)), (bV (s 13)), (bV (s 14)), (bV (s 15))], 23⟩] w53) (fun m => m) (l.length) ⟨_, 0, _, .none, _, [], I, rfl, updL_self (.cons rfl (.cons rfl (.cons rfl (.cons rfl (.cons rfl (.cons rfl (.cons rfl (.cons rfl (.cons rfl .nil))))))))), GH.le.refl _, (Nat.zero_le _), (rel_nil s), rfl, (SPairsAt.nil _), hs43⟩ ?_
    clear hs43
    rintro m51 f52 w53 ⟨g50, k, nv, n, yv, y, G2, rfl, rfl, le55, hkl, hrel, hn, hy, hs54⟩
    refine wp_seq_k fun K56 hK57 => ?_
    refine wl_begin ?_
    refine sq (r_lti rfl rfl rfl rfl) rfl ?_
    refine wl_nil ?_
    refine hK57 _ _ ?_; (try clear hK57 K56)
    refine wp_seq_k fun K58 hK59 => ?_
    refine condS rfl rfl (fun h60 => ?_) (fun h60 => ?_)
    ·
      have p61 := of_decide_eq_true h60
      have hlt : k < l.length := by omega
      obtain ⟨b, off, cs, T0, fz, kv, xv, hbe, hb, hcs, hk, hx⟩ := OpsAt.at hl hlt
      cases hbe
      obtain ⟨hsk, hsx⟩ := fine_at hfine hlt
      have hk60 : k ≤ 59 := by have := fine_len hfine; omega
      refine wp_skip ?_
      refine hK59 _ _ ?_; (try clear hK59 K58)
      refine wp_seq_k fun K62 hK63 => ?_
      refine wp_block ?_
      refine wp_seq_k fun K64 hK65 => ?_
      refine nrm (vals := [(0, .agg #[(bV (s 0)), (bV (s 1)), (bV (s 2)), (bV (s 3)), (bV (s 4)), (bV (s 5)), (bV (s 6)), (bV (s 7)), (bV (s 8)), (bV (s 9)), (bV (s 10)), (bV (s 11)), (bV (s 12)), (bV (s 13)), (bV (s 14)), (bV (s 15))]), (1, .slice (some ⟨b, off, none⟩) l.length cap), (2, .pointer (some ⟨b5, 0, none⟩)), (5, .pointer (some ⟨b37, 0, none⟩)), (6, yv), (14, .bool (!(fineB l 60))), (18, .slice (some ⟨b, off, none⟩) l.length cap), (19, .int .i64 ((l.length : Nat) : Int)), (20, .int .i64 ((k : Nat) : Int)), (21, .bool (decide (((k : Nat) : Int) < ((l.length : Nat) : Int))))]) (.cons rfl (.cons rfl (.cons rfl (.cons rfl (.cons rfl (.cons rfl (.cons rfl (.cons rfl (.cons rfl (.cons rfl .nil)))))))))) fun g66 => ?_
      refine wl_begin ?_
      refine sq (r_index (e := 35) (sz := 3) (i := k) rfl rfl (by kernel_rfl) rfl rfl hlt) rfl ?_
      refine sq (r_loadN (m := 3) (vs := [.int .i64 (l[k]'hlt).1, kv, xv]) rfl (by kernel_rfl) rfl (hs54.imm (le55 _ _ hb)) hcs rfl) rfl ?_
      refine sqo rfl fun K67 hK68 => ow_newbox (mk := fun b => .pointer (some ⟨b, 0, none⟩)) hs54 (r_alloc (cs := [.int .i64 0, .slice none 0 0, .slice none 0 0]) (by kernel_rfl)) rfl ?_
      rintro b69 w70 (hs71 : St w0 I (ids []) G2 [⟨b69, #[.int .i64 0, .slice none 0 0, .slice none 0 0], 35⟩, ⟨b37, #[(bV (s 0)), (bV (s 1)), (bV (s 2)), (bV (s 3)), (bV (s 4)), (bV (s 5)), (bV (s 6)), (bV (s 7)), (bV (s 8)), (bV (s 9)), (bV (s 10)), (bV (s 11)), (bV (s 12)), (bV (s 13)), (bV (s 14)), (bV (s 15)), nv], 30⟩, ⟨b5, #[(bV (s 0)), (bV (s 1)), (bV (s 2)), (bV (s 3)), (bV (s 4)), (bV (s 5)), (bV (s 6)), (bV (s 7)), (bV (s 8)), (bV (s 9)), (bV (s 10)), (bV (s 11)), (bV (s 12)), (bV (s 13)), (bV (s 14)), (bV (s 15))], 23⟩] w70)
      clear hs54
      refine hK68 _ _ ?_; clear hK68 K67
      refine sqo rfl fun K72 hK73 => ow_store (vs := [.int .i64 (l[k]'hlt).1, kv, xv]) hs71 rfl rfl (by kernel_rfl) rfl rfl (.cons trivial (.cons (hk).one (.cons (hx).one .nil))) rfl ?_
      rintro w74 (hs75 : St w0 I (ids []) G2 [⟨b69, #[.int .i64 (l[k]'hlt).1, kv, xv], 35⟩, ⟨b37, #[(bV (s 0)), (bV (s 1)), (bV (s 2)), (bV (s 3)), (bV (s 4)), (bV (s 5)), (bV (s 6)), (bV (s 7)), (bV (s 8)), (bV (s 9)), (bV (s 10)), (bV (s 11)), (bV (s 12)), (bV (s 13)), (bV (s 14)), (bV (s 15)), nv], 30⟩, ⟨b5, #[(bV (s 0)), (bV (s 1)), (bV (s 2)), (bV (s 3)), (bV (s 4)), (bV (s 5)), (bV (s 6)), (bV (s 7)), (bV (s 8)), (bV (s 9)), (bV (s 10)), (bV (s 11)), (bV (s 12)), (bV (s 13)), (bV (s 14)), (bV (s 15))], 23⟩] w74)
      clear hs71
      refine hK73 _ _ ?_; clear hK73 K72
      refine wl_nil ?_
      refine hK65 _ _ ?_; (try clear hK65 K64)
      refine wp_seq_k fun K76 hK77 => ?_
      refine wl_begin ?_
      refine sqo rfl fun K78 hK79 => ow_newbox (mk := fun b => .pointer (some ⟨b, 0, none⟩)) hs75 (r_alloc (cs := [.int .i64 0, .int .i64 0]) (by kernel_rfl)) rfl ?_
      rintro b80 w81 (hs82 : St w0 I (ids []) G2 [⟨b80, #[.int .i64 0, .int .i64 0], 37⟩, ⟨b69, #[.int .i64 (l[k]'hlt).1, kv, xv], 35⟩, ⟨b37, #[(bV (s 0)), (bV (s 1)), (bV (s 2)), (bV (s 3)), (bV (s 4)), (bV (s 5)), (bV (s 6)), (bV (s 7)), (bV (s 8)), (bV (s 9)), (bV (s 10)), (bV (s 11)), (bV (s 12)), (bV (s 13)), (bV (s 14)), (bV (s 15)), nv], 30⟩, ⟨b5, #[(bV (s 0)), (bV (s 1)), (bV (s 2)), (bV (s 3)), (bV (s 4)), (bV (s 5)), (bV (s 6)), (bV (s 7)), (bV (s 8)), (bV (s 9)), (bV (s 10)), (bV (s 11)), (bV (s 12)), (bV (s 13)), (bV (s 14)), (bV (s 15))], 23⟩] w81)
      clear hs75
      refine hK79 _ _ ?_; clear hK79 K78
      refine wl_nil ?_
      refine hK77 _ _ ?_; (try clear hK77 K76)
      refine wp_seq_k fun K83 hK84 => ?_
      refine wl_begin ?_
      refine sq (r_loadN (m := 17) (vs := [(bV (s 0)), (bV (s 1)), (bV (s 2)), (bV (s 3)), (bV (s 4)), (bV (s 5)), (bV (s 6)), (bV (s 7)), (bV (s 8)), (bV (s 9)), (bV (s 10)), (bV (s 11)), (bV (s 12)), (bV (s 13)), (bV (s 14)), (bV (s 15)), nv]) rfl (by kernel_rfl) rfl (hs82.box (.tail _ (.tail _ (.head _)))) (by kernel_rfl) rfl) rfl ?_
      refine sqo rfl fun K85 hK86 => ow_call (X := []) (L := [⟨b80, #[.int .i64 0, .int .i64 0], 37⟩, ⟨b69, #[.int .i64 (l[k]'hlt).1, kv, xv], 35⟩, ⟨b37, #[(bV (s 0)), (bV (s 1)), (bV (s 2)), (bV (s 3)), (bV (s 4)), (bV (s 5)), (bV (s 6)), (bV (s 7)), (bV (s 8)), (bV (s 9)), (bV (s 10)), (bV (s 11)), (bV (s 12)), (bV (s 13)), (bV (s 14)), (bV (s 15)), nv], 30⟩, ⟨b5, #[(bV (s 0)), (bV (s 1)), (bV (s 2)), (bV (s 3)), (bV (s 4)), (bV (s 5)), (bV (s 6)), (bV (s 7)), (bV (s 8)), (bV (s 9)), (bV (s 10)), (bV (s 11)), (bV (s 12)), (bV (s 13)), (bV (s 14)), (bV (s 15))], 23⟩]) (lb := []) hs82 (trie_len_ok (s := s) hn) (by kernel_rfl) rfl rfl rfl rfl rfl ?_
      rintro _ _ X1 w87 ⟨rfl, rfl⟩ - hs88 hid89
      obtain rfl : X1 = [] := List.map_eq_nil_iff.1 hid89
      replace hs88 : St w0 I (ids []) G2 [⟨b80, #[.int .i64 0, .int .i64 0], 37⟩, ⟨b69, #[.int .i64 (l[k]'hlt).1, kv, xv], 35⟩, ⟨b37, #[(bV (s 0)), (bV (s 1)), (bV (s 2)), (bV (s 3)), (bV (s 4)), (bV (s 5)), (bV (s 6)), (bV (s 7)), (bV (s 8)), (bV (s 9)), (bV (s 10)), (bV (s 11)), (bV (s 12)), (bV (s 13)), (bV (s 14)), (bV (s 15)), nv], 30⟩, ⟨b5, #[(bV (s 0)), (bV (s 1)), (bV (s 2)), (bV (s 3)), (bV (s 4)), (bV (s 5)), (bV (s 6)), (bV (s 7)), (bV (s 8)), (bV (s 9)), (bV (s 10)), (bV (s 11)), (bV (s 12)), (bV (s 13)), (bV (s 14)), (bV (s 15))], 23⟩] w87 := hs88
      clear hs82 hid89
      refine hK86 _ _ ?_; clear hK86 K85
      refine sq (r_assign rfl) rfl ?_
      refine wl_nil ?_
      refine hK84 _ _ ?_; (try clear hK84 K83)
      refine wp_seq_k fun K90 hK91 => ?_
      refine wl_begin ?_
      refine sq (r_assign rfl) rfl ?_
      refine wl_nil ?_
      refine hK91 _ _ ?_; (try clear hK91 K90)
      refine wp_seq_k fun K92 hK93 => ?_
      refine wl_begin ?_
      refine sq (r_loadN (m := 17) (vs := [(bV (s 0)), (bV (s 1)), (bV (s 2)), (bV (s 3)), (bV (s 4)), (bV (s 5)), (bV (s 6)), (bV (s 7)), (bV (s 8)), (bV (s 9)), (bV (s 10)), (bV (s 11)), (bV (s 12)), (bV (s 13)), (bV (s 14)), (bV (s 15)), nv]) rfl (by kernel_rfl) rfl (hs88.box (.tail _ (.tail _ (.head _)))) (by kernel_rfl) rfl) rfl ?_
      refine sq (r_move rfl) rfl ?_
      refine sq (r_loadN (m := 3) rfl (by kernel_rfl) rfl (hs88.box (.tail _ (.head _))) rfl rfl) rfl ?_
      refine sqo rfl fun K94 hK95 => ow_call (X := [⟨b80, #[.int .i64 0, .int .i64 0], 37⟩]) (L := [⟨b69, #[.int .i64 (l[k]'hlt).1, kv, xv], 35⟩, ⟨b37, #[(bV (s 0)), (bV (s 1)), (bV (s 2)), (bV (s 3)), (bV (s 4)), (bV (s 5)), (bV (s 6)), (bV (s 7)), (bV (s 8)), (bV (s 9)), (bV (s 10)), (bV (s 11)), (bV (s 12)), (bV (s 13)), (bV (s 14)), (bV (s 15)), nv], 30⟩, ⟨b5, #[(bV (s 0)), (bV (s 1)), (bV (s 2)), (bV (s 3)), (bV (s 4)), (bV (s 5)), (bV (s 6)), (bV (s 7)), (bV (s 8)), (bV (s 9)), (bV (s 10)), (bV (s 11)), (bV (s 12)), (bV (s 13)), (bV (s 14)), (bV (s 15))], 23⟩]) (lb := []) hs88 (step1_ok (kd := (l[k]'hlt).1) (k := (l[k]'hlt).2.1) (x := (l[k]'hlt).2.2) (ht.up le55) (hst.up le55) hrel (Nat.le_trans hk60 (by decide)) hsk hsx hn (hk.up le55) (hx.up le55) hy) (by kernel_rfl) rfl rfl rfl rfl rfl ?_
      rintro _ G3 X1 w106 ⟨u96, y97, V98, C99, n100, l101, rfl, hn102, hy103, hrel104, hv105, rfl⟩ le109 hs107 hid108
      replace hs107 : St w0 I (ids []) G3 [⟨b80, #[.int .i64 ((V98 : Nat) : Int), .int .i64 ((C99 : Nat) : Int)], 37⟩, ⟨b69, #[.int .i64 (l[k]'hlt).1, kv, xv], 35⟩, ⟨b37, #[(bV (s 0)), (bV (s 1)), (bV (s 2)), (bV (s 3)), (bV (s 4)), (bV (s 5)), (bV (s 6)), (bV (s 7)), (bV (s 8)), (bV (s 9)), (bV (s 10)), (bV (s 11)), (bV (s 12)), (bV (s 13)), (bV (s 14)), (bV (s 15)), nv], 30⟩, ⟨b5, #[(bV (s 0)), (bV (s 1)), (bV (s 2)), (bV (s 3)), (bV (s 4)), (bV (s 5)), (bV (s 6)), (bV (s 7)), (bV (s 8)), (bV (s 9)), (bV (s 10)), (bV (s 11)), (bV (s 12)), (bV (s 13)), (bV (s 14)), (bV (s 15))], 23⟩] w106 := hs107
      clear hs88 hid108
      refine hK95 _ _ ?_; clear hK95 K94
      refine sq (r_move rfl) rfl ?_
      refine sq (r_extract rfl rfl rfl) rfl ?_
      refine sq (r_extract rfl rfl rfl) rfl ?_
      refine sq (r_extract rfl rfl rfl) rfl ?_
      have hs112 : St w0 I (ids []) G3 [⟨b37, #[(bV (s 0)), (bV (s 1)), (bV (s 2)), (bV (s 3)), (bV (s 4)), (bV (s 5)), (bV (s 6)), (bV (s 7)), (bV (s 8)), (bV (s 9)), (bV (s 10)), (bV (s 11)), (bV (s 12)), (bV (s 13)), (bV (s 14)), (bV (s 15)), nv], 30⟩, ⟨b80, #[.int .i64 ((V98 : Nat) : Int), .int .i64 ((C99 : Nat) : Int)], 37⟩, ⟨b69, #[.int .i64 (l[k]'hlt).1, kv, xv], 35⟩, ⟨b5, #[(bV (s 0)), (bV (s 1)), (bV (s 2)), (bV (s 3)), (bV (s 4)), (bV (s 5)), (bV (s 6)), (bV (s 7)), (bV (s 8)), (bV (s 9)), (bV (s 10)), (bV (s 11)), (bV (s 12)), (bV (s 13)), (bV (s 14)), (bV (s 15))], 23⟩] w106 := hs107.perm (List.Perm.trans ((List.Perm.trans ((List.Perm.refl _).cons _) (List.Perm.swap _ _ _)).cons _) (List.Perm.swap _ _ _)); clear hs107
      refine sqo rfl fun K110 hK111 => ow_storeK (vs := [(bV (s 0)), (bV (s 1)), (bV (s 2)), (bV (s 3)), (bV (s 4)), (bV (s 5)), (bV (s 6)), (bV (s 7)), (bV (s 8)), (bV (s 9)), (bV (s 10)), (bV (s 11)), (bV (s 12)), (bV (s 13)), (bV (s 14)), (bV (s 15)), u96]) (cs' := #[(bV (s 0)), (bV (s 1)), (bV (s 2)), (bV (s 3)), (bV (s 4)), (bV (s 5)), (bV (s 6)), (bV (s 7)), (bV (s 8)), (bV (s 9)), (bV (s 10)), (bV (s 11)), (bV (s 12)), (bV (s 13)), (bV (s 14)), (bV (s 15)), u96]) hs112 rfl rfl (by kernel_rfl) rfl rfl (.cons trivial (.cons trivial (.cons trivial (.cons trivial (.cons trivial (.cons trivial (.cons trivial (.cons trivial (.cons trivial (.cons trivial (.cons trivial (.cons trivial (.cons trivial (.cons trivial (.cons trivial (.cons trivial (.cons hn102.one .nil))))))))))))))))) (by kernel_rfl) (by kernel_rfl) ?_
      rintro w113 (hs114 : St w0 I (ids []) G3 [⟨b37, #[(bV (s 0)), (bV (s 1)), (bV (s 2)), (bV (s 3)), (bV (s 4)), (bV (s 5)), (bV (s 6)), (bV (s 7)), (bV (s 8)), (bV (s 9)), (bV (s 10)), (bV (s 11)), (bV (s 12)), (bV (s 13)), (bV (s 14)), (bV (s 15)), u96], 30⟩, ⟨b80, #[.int .i64 ((V98 : Nat) : Int), .int .i64 ((C99 : Nat) : Int)], 37⟩, ⟨b69, #[.int .i64 (l[k]'hlt).1, kv, xv], 35⟩, ⟨b5, #[(bV (s 0)), (bV (s 1)), (bV (s 2)), (bV (s 3)), (bV (s 4)), (bV (s 5)), (bV (s 6)), (bV (s 7)), (bV (s 8)), (bV (s 9)), (bV (s 10)), (bV (s 11)), (bV (s 12)), (bV (s 13)), (bV (s 14)), (bV (s 15))], 23⟩] w113)
      clear hs112
      refine hK111 _ _ ?_; clear hK111 K110
      refine sq (r_assign rfl) rfl ?_
      refine sq (r_assign rfl) rfl ?_
      refine wl_nil ?_
      refine hK93 _ _ ?_; (try clear hK93 K92)
      refine wp_seq_k fun K115 hK116 => ?_
      refine nrm (vals := [(0, .agg #[(bV (s 0)), (bV (s 1)), (bV (s 2)), (bV (s 3)), (bV (s 4)), (bV (s 5)), (bV (s 6)), (bV (s 7)), (bV (s 8)), (bV (s 9)), (bV (s 10)), (bV (s 11)), (bV (s 12)), (bV (s 13)), (bV (s 14)), (bV (s 15))]), (1, .slice (some ⟨b, off, none⟩) l.length cap), (2, .pointer (some ⟨b5, 0, none⟩)), (5, .pointer (some ⟨b37, 0, none⟩)), (6, y97), (8, .pointer (some ⟨b69, 0, none⟩)), (9, .pointer (some ⟨b80, 0, none⟩)), (10, .int .i64 ((n.size : Nat) : Int)), (11, .bool true), (14, .bool (!(fineB l 60))), (18, .slice (some ⟨b, off, none⟩) l.length cap), (19, .int .i64 ((l.length : Nat) : Int)), (20, .int .i64 ((k : Nat) : Int)), (21, .bool (decide (((k : Nat) : Int) < ((l.length : Nat) : Int))))]) (.cons rfl (.cons rfl (.cons rfl (.cons rfl (.cons rfl (.cons rfl (.cons rfl (.cons rfl (.cons rfl (.cons rfl (.cons rfl (.cons rfl (.cons rfl (.cons rfl .nil)))))))))))))) fun g117 => ?_
      refine draw_begin (S := SS G3 [⟨b37, #[(bV (s 0)), (bV (s 1)), (bV (s 2)), (bV (s 3)), (bV (s 4)), (bV (s 5)), (bV (s 6)), (bV (s 7)), (bV (s 8)), (bV (s 9)), (bV (s 10)), (bV (s 11)), (bV (s 12)), (bV (s 13)), (bV (s 14)), (bV (s 15)), u96], 30⟩, ⟨b80, #[.int .i64 ((V98 : Nat) : Int), .int .i64 ((C99 : Nat) : Int)], 37⟩, ⟨b69, #[.int .i64 (l[k]'hlt).1, kv, xv], 35⟩, ⟨b5, #[(bV (s 0)), (bV (s 1)), (bV (s 2)), (bV (s 3)), (bV (s 4)), (bV (s 5)), (bV (s 6)), (bV (s 7)), (bV (s 8)), (bV (s 9)), (bV (s 10)), (bV (s 11)), (bV (s 12)), (bV (s 13)), (bV (s 14)), (bV (s 15))], 23⟩]) (by kernel_rfl) ?_
      have hs118 := hs114.drew; clear hs114
      have hss := hs118.ss (I := G3) (GH.le.refl _) (fun _ h => h)
      refine dt 0 rfl (by kernel_rfl) (fun _ _ _ h => h) hss (fun _ h => r_move rfl) rfl ?_
      refine dt 1 rfl (by kernel_rfl) (fun _ _ _ h => h) hss (fun _ h => r_not rfl rfl) rfl ?_
      refine dt 2 rfl (by kernel_rfl) (fun _ _ _ h => h) hss (fun _ h => r_move rfl) rfl ?_
      refine dtG 3 rfl (wantedT rfl rfl rfl rfl) (by kernel_rfl) (fun _ _ _ h => h) hss (fun _ h => (r_fieldAddr (off := 0) rfl (by kernel_rfl) rfl)) rfl ?_
      refine dtG 4 rfl (wantedT rfl rfl rfl rfl) (by kernel_rfl) (fun _ _ _ h => h) hss (fun _ h => r_load rfl (by kernel_rfl) rfl (h.box (.tail _ (.head _))) rfl) rfl ?_
      refine dtG 5 rfl (wantedT rfl rfl rfl rfl) (by kernel_rfl) (fun _ _ _ h => h) hss (fun _ h => r_move rfl) rfl ?_
      refine droG 6 (by kernel_rfl) rfl (wantedT rfl rfl rfl rfl) (ow_call (X := []) (L := [⟨b37, #[(bV (s 0)), (bV (s 1)), (bV (s 2)), (bV (s 3)), (bV (s 4)), (bV (s 5)), (bV (s 6)), (bV (s 7)), (bV (s 8)), (bV (s 9)), (bV (s 10)), (bV (s 11)), (bV (s 12)), (bV (s 13)), (bV (s 14)), (bV (s 15)), u96], 30⟩, ⟨b80, #[.int .i64 ((V98 : Nat) : Int), .int .i64 ((C99 : Nat) : Int)], 37⟩, ⟨b69, #[.int .i64 (l[k]'hlt).1, kv, xv], 35⟩, ⟨b5, #[(bV (s 0)), (bV (s 1)), (bV (s 2)), (bV (s 3)), (bV (s 4)), (bV (s 5)), (bV (s 6)), (bV (s 7)), (bV (s 8)), (bV (s 9)), (bV (s 10)), (bV (s 11)), (bV (s 12)), (bV (s 13)), (bV (s 14)), (bV (s 15))], 23⟩]) (lb := []) hs118 (bound_ok (n := n.size) (Nat.le_trans hrel.2.2.1 (Nat.le_trans hk60 (by decide)))) (by kernel_rfl) rfl rfl rfl rfl rfl ?_)
      rintro _ G4 X1 w121 ⟨r119, rfl, hr120⟩ le124 hs122 hid123
      obtain rfl : X1 = [] := List.map_eq_nil_iff.1 hid123
      replace hs122 : St w0 I (ids []) G4 [⟨b37, #[(bV (s 0)), (bV (s 1)), (bV (s 2)), (bV (s 3)), (bV (s 4)), (bV (s 5)), (bV (s 6)), (bV (s 7)), (bV (s 8)), (bV (s 9)), (bV (s 10)), (bV (s 11)), (bV (s 12)), (bV (s 13)), (bV (s 14)), (bV (s 15)), u96], 30⟩, ⟨b80, #[.int .i64 ((V98 : Nat) : Int), .int .i64 ((C99 : Nat) : Int)], 37⟩, ⟨b69, #[.int .i64 (l[k]'hlt).1, kv, xv], 35⟩, ⟨b5, #[(bV (s 0)), (bV (s 1)), (bV (s 2)), (bV (s 3)), (bV (s 4)), (bV (s 5)), (bV (s 6)), (bV (s 7)), (bV (s 8)), (bV (s 9)), (bV (s 10)), (bV (s 11)), (bV (s 12)), (bV (s 13)), (bV (s 14)), (bV (s 15))], 23⟩] w121 := hs122
      clear hs118 hid123
      replace hss := hs122.ss (I := G3) le124 (fun _ h => h)
      refine ⟨hss, ?_⟩
      refine dtG 7 rfl (wantedT rfl rfl rfl rfl) (by kernel_rfl) (fun _ _ _ h => h) hss (fun _ h => (r_gti rfl rfl rfl rfl)) rfl ?_
      refine dt 8 rfl (by kernel_rfl) (fun _ _ _ h => h) hss (fun _ h => (r_pick rfl rfl rfl rfl)) rfl ?_
      refine dt 9 rfl (by kernel_rfl) (fun _ _ _ h => h) hss (fun _ h => r_move rfl) rfl ?_
      refine dtG 10 rfl (wantedT rfl rfl rfl (congrArg Value.bool (decide_eq_false (by have := hv105 _ hr120; omega)))) (by kernel_rfl) (fun _ _ _ h => h) hss (fun _ h => (r_fieldAddr (off := 1) rfl (by kernel_rfl) rfl)) rfl ?_
      refine dtG 11 rfl (wantedT rfl rfl rfl (congrArg Value.bool (decide_eq_false (by have := hv105 _ hr120; omega)))) (by kernel_rfl) (fun _ _ _ h => h) hss (fun _ h => r_load rfl (by kernel_rfl) rfl (h.box (.tail _ (.head _))) rfl) rfl ?_
      refine dtG 12 rfl (wantedT rfl rfl rfl (congrArg Value.bool (decide_eq_false (by have := hv105 _ hr120; omega)))) (by kernel_rfl) (fun _ _ _ h => h) hss (fun _ h => (r_fieldAddr (off := 0) rfl (by kernel_rfl) rfl)) rfl ?_
      refine nrmD (vals := [(0, .agg #[(bV (s 0)), (bV (s 1)), (bV (s 2)), (bV (s 3)), (bV (s 4)), (bV (s 5)), (bV (s 6)), (bV (s 7)), (bV (s 8)), (bV (s 9)), (bV (s 10)), (bV (s 11)), (bV (s 12)), (bV (s 13)), (bV (s 14)), (bV (s 15))]), (1, .slice (some ⟨b, off, none⟩) l.length cap), (2, .pointer (some ⟨b5, 0, none⟩)), (5, .pointer (some ⟨b37, 0, none⟩)), (6, y97), (8, .pointer (some ⟨b69, 0, none⟩)), (9, .pointer (some ⟨b80, 0, none⟩)), (10, .int .i64 ((n.size : Nat) : Int)), (11, .bool true), (14, .bool (!(fineB l 60))), (18, .slice (some ⟨b, off, none⟩) l.length cap), (19, .int .i64 ((l.length : Nat) : Int)), (20, .int .i64 ((k : Nat) : Int)), (21, .bool (decide (((k : Nat) : Int) < ((l.length : Nat) : Int)))), (43, .bool (decide (((16 + r119 : Nat) : Int) < ((V98 : Nat) : Int)))), (45, .int .i64 ((C99 : Nat) : Int)), (46, .pointer (some ⟨b80, 0, none⟩))]) (.cons rfl (.cons rfl (.cons rfl (.cons rfl (.cons rfl (.cons rfl (.cons rfl (.cons rfl (.cons rfl (.cons rfl (.cons rfl (.cons rfl (.cons rfl (.cons rfl (.cons rfl (.cons rfl (.cons rfl .nil))))))))))))))))) fun g125 => ?_
      refine dtG 13 rfl (wantedT rfl rfl rfl (congrArg Value.bool (decide_eq_false (by have := hv105 _ hr120; omega)))) (by kernel_rfl) (fun _ _ _ h => h) hss (fun _ h => r_load rfl (by kernel_rfl) rfl (h.box (.tail _ (.head _))) rfl) rfl ?_
      refine dtG 14 rfl (wantedT rfl rfl rfl (congrArg Value.bool (decide_eq_false (by have := hv105 _ hr120; omega)))) (by kernel_rfl) (fun _ _ _ h => h) hss (fun _ h => (r_gti rfl rfl rfl rfl)) rfl ?_
      refine dt 15 rfl (by kernel_rfl) (fun _ _ _ h => h) hss (fun _ h => (r_pick rfl rfl rfl (congrArg Value.bool (decide_eq_false (by have := hv105 _ hr120; omega))))) rfl ?_
      refine draw_done (by kernel_rfl) ?_
      refine hK116 _ _ ?_; (try clear hK116 K115)
      refine condF rfl (congrArg Value.bool (decide_eq_false (by have := hv105 36 (Nat.lt_of_le_of_lt (Nat.pow_le_pow_left (Nat.succ_le_succ (Nat.le_trans hrel.2.2.1 hk60)) 6) (by decide)); have := hk60; omega))) ?_
      refine wp_skip ?_
      refine hK63 _ _ ?_; (try clear hK63 K62)
      refine wl_begin ?_
      refine sq (r_addi rfl rfl rfl rfl (by omega)) rfl ?_
      refine sq (r_move rfl) rfl ?_
      refine wl_nil ?_
      have hs126 : St w0 I (ids []) G4 [⟨b80, #[.int .i64 ((V98 : Nat) : Int), .int .i64 ((C99 : Nat) : Int)], 37⟩, ⟨b37, #[(bV (s 0)), (bV (s 1)), (bV (s 2)), (bV (s 3)), (bV (s 4)), (bV (s 5)), (bV (s 6)), (bV (s 7)), (bV (s 8)), (bV (s 9)), (bV (s 10)), (bV (s 11)), (bV (s 12)), (bV (s 13)), (bV (s 14)), (bV (s 15)), u96], 30⟩, ⟨b69, #[.int .i64 (l[k]'hlt).1, kv, xv], 35⟩, ⟨b5, #[(bV (s 0)), (bV (s 1)), (bV (s 2)), (bV (s 3)), (bV (s 4)), (bV (s 5)), (bV (s 6)), (bV (s 7)), (bV (s 8)), (bV (s 9)), (bV (s 10)), (bV (s 11)), (bV (s 12)), (bV (s 13)), (bV (s 14)), (bV (s 15))], 23⟩] w121 := hs122.perm (List.Perm.trans ((List.Perm.refl _).cons _) (List.Perm.swap _ _ _)); clear hs122
      have hs127 : St w0 I (ids []) G4 [⟨b37, #[(bV (s 0)), (bV (s 1)), (bV (s 2)), (bV (s 3)), (bV (s 4)), (bV (s 5)), (bV (s 6)), (bV (s 7)), (bV (s 8)), (bV (s 9)), (bV (s 10)), (bV (s 11)), (bV (s 12)), (bV (s 13)), (bV (s 14)), (bV (s 15)), u96], 30⟩, ⟨b69, #[.int .i64 (l[k]'hlt).1, kv, xv], 35⟩, ⟨b5, #[(bV (s 0)), (bV (s 1)), (bV (s 2)), (bV (s 3)), (bV (s 4)), (bV (s 5)), (bV (s 6)), (bV (s 7)), (bV (s 8)), (bV (s 9)), (bV (s 10)), (bV (s 11)), (bV (s 12)), (bV (s 13)), (bV (s 14)), (bV (s 15))], 23⟩] w121 := hs126.drop
      have hs128 : St w0 I (ids []) G4 [⟨b69, #[.int .i64 (l[k]'hlt).1, kv, xv], 35⟩, ⟨b37, #[(bV (s 0)), (bV (s 1)), (bV (s 2)), (bV (s 3)), (bV (s 4)), (bV (s 5)), (bV (s 6)), (bV (s 7)), (bV (s 8)), (bV (s 9)), (bV (s 10)), (bV (s 11)), (bV (s 12)), (bV (s 13)), (bV (s 14)), (bV (s 15)), u96], 30⟩, ⟨b5, #[(bV (s 0)), (bV (s 1)), (bV (s 2)), (bV (s 3)), (bV (s 4)), (bV (s 5)), (bV (s 6)), (bV (s 7)), (bV (s 8)), (bV (s 9)), (bV (s 10)), (bV (s 11)), (bV (s 12)), (bV (s 13)), (bV (s 14)), (bV (s 15))], 23⟩] w121 := hs127.perm (List.Perm.trans ((List.Perm.refl _).cons _) (List.Perm.swap _ _ _)); clear hs127
      have hs129 : St w0 I (ids []) G4 [⟨b37, #[(bV (s 0)), (bV (s 1)), (bV (s 2)), (bV (s 3)), (bV (s 4)), (bV (s 5)), (bV (s 6)), (bV (s 7)), (bV (s 8)), (bV (s 9)), (bV (s 10)), (bV (s 11)), (bV (s 12)), (bV (s 13)), (bV (s 14)), (bV (s 15)), u96], 30⟩, ⟨b5, #[(bV (s 0)), (bV (s 1)), (bV (s 2)), (bV (s 3)), (bV (s 4)), (bV (s 5)), (bV (s 6)), (bV (s 7)), (bV (s 8)), (bV (s 9)), (bV (s 10)), (bV (s 11)), (bV (s 12)), (bV (s 13)), (bV (s 14)), (bV (s 15))], 23⟩] w121 := hs128.drop
      exact ⟨_, _, rfl, ⟨_, (k + 1), u96, n100, y97, l101, G4, rfl, updL_self (.cons rfl (.cons rfl (.cons rfl (.cons rfl (.cons rfl (.cons rfl (.cons rfl (.cons rfl (.cons rfl .nil))))))))), ((le55.trans le109).trans le124), (by omega), hrel104, (hn102.up le124), (hy103.up le124), hs129⟩, (by omega)⟩
    ·
      have p130 := of_decide_eq_false h60
      obtain rfl : k = l.length := by omega
      refine wp_exit ?_
      refine hK47 _ _ ?_; (try clear hK47 K46)
      refine wp_seq_k fun K131 hK132 => ?_
      refine nrm (vals := [(0, .agg #[(bV (s 0)), (bV (s 1)), (bV (s 2)), (bV (s 3)), (bV (s 4)), (bV (s 5)), (bV (s 6)), (bV (s 7)), (bV (s 8)), (bV (s 9)), (bV (s 10)), (bV (s 11)), (bV (s 12)), (bV (s 13)), (bV (s 14)), (bV (s 15))]), (1, .slice ad l.length cap), (2, .pointer (some ⟨b5, 0, none⟩)), (5, .pointer (some ⟨b37, 0, none⟩)), (6, yv), (14, .bool (!(fineB l 60))), (18, .slice ad l.length cap), (19, .int .i64 ((l.length : Nat) : Int)), (20, .int .i64 ((l.length : Nat) : Int))]) (.cons rfl (.cons rfl (.cons rfl (.cons rfl (.cons rfl (.cons rfl (.cons rfl (.cons rfl (.cons rfl .nil))))))))) fun g133 => ?_
      refine wl_begin ?_
      refine sqo rfl fun K134 hK135 => ow_call (X := []) (L := [⟨b37, #[(bV (s 0)), (bV (s 1)), (bV (s 2)), (bV (s 3)), (bV (s 4)), (bV (s 5)), (bV (s 6)), (bV (s 7)), (bV (s 8)), (bV (s 9)), (bV (s 10)), (bV (s 11)), (bV (s 12)), (bV (s 13)), (bV (s 14)), (bV (s 15)), nv], 30⟩, ⟨b5, #[(bV (s 0)), (bV (s 1)), (bV (s 2)), (bV (s 3)), (bV (s 4)), (bV (s 5)), (bV (s 6)), (bV (s 7)), (bV (s 8)), (bV (s 9)), (bV (s 10)), (bV (s 11)), (bV (s 12)), (bV (s 13)), (bV (s 14)), (bV (s 15))], 23⟩]) (lb := []) hs54 (awake_ok (ht.up le55) (hst.up le55)) (by kernel_rfl) rfl rfl rfl rfl rfl ?_
      rintro _ G5 X1 w136 rfl le139 hs137 hid138
      obtain rfl : X1 = [] := List.map_eq_nil_iff.1 hid138
      replace hs137 : St w0 I (ids []) G5 [⟨b37, #[(bV (s 0)), (bV (s 1)), (bV (s 2)), (bV (s 3)), (bV (s 4)), (bV (s 5)), (bV (s 6)), (bV (s 7)), (bV (s 8)), (bV (s 9)), (bV (s 10)), (bV (s 11)), (bV (s 12)), (bV (s 13)), (bV (s 14)), (bV (s 15)), nv], 30⟩, ⟨b5, #[(bV (s 0)), (bV (s 1)), (bV (s 2)), (bV (s 3)), (bV (s 4)), (bV (s 5)), (bV (s 6)), (bV (s 7)), (bV (s 8)), (bV (s 9)), (bV (s 10)), (bV (s 11)), (bV (s 12)), (bV (s 13)), (bV (s 14)), (bV (s 15))], 23⟩] w136 := hs137
      clear hs54 hid138
      refine hK135 _ _ ?_; clear hK135 K134
      refine sq (r_assign rfl) rfl ?_
      refine wl_nil ?_
      refine hK132 _ _ ?_; (try clear hK132 K131)
      refine wp_ret ?_
      exact leave (X' := []) (L := [⟨b37, #[(bV (s 0)), (bV (s 1)), (bV (s 2)), (bV (s 3)), (bV (s 4)), (bV (s 5)), (bV (s 6)), (bV (s 7)), (bV (s 8)), (bV (s 9)), (bV (s 10)), (bV (s 11)), (bV (s 12)), (bV (s 13)), (bV (s 14)), (bV (s 15)), nv], 30⟩, ⟨b5, #[(bV (s 0)), (bV (s 1)), (bV (s 2)), (bV (s 3)), (bV (s 4)), (bV (s 5)), (bV (s 6)), (bV (s 7)), (bV (s 8)), (bV (s 9)), (bV (s 10)), (bV (s 11)), (bV (s 12)), (bV (s 13)), (bV (s 14)), (bV (s 15))], 23⟩]) hs137 rfl (res_one (v := .bool true) rfl (.tmp rfl rfl .nil)) rfl
end Go.Proofs.YtlnlodfnplkckaaDoor
/- The closing of a row: behind a call that leaves all old blocks as they were, the arguments read as before. Each theorem's conditions stand in it. -/
namespace Go.Proofs.YtlnlodfnplkckaaDoor
open Go.ChangeShapes Go.WideShapes Go.ChangeAt Go.RowKit
theorem FrBut.kept {W W' : World} (h : FrBut [] W W') : W.keptBut W' (fun _ => False) := by
  refine ⟨h.os, h.output, fun i hi => ?_⟩
  rw [h.block i hi (fun x => by cases x)]
  cases W.heap[i]? with
  | none => rfl
  | some o => cases o <;> simp
theorem FrBut.frozen {W W' : World} (h : FrBut [] W W') (a : Addr) (ha : a.block < W.heap.size) : W'.frozen? a = W.frozen? a := by
  unfold World.frozen?
  rw [h.block a.block ha (fun x => by cases x)]
theorem post_of_old {H : Type} {enc : TypeId × Value → H} {P : Program} {f : Func} {s : ChangeSpec} {apart fresh handsOn again : Bool} {W W' : World} {args : Array Value} {v : Value} {ds gs : List (DataW H)} {before pa pv : List MemPlace}
    (hW : DataW.Whole enc P f.params.toList s.vars apart W args.toList ds gs before)
    (hres : ∀ (b : Nat) (sp : Nat → Bool) (hd : Bool), DataW.TrodAll enc P W' b sp hd f.resultTypes.toList (v.resultList f.resultTypes.size) (s.fn H (ds ++ gs)).results [])
    (hargs : ∀ sp : Nat → Bool, (∀ p ∈ before, sp p.block = true) → DataW.TrodAll enc P W' 0 sp true f.params.toList args.toList (s.fn H (ds ++ gs)).args pa)
    (hvars : ∀ sp : Nat → Bool, (∀ p ∈ before, sp p.block = true) → DataW.TrodVars enc P W' sp s.vars (s.fn H (ds ++ gs)).vars pv)
    (hps : before = pa ++ pv) (hk : W.keptBut W' (· ∈ before)) (hfz : ∀ a : Addr, a.block < W.heap.size → W'.frozen? a = W.frozen? a)
    (hok : ∀ (j : Nat) (t : TypeId) (r : Value), f.resultTypes[j]? = some t → (v.resultList f.resultTypes.size)[j]? = some r → Value.okWide P W' .any 0 t r) :
    s.post enc P f apart fresh handsOn again W args v W' := by
  have hold : ∀ p ∈ before, (fun b => decide (b < W.heap.size)) p.block = true := fun p hp => by simpa using hW.lt p hp
  have hlt := hW.lt
  refine ⟨ds, gs, before, [], pa, pv, hW, hres _ _ _, hargs _ hold, hvars _ hold, World.keptBut_mono (fun p hp => ⟨hp, ?_⟩) hk, fun _ => ?_⟩
  · rw [hps, List.mem_append] at hp
    exact Or.inr hp
  · obtain ⟨_, _, _, _, _, hz, hn⟩ := hW
    refine ⟨hok, _, _, ([] ++ pa) ++ pv, ⟨[] ++ pa, pv, trodAll_append (hargs _ (fun _ _ => rfl)) (hres _ _ _), hvars _ (fun _ _ => rfl), rfl, ?_, ?_⟩, ?_⟩
    · intro b off hp
      have hm : MemPlace.cell b off ∈ before := by rw [hps]; simpa using hp
      rw [hfz ⟨b, off, none⟩ (hlt _ hm)]
      exact hz b off hm
    · intro ha
      have := hn ha
      rw [hps] at this
      simpa using this
    · intro p hp _
      rw [hps]
      simpa using hp
end Go.Proofs.YtlnlodfnplkckaaDoor
/- The closing of a row: the arguments and the laid variables, read into the ghost heap; the arguments read the same behind the call. Each theorem's conditions stand in it. -/
namespace Go.Proofs.YtlnlodfnplkckaaDoor
open Go.ChangeShapes Go.WideShapes Go.ChangeAt Go.RowKit
set_option linter.unusedVariables false
/-! ### The heap as the call finds it -/
def ghostOf (W : World) : GH := fun b => match W.heap[b]? with
  | some (.cells cs T fz) => some (.cells cs T fz)
  | _ => none
theorem ghostOf_at {W : World} {b : Nat} {cs : Array Value} {T : TypeId} {fz : Nat × Nat} (h : W.heap[b]? = some (.cells cs T fz)) : ghostOf W b = some (.cells cs T fz) := by
  unfold ghostOf; rw [h]
theorem ghostOf_sat (W : World) : Sat (ghostOf W) W := by
  constructor
  · intro b o h
    unfold ghostOf at h
    split at h
    · rename_i cs T fz he; rw [he]; exact h
    · cases h
  · intro b o h
    unfold ghostOf at h
    split at h
    · cases h; rfl
    · cases h
/-- A contract of a function, at the call's own world. -/
theorem Fn.call {P : Program} {f : FuncId} {args : Array Value} {W : World} {R : Value → GH → List Bx → Prop} (h : Fn P f args (ghostOf W) [] R) :
    Calls P f args W fun e w' => ∃ v J X', e = .returned v ∧ FrBut [] W w' ∧ R v J X' :=
  (h W (ghostOf_sat W) (fun x hx => (nomatch hx)) (fun x hx => (nomatch hx)) List.nodup_nil).mono fun _ _ ⟨v, J, X', h1, _, _, _, h5, _, _, h8⟩ => ⟨v, J, X', h1, h5, h8⟩
/-! ### The arguments behind the call -/
section
variable {H : Type} {enc : TypeId × Value → H} {P : Program} {W W' : World}
theorem FrBut.same (h : FrBut [] W W') {p : MemPlace} (hp : p.block < W.heap.size) : W.sameAt W' p := by
  have hb := h.block p.block hp (fun x => by cases x)
  cases p with
  | cell b off =>
    show W'.cell? ⟨b, off, none⟩ = W.cell? ⟨b, off, none⟩
    unfold World.cell?
    rw [show W'.heap[b]? = W.heap[b]? from hb]
  | map b => exact hb
theorem trodAll_old (h : FrBut [] W W') {base : Nat} {sp : Nat → Bool} {held : Bool} : ∀ {ts : List TypeId} {vs : List Value} {ds : List (DataW H)} {ps : List MemPlace}, (∀ p ∈ ps, p.block < W.heap.size) → DataW.TrodAll enc P W base sp held ts vs ds ps → DataW.TrodAll enc P W' base sp held ts vs ds ps
  | [], [], [], _, _, h1 => h1
  | _ :: _, _ :: _, _ :: _, _, hlt, ⟨p, q, ⟨n, h1⟩, h2, e⟩ =>
    ⟨p, q, ⟨n, DataW.trod_carry n _ _ _ h1 fun x hx => h.same (hlt x (by rw [e]; exact List.mem_append_left _ hx))⟩, trodAll_old h (fun x hx => hlt x (by rw [e]; exact List.mem_append_right _ hx)) h2, e⟩
theorem args_old (hl : laidOutB P = true) (hm : mapsRowed P = true) (hz : ((List.range P.types.size).all fun t => match P.underlying t with | some (.slice e) => decide (0 < P.cellsOf e) | _ => true) = true)
    {ts : List TypeId} (hts : ∀ t ∈ ts, t < P.types.size) (h : FrBut [] W W') {base : Nat} {vs : List Value} {ds : List (DataW H)} {ps : List MemPlace} (hA : DataW.TrodAll enc P W base (fun _ => true) true ts vs ds ps) :
    ∀ sp : Nat → Bool, (∀ p ∈ ps, sp p.block = true) → DataW.TrodAll enc P W' base sp true ts vs ds ps := fun sp hs =>
  trodAll_old h (DataW.TrodAll.lt hA) (DataW.TrodAll.respare (kids_rows hl hm) (slices_full_of P hz) hts hA hs)
/-! ### Rows of cells -/
variable {base : Nat} {sp : Nat → Bool} {held : Bool}
theorem row_at {a : Addr} {n : Nat} {V : Nat → Value} (hn : 0 < n) (h : ∀ i, i < n → W.cell? (a.add i) = some (V i)) :
    ∃ b off C T fz, a = ⟨b, off, none⟩ ∧ W.heap[b]? = some (.cells C T fz) ∧ (C.toList.drop off).take n = (List.range n).map V := by
  have h0 := h 0 hn
  have ha : a.add 0 = a := if_pos rfl
  rw [ha] at h0
  unfold World.cell? at h0
  split at h0
  · rename_i C T fz hb
    have hs : a.spot = none := by
      cases hs : a.spot with
      | none => rfl
      | some s => rw [hs] at h0; cases h0
    obtain ⟨b, off, sp⟩ := a
    simp only at hs
    subst hs
    have hi : ∀ i, i < n → C[off + i]? = some (V i) := fun i hi => by
      have h1 := h i hi
      have e : (⟨b, off, none⟩ : Addr).add i = ⟨b, off + i, none⟩ := by unfold Addr.add; split <;> simp_all
      rw [e] at h1
      unfold World.cell? at h1
      rw [show W.heap[b]? = some (.cells C T fz) from hb] at h1
      simpa using h1
    refine ⟨b, off, C, T, fz, rfl, hb, ?_⟩
    apply List.ext_getElem?
    intro i
    rw [List.getElem?_take, List.getElem?_map]
    by_cases h' : i < n
    · rw [if_pos h', List.getElem?_drop, Array.getElem?_toList, hi i h', List.getElem?_range h']; rfl
    · rw [if_neg h', List.getElem?_eq_none (by simpa using h')]; rfl
  · cases h0
theorem add_add (a : Addr) (m n : Nat) : (a.add m).add n = a.add (m + n) := by
  unfold Addr.add
  by_cases hm : m = 0
  · subst hm; simp
  · by_cases hn : n = 0
    · subst hn; simp [hm]
    · simp [hm, hn, Nat.add_assoc]
theorem bV_of {z : Int} (h : (Lit.int .u8 z).wf = true) : bV (UInt8.ofNat z.toNat) = .int .u8 z := by
  have := bounds_u8 h
  have e : (UInt8.ofNat z.toNat).toNat = z.toNat := by simp only [UInt8.toNat_ofNat']; omega
  unfold bV
  rw [e]
  congr 1
  omega
theorem bytes_trod {t e : TypeId} {fuel : Nat} {cs : List Value} {x : DataW H × List MemPlace} (ht : P.underlying t = some (.slice e)) (he : P.underlying e = some (.int .u8)) (hc : P.cellsOf e = 1) (h : DataW.trod enc P W base sp held fuel t cs = some x) :
    ∃ v k, cs = [v] ∧ BytesAt (ghostOf W) v k := by
  rcases open_ints ht he hc h with ⟨rfl, _⟩ | ⟨a, len, cap, zs, rfl, _, hlc, _, hz, _, hcell, hwf⟩
  · exact ⟨_, [], rfl, BytesAt.nil _⟩
  · have hlen : len ≤ zs.length := by rw [hz]; split <;> omega
    refine ⟨_, (List.range len).map fun i => UInt8.ofNat (zs.getD i 0).toNat, rfl, ?_⟩
    have hv : ∀ i, i < len → bV (UInt8.ofNat (zs.getD i 0).toNat) = .int .u8 (zs.getD i 0) := fun i hi => bV_of (hwf _ (by rw [List.getD_eq_getElem?_getD, List.getElem?_eq_getElem (by omega)]; exact List.getElem_mem _))
    have hm : ((List.range len).map fun i => UInt8.ofNat (zs.getD i 0).toNat).map bV = (List.range len).map fun i => Value.int .u8 (zs.getD i 0) := by
      rw [List.map_map]
      exact List.map_congr_left fun i hi => hv i (List.mem_range.1 hi)
    unfold BytesAt
    rw [hm, List.length_map, List.length_range]
    refine ⟨some a, cap, rfl, hlc, (fun h => nomatch h), by simp, fun hne => ?_⟩
    have hpos : 0 < len := Nat.pos_of_ne_zero fun e => hne (by rw [e]; rfl)
    obtain ⟨b, off, C, T, fz, rfl, hb, hr⟩ := row_at (V := fun i => Value.int .u8 (zs.getD i 0)) hpos fun i hi => hcell i (by omega)
    exact ⟨b, off, C, T, fz, rfl, ghostOf_at hb, by rw [Nat.mul_one]; exact hr⟩
theorem opcells_of {I : GH} : ∀ (len : Nat) (V : Nat → Value), (∀ i, i < len → ∃ (op : Int × Bs × Bs), V (i * 3) = .int .i64 op.1 ∧ BytesAt I (V (i * 3 + 1)) op.2.1 ∧ BytesAt I (V (i * 3 + 2)) op.2.2) →
    ∃ l : OpL, l.length = len ∧ OpCells I ((List.range (len * 3)).map V) l
  | 0, V, _ => ⟨[], rfl, trivial⟩
  | len + 1, V, h => by
    obtain ⟨op, h1, h2, h3⟩ := h 0 (by omega)
    obtain ⟨l, h4, h5⟩ := opcells_of len (fun j => V (j + 3)) fun i hi => by
      obtain ⟨op, h1, h2, h3⟩ := h (i + 1) (by omega)
      refine ⟨op, ?_, ?_, ?_⟩
      · rw [show i * 3 + 3 = (i + 1) * 3 by omega]; exact h1
      · rw [show i * 3 + 1 + 3 = (i + 1) * 3 + 1 by omega]; exact h2
      · rw [show i * 3 + 2 + 3 = (i + 1) * 3 + 2 by omega]; exact h3
    refine ⟨op :: l, by rw [List.length_cons, h4], ?_⟩
    have e : (List.range ((len + 1) * 3)).map V = V 0 :: V 1 :: V 2 :: (List.range (len * 3)).map fun j => V (j + 3) := by
      rw [show (len + 1) * 3 = len * 3 + 1 + 1 + 1 by omega, List.range_succ_eq_map, List.range_succ_eq_map, List.range_succ_eq_map]
      simp only [List.map_cons, List.map_map]
      rfl
    rw [e]
    exact ⟨h1, h2, h3, h5⟩
theorem ops_trod {t e tb u : TypeId} {f0 f1 f2 : Field} {fuel : Nat} {cs : List Value} {x : DataW H × List MemPlace} (ht : P.underlying t = some (.slice e)) (he : P.underlying e = some (.struct #[f0, f1, f2])) (hc : P.cellsOf e = 3)
    (h0 : P.underlying f0.type = some (.int .i64)) (h0c : P.cellsOf f0.type = 1) (h0o : f0.offset = 0) (h1 : f1.type = tb) (h1o : f1.offset = 1) (h2 : f2.type = tb) (h2o : f2.offset = 2)
    (hb : P.underlying tb = some (.slice u)) (hbc : P.cellsOf tb = 1) (hu : P.underlying u = some (.int .u8)) (huc : P.cellsOf u = 1) (h : DataW.trod enc P W base sp held fuel t cs = some x) :
    ∃ v l, cs = [v] ∧ OpsAt (ghostOf W) v l ∧ l.length ≤ maxLen := by
  rcases Go.Deep.open_slice ht h with ⟨rfl, _⟩ | ⟨a, len, cap, m, n, D, Pl, rfl, _, hlc, hcm, hm, _, hel⟩
  · exact ⟨_, [], rfl, ⟨[], SliceAt.nil _ _, trivial⟩, Nat.zero_le _⟩
  · have hlm : len ≤ m := by rw [hm]; split <;> omega
    rw [hc] at hel
    have hop : ∀ i, i < len → ∃ (op : Int × Bs × Bs) (kv xv : Value), W.cells? base (a.add (i * 3)) 3 = some [.int .i64 op.1, kv, xv] ∧ BytesAt (ghostOf W) kv op.2.1 ∧ BytesAt (ghostOf W) xv op.2.2 := fun i hi => by
      obtain ⟨cs', g1, g2⟩ := hel i (by omega)
      obtain ⟨xs, q, _, _, hl, hx, hf⟩ := DataW.trod_struct he g2
      rw [hc] at hl
      have hx3 : xs.length = 3 := hx
      match cs', hl with
      | [c0, c1, c2], _ =>
        have k0 := hf 0 f0 rfl
        have k1 := hf 1 f1 rfl
        have k2 := hf 2 f2 rfl
        rw [h0o, h0c, List.getElem?_eq_getElem (by omega)] at k0
        rw [h1, h1o, hbc, List.getElem?_eq_getElem (by omega)] at k1
        rw [h2, h2o, hbc, List.getElem?_eq_getElem (by omega)] at k2
        obtain ⟨z, e0, _, _⟩ := DataW.trod_int h0 k0
        obtain ⟨kv, k, e1, hk⟩ := bytes_trod hb hu huc k1
        obtain ⟨xv, y, e2, hy⟩ := bytes_trod hb hu huc k2
        simp at e0 e1 e2
        subst e0; subst e1; subst e2
        exact ⟨(z, k, y), _, _, g1, hk, hy⟩
    have hcell : ∀ j, j < len * 3 → W.cell? (a.add j) = some ((W.cell? (a.add j)).getD .nilIface) := fun j hj => by
      obtain ⟨op, kv, xv, g1, _, _⟩ := hop (j / 3) (by omega)
      have := (World.cells?_some g1).2.2 (j % 3) (by omega)
      rw [add_add, show j / 3 * 3 + j % 3 = j by omega] at this
      have h3 : j % 3 < 3 := by omega
      rw [this, List.getElem?_eq_getElem (by simpa using h3)]
      rfl
    obtain ⟨l, hl, hcs⟩ := opcells_of (I := ghostOf W) len (fun j => (W.cell? (a.add j)).getD .nilIface) fun i hi => by
      obtain ⟨op, kv, xv, g1, g2, g3⟩ := hop i hi
      have c := (World.cells?_some g1).2.2
      have c0 := c 0 (by omega)
      have c1 := c 1 (by omega)
      have c2 := c 2 (by omega)
      rw [add_add] at c0 c1 c2
      refine ⟨op, ?_, ?_, ?_⟩
      · rw [show W.cell? (a.add (i * 3)) = _ from c0]; rfl
      · rw [c1]; exact g2
      · rw [c2]; exact g3
    refine ⟨_, l, rfl, ⟨_, ⟨some a, cap, by rw [hl], by rw [hl]; exact hlc, (fun h => nomatch h), by rw [hl]; simp, fun hne => ?_⟩, hcs⟩, by rw [hl]; omega⟩
    have hpos : 0 < len * 3 := Nat.pos_of_ne_zero fun e => hne (by rw [e]; rfl)
    obtain ⟨b, off, C, T, fz, rfl, hb, hr⟩ := row_at hpos hcell
    exact ⟨b, off, C, T, fz, rfl, ghostOf_at hb, by rw [hl]; exact hr⟩
def u8Of : Option Value → UInt8
  | some (.int .u8 z) => UInt8.ofNat z.toNat
  | _ => 0
theorem seed_trod {t e : TypeId} {fuel : Nat} {cs : List Value} {x : DataW H × List MemPlace} (ht : P.underlying t = some (.array 16 e)) (he : P.underlying e = some (.int .u8)) (hc : P.cellsOf e = 1) (hct : P.cellsOf t = 16) (h : DataW.trod enc P W base sp held fuel t cs = some x) :
    ∃ s : Nat → UInt8, cs = [bV (s 0), bV (s 1), bV (s 2), bV (s 3), bV (s 4), bV (s 5), bV (s 6), bV (s 7), bV (s 8), bV (s 9), bV (s 10), bV (s 11), bV (s 12), bV (s 13), bV (s 14), bV (s 15)] := by
  obtain ⟨xs, m, _, _, hl, hx, hel⟩ := DataW.trod_array ht h
  refine ⟨fun i => u8Of cs[i]?, ?_⟩
  show cs = (List.range 16).map fun i => bV (u8Of cs[i]?)
  apply List.ext_getElem?
  intro i
  by_cases hi : i < 16
  · have g := hel i hi
    rw [hc, Nat.mul_one, List.getElem?_eq_getElem (by omega)] at g
    obtain ⟨z, e1, _, hw⟩ := DataW.trod_int he g
    have e2 : cs[i]? = some (.int .u8 z) := by
      have := congrArg (fun l => l[0]?) e1
      simpa [List.getElem?_take, List.getElem?_drop] using this
    rw [List.getElem?_map, List.getElem?_range hi, e2]
    simp only [Option.map_some, e2]
    exact congrArg some (bV_of hw).symm
  · rw [List.getElem?_eq_none (by rw [hl, hct]; omega), List.getElem?_eq_none (by simpa using hi)]
theorem lits_trod {t e : TypeId} {k : IntKind} {fuel : Nat} {cs : List Value} {ns : List Int} {p : List MemPlace} (ht : P.underlying t = some (.array ns.length e)) (he : P.underlying e = some (.int k)) (hc : P.cellsOf e = 1) (hct : P.cellsOf t = ns.length)
    (h : DataW.trod enc P W base sp held fuel t cs = some (.agg (ns.map fun n => .lit (.int k n)), p)) : cs = ns.map fun n => .int k n := by
  obtain ⟨xs, m, _, hxe, hl, hx, hel⟩ := DataW.trod_array ht h
  have hxs : xs.map (·.1) = ns.map fun n => (.lit (.int k n) : DataW H) := by
    have := congrArg Prod.fst hxe
    simpa using this.symm
  apply List.ext_getElem?
  intro i
  by_cases hi : i < ns.length
  · have g := hel i hi
    rw [hc, Nat.mul_one, List.getElem?_eq_getElem (by omega)] at g
    obtain ⟨z, e1, e3, hw⟩ := DataW.trod_int he g
    have e2 : cs[i]? = some (.int k z) := by
      have := congrArg (fun l => l[0]?) e1
      simpa [List.getElem?_take, List.getElem?_drop] using this
    have e4 := congrArg (fun l => l[i]?) hxs
    simp only [List.getElem?_map] at e4
    rw [List.getElem?_eq_getElem (show i < xs.length by omega), List.getElem?_eq_getElem hi] at e4
    simp only [Option.map_some, Option.some.injEq] at e4
    rw [e3] at e4
    simp only [DataW.lit.injEq, Lit.int.injEq, true_and] at e4
    rw [e2, List.getElem?_map, List.getElem?_eq_getElem hi, e4]; rfl
  · rw [List.getElem?_eq_none (by rw [hl, hct]; omega), List.getElem?_eq_none (by simpa using hi)]
end
end Go.Proofs.YtlnlodfnplkckaaDoor
/- The row and the card of TrieMeters. Its conditions stand in the given row. -/
namespace Go.Proofs.YtlnlodfnplkckaaDoor
open Go Go.ChangeShapes Go.WideShapes Go.ChangeAt Go.RowKit
set_option linter.unusedVariables false
theorem own_knob : ownKnob Tryd.prog.godebug = none := by kernel_rfl
theorem tab_glob : Tryd.prog.globalNamed "math/bits.deBruijn32tab" = some 1 := by kernel_rfl
theorem start_glob : Tryd.prog.globalNamed "brushwood/sip.start" = some 0 := by kernel_rfl
def gty (P : Program) (g : Nat) : TypeId := ((P.globals[g]?).map (·.type)).getD 0
theorem var_heap {P : Program} {W : World} {n : String} {g : Nat} {cs : Array Value} (hg : P.globalNamed n = some g) (h : W.var? P n = some cs) : ∃ T fz, W.heap[g]? = some (.cells cs T fz) := by
  unfold World.var? at h
  rw [hg] at h
  simp only [Option.bind_some] at h
  split at h
  · rename_i c T fz he
    cases h
    exact ⟨T, fz, he⟩
  · cases h
def tabL : List Int := [0, 1, 28, 2, 29, 14, 24, 3, 30, 22, 20, 15, 25, 17, 4, 8, 31, 27, 13, 23, 21, 19, 16, 7, 26, 12, 18, 6, 11, 5, 10, 9]
def startL : List Int := [8317987319222330741, 7237128888997146477, 7816392313619706465, 8387220255154660723]
/-- What the condition on the laid variables gives. -/
theorem tab_of {H : Type} {enc : TypeId × Value → H} {W : World} {fuel : Nat} {cs : Array Value} {base : Nat} {sp : Nat → Bool} {held : Bool} {p : List MemPlace} (hv : W.var? Tryd.prog "math/bits.deBruijn32tab" = some cs)
    (hd : DataW.trod enc Tryd.prog W base sp held fuel (gty Tryd.prog 1) cs.toList = some (.agg (tabL.map fun n => .lit (.int .u8 n)), p)) : TabG (ghostOf W) := by
  obtain ⟨T, fz, hb⟩ := var_heap tab_glob hv
  have e := lits_trod (P := Tryd.prog) (e := 5) (ns := tabL) (by kernel_rfl) (by kernel_rfl) (by kernel_rfl) (by kernel_rfl) hd
  refine ⟨cs, T, fz, ghostOf_at hb, fun j hj => ?_⟩
  rw [← Array.getElem?_toList, e]
  have h : ∀ j, j < 32 → tabL[j]? = some ((Go.Lib.deBruijn32tab.getD j 0 : Nat) : Int) := by decide
  rw [List.getElem?_map, h j hj]; rfl
theorem start_of {H : Type} {enc : TypeId × Value → H} {W : World} {fuel : Nat} {cs : Array Value} {base : Nat} {sp : Nat → Bool} {held : Bool} {p : List MemPlace} (hv : W.var? Tryd.prog "brushwood/sip.start" = some cs)
    (hd : DataW.trod enc Tryd.prog W base sp held fuel (gty Tryd.prog 0) cs.toList = some (.agg (startL.map fun n => .lit (.int .u64 n)), p)) : StartG (ghostOf W) := by
  obtain ⟨T, fz, hb⟩ := var_heap start_glob hv
  have e := lits_trod (P := Tryd.prog) (e := 50) (ns := startL) (by kernel_rfl) (by kernel_rfl) (by kernel_rfl) (by kernel_rfl) hd
  have e2 : cs = #[.int .u64 8317987319222330741, .int .u64 7237128888997146477, .int .u64 7816392313619706465, .int .u64 8387220255154660723] := by
    apply Array.toList_inj.1; rw [e]; rfl
  refine ⟨T, fz, ?_⟩
  rw [← e2]
  exact ghostOf_at hb
theorem met_of {W : World} (h : laidMetH Tryd.prog Rows.trieMetersRow.laid W) : TabG (ghostOf W) ∧ StartG (ghostOf W) := by
  rw [MakeChecks.laidMetH_plain _ _ _ (by kernel_rfl)] at h
  obtain ⟨ps, ⟨g0, t0, cs0, f0, p0, q0, hg0, ht0, hv0, hd0, ⟨g1, t1, cs1, f1, p1, q1, hg1, ht1, hv1, hd1, _, _⟩, _⟩, _, _⟩ := h
  obtain rfl := Option.some.inj (tab_glob.symm.trans hg0)
  obtain rfl := Option.some.inj (start_glob.symm.trans hg1)
  have e0 : t0 = gty Tryd.prog 1 := by unfold gty; rw [ht0]; rfl
  have e1 : t1 = gty Tryd.prog 0 := by unfold gty; rw [ht1]; rfl
  subst e0; subst e1
  exact ⟨tab_of hv0 hd0, start_of hv1 hd1⟩
theorem door_met (os : Os) (args : Array Value) : laidMetH Tryd.prog Rows.trieMetersRow.laid ((World.doorLaid Tryd.prog 400 os).forCall (fun _ _ => 0) ⟨#[], args, []⟩).memory :=
  laidMetH_of_parts3 (fuel := 8) (laidMet_of_run' 8 (by kernel_rfl) (by kernel_rfl)) (by kernel_rfl) (by kernel_rfl)
set_option maxRecDepth 100000 in
theorem lifted (os : Os) (started : os.Started) (H : Type) (enc : TypeId × Value → H) :
    ReturnsInHanded {} Tryd.checked os 3 .any (fun w args => (Rows.trieMetersSpec.pre enc Tryd.prog Tryd.f3 [] false w args ∧ laidMetH Tryd.prog Rows.trieMetersRow.laid w) ∧ sizedMet enc Tryd.prog Tryd.f3 (OpenSpec.ofChange Rows.trieMetersSpec) false w args)
      (Rows.trieMetersSpec.post enc Tryd.prog Tryd.f3 false true false false) := by
  refine returnsInHanded_of_change_and (C := Tryd.checked) (X := fun w _ => laidMetH Tryd.prog Rows.trieMetersRow.laid w) (fun _ _ _ hh h => h.of_heap hh) own_knob started (by kernel_rfl) Tryd.func3
    (ChangeSpec.witness_shaped (enc := enc) (C := Tryd.checked) (os := os) (X := fun w _ => laidMetH Tryd.prog Rows.trieMetersRow.laid w) false (World.doorLaid Tryd.prog 400 os) #[.agg #[.int .u8 0, .int .u8 0, .int .u8 0, .int .u8 0, .int .u8 0, .int .u8 0, .int .u8 0, .int .u8 0, .int .u8 0, .int .u8 0, .int .u8 0, .int .u8 0, .int .u8 0, .int .u8 0, .int .u8 0, .int .u8 0], .slice none 0 0] 8 rfl (World.shaped_of_RefB (by kernel_rfl) (by kernel_rfl)) (by kernel_rfl) (by kernel_rfl) (by kernel_rfl) (door_met os _)) ?_
  intro W base args ds gs before hval0 hW _ _ hL _
  have hval : ∀ (j : Nat) t v, Tryd.f3.params[j]? = some t → args[j]? = some v → Value.okWide Tryd.prog W .any base t v := hval0
  have hW' := hW
  obtain ⟨p, q, hA0, hV, rfl, hfz, hnd⟩ := hW
  have hA : DataW.TrodAll enc Tryd.prog W 0 (fun _ => true) true Tryd.f3.params.toList args.toList ds p := hA0
  obtain ⟨rfl, rfl⟩ := trodVars_none hV
  have hA2 := hA
  rw [Tryd.params3] at hA2 hval
  obtain ⟨v0, v1, d0, d1, p0, p1, rfl, rfl, rfl, ⟨n0, h0⟩, ⟨n1, h1⟩⟩ := trodAll_two hA2
  obtain ⟨ht, hst⟩ := met_of hL
  obtain ⟨cs0, rfl, hcs0⟩ : ∃ cs, v0 = .agg cs ∧ True := by
    have := hval 0 23 v0 rfl rfl
    unfold Value.okWide at this
    rw [Tryd.underlying23] at this
    obtain ⟨cs, e, _⟩ := this
    exact ⟨cs, e, trivial⟩
  obtain ⟨s, hs⟩ := seed_trod (P := Tryd.prog) (e := 5) Tryd.underlying23 (by kernel_rfl) (by kernel_rfl) (by kernel_rfl) h0
  obtain ⟨v, l, hv, hops, hlen⟩ := ops_trod (P := Tryd.prog) (e := 35) (tb := 33) (u := 5) Tryd.underlying24 Tryd.underlying35 (by kernel_rfl) (by kernel_rfl) (by kernel_rfl) rfl rfl rfl rfl rfl (by kernel_rfl) (by kernel_rfl) (by kernel_rfl) (by kernel_rfl) h1
  have hs' : cs0 = #[bV (s 0), bV (s 1), bV (s 2), bV (s 3), bV (s 4), bV (s 5), bV (s 6), bV (s 7), bV (s 8), bV (s 9), bV (s 10), bV (s 11), bV (s 12), bV (s 13), bV (s 14), bV (s 15)] := Array.toList_inj.1 hs
  subst hs'
  obtain ⟨a1, c1, rfl⟩ := hops.slc
  obtain ⟨a2, len2, c2, rfl⟩ := okWide_slice Tryd.underlying24 (hval 1 24 v1 rfl rfl)
  have hv2 : [Value.slice a2 len2 c2] = [Value.slice a1 l.length c1] := hv
  rw [List.cons.injEq, Value.slice.injEq] at hv2
  obtain ⟨⟨rfl, rfl, rfl⟩, -⟩ := hv2
  have hpre := hW'
  refine (triemeters_ok (s := s) (l := l) ht hst hops (Nat.le_trans hlen (by decide))).call.mono fun e W' ⟨v, J, X', he, hfr, hr⟩ => ?_
  subst he; subst hr
  refine ⟨_, rfl, ?_⟩
  have hargs := args_old (P := Tryd.prog) (enc := enc) (by kernel_rfl) (by kernel_rfl) (by kernel_rfl) (ts := Tryd.f3.params.toList) (by rw [Tryd.params3]; decide) hfr hA
  exact post_of_old hpre (fun _ _ _ => trodAll_mk1 (shut_bool Tryd.underlying4 _)) (pa := p0 ++ p1) (pv := []) (fun sp h => hargs sp fun x hx => h x (List.mem_append_left _ hx)) (fun _ _ => rfl) rfl (World.keptBut_mono (fun _ h => h.elim) hfr.kept) hfr.frozen (ok_one (by kernel_rfl) rfl (okWide_bool_mk Tryd.underlying4 _))
end Go.Proofs.YtlnlodfnplkckaaDoor
/- The card of TrieMeters. Its conditions stand in the given row. -/
namespace Go.Proofs.YtlnlodfnplkckaaDoor
open Go
theorem trieMeters_holds : Rows.TrieMetersSaid :=
  OpenClaim.holds_of_wide 3 Tryd.f3 rfl rfl rfl rfl rfl rfl rfl ⟨rfl, rfl, rfl, rfl, rfl⟩ rfl rfl rfl rfl rfl (by kernel_rfl) Tryd.func3 (by kernel_rfl)
    (of_decide_eq_true (by kernel_rfl)) (by unfold Func.isWrapper; first | (rw [if_pos (by decide +kernel)]; kernel_rfl) | (rw [if_neg (by decide +kernel)]; exact ⟨rfl, rfl⟩))
    (fun os started H enc _ => lifted os started H enc)
theorem trieMeters_card : Rows.TrieMetersCardSaid :=
  Claim7.holds_tied_plain_at .later [] [.data, .data] true (true, "0c11890754ca5680bd702c01b883689b5a44bf3f1cb060dc5b54e632a3cd157e") true
    trieMeters_holds (fun _ h => by cases h) (by kernel_rfl) (fun _ h => by cases h) trieMeters_row_tie rfl ⟨rfl, rfl⟩ (by kernel_rfl) rfl
    (fun f fn hf hfn => by
      obtain rfl : f = 3 := Option.some.inj ((show Tryd.prog.funcNamed "brushwood/brushwoodlaw21.TrieMeters" = some 3 by kernel_rfl).symm.trans hf) |>.symm
      obtain rfl : fn = Tryd.f3 := (Option.some.inj (Tryd.func3.symm.trans hfn)).symm
      exact ⟨by kernel_rfl, fun j t ht => by
        rw [Tryd.params3] at ht
        have hm : t ∈ [23, 24] := by simpa using Array.mem_of_getElem? ht
        have hall : ([23, 24].all fun u => !Tryd.prog.wantsStandIn u) = true := by kernel_rfl
        exact (show Tryd.prog.wantsStandIn t = false by simpa using List.all_eq_true.1 hall t hm)⟩)
    (by kernel_rfl)
end Go.Proofs.YtlnlodfnplkckaaDoor
