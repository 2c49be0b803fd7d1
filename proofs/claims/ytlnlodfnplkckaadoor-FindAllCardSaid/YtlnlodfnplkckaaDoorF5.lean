/- Texts of the walk, laid together. Each theorem's conditions stand in it. -/
import Derived.Test.YtlnlodfnplkckaaDoorF4
import Derived.DeepKeys
import Derived.RowKit3
import Derived.ProofKit
import Derived.OpenShut
import Derived.ChangeSlices
import Derived.ReadAgain
import Derived.Deep.Slices
import Derived.Shelf.SlSortCmp.WholeK
/- The order of keys; sorted trees: what is in them; even trees: how high they are. Each theorem's conditions stand in it. -/
namespace Go.Proofs.YtlnlodfnplkckaaDoor
set_option linter.unusedVariables false
/-! ### The order of keys -/
theorem cmpB_self : ∀ k : Bs, cmpB k k = 0
  | [] => rfl
  | a :: k => by simp [cmpB, UInt8.lt_irrefl, cmpB_self k]
theorem cmpB_val : ∀ a b : Bs, cmpB a b = -1 ∨ cmpB a b = 0 ∨ cmpB a b = 1
  | [], [] => .inr (.inl rfl)
  | [], _ :: _ => .inl rfl
  | _ :: _, [] => .inr (.inr rfl)
  | x :: a, y :: b => by
    unfold cmpB
    split
    · exact .inl rfl
    · split
      · exact .inr (.inr rfl)
      · exact cmpB_val a b
theorem cmpB_eq : ∀ {a b : Bs}, cmpB a b = 0 → a = b
  | [], [], _ => rfl
  | [], _ :: _, h => by cases h
  | _ :: _, [], h => by cases h
  | x :: a, y :: b, h => by
    unfold cmpB at h
    split at h
    · cases h
    · split at h
      · cases h
      · rename_i h1 h2
        have : x = y := by
          rw [UInt8.lt_iff_toNat_lt] at h1 h2
          exact UInt8.toNat_inj.1 (by omega)
        rw [this, cmpB_eq h]
theorem cmpB_swap : ∀ a b : Bs, cmpB b a = - cmpB a b
  | [], [] => rfl
  | [], _ :: _ => rfl
  | _ :: _, [] => rfl
  | x :: a, y :: b => by
    have ih := cmpB_swap a b
    unfold cmpB
    by_cases h1 : x < y
    · have h2 : ¬ y < x := by rw [UInt8.lt_iff_toNat_lt] at *; omega
      rw [if_neg h2, if_pos h1, if_pos h1]; rfl
    · by_cases h2 : y < x
      · rw [if_pos h2, if_neg h1, if_pos h2]
      · rw [if_neg h2, if_neg h1, if_neg h1, if_neg h2, ih]
theorem cmpB_trans : ∀ {a b c : Bs}, cmpB a b = -1 → cmpB b c = -1 → cmpB a c = -1
  | [], _, [], h1, h2 => by
    rename_i b
    cases b <;> cases h1
    cases h2
  | [], _, _ :: _, _, _ => rfl
  | _ :: _, [], _, h1, _ => by cases h1
  | _ :: _, _ :: _, [], _, h2 => by cases h2
  | x :: a, y :: b, z :: c, h1, h2 => by
    unfold cmpB at h1 h2 ⊢
    by_cases hxz : x < z
    · rw [if_pos hxz]
    · rw [if_neg hxz]
      split at h1
      · rename_i hxy
        split at h2
        · rename_i hyz
          exfalso; rw [UInt8.lt_iff_toNat_lt] at *; omega
        · split at h2
          · cases h2
          · rename_i hyz hzy
            exfalso; rw [UInt8.lt_iff_toNat_lt] at *; omega
      · split at h1
        · cases h1
        · rename_i hxy hyx
          split at h2
          · rename_i hyz
            exfalso; rw [UInt8.lt_iff_toNat_lt] at *; omega
          · split at h2
            · cases h2
            · rename_i hyz hzy
              rw [if_neg (by rw [UInt8.lt_iff_toNat_lt] at *; omega)]
              exact cmpB_trans h1 h2
/-! ### Lists of pairs -/
/-- Sorted, no key twice. -/
def Srt (l : List (Bs × Bs)) : Prop := l.Pairwise fun p q => cmpB p.1 q.1 = -1
theorem getL_nil (k : Bs) : getL [] k = none := rfl
theorem getL_cons (p : Bs × Bs) (l : List (Bs × Bs)) (k : Bs) : getL (p :: l) k = if p.1 = k then some p.2 else getL l k := by
  unfold getL
  by_cases h : p.1 = k
  · rw [List.find?_cons_of_pos (by simpa using h), if_pos h]; rfl
  · rw [List.find?_cons_of_neg (by simpa using h), if_neg h]
theorem getL_append (l m : List (Bs × Bs)) (k : Bs) : getL (l ++ m) k = (getL l k).or (getL m k) := by
  induction l with
  | nil => rfl
  | cons p l ih =>
    rw [List.cons_append, getL_cons, getL_cons, ih]
    split <;> rfl
theorem getL_no {l : List (Bs × Bs)} {k : Bs} (h : ∀ p ∈ l, p.1 ≠ k) : getL l k = none := by
  induction l with
  | nil => rfl
  | cons p l ih =>
    rw [getL_cons, if_neg (h p (.head _))]
    exact ih fun q hq => h q (.tail _ hq)
theorem getL_some {l : List (Bs × Bs)} {k x : Bs} (h : getL l k = some x) : (k, x) ∈ l := by
  induction l with
  | nil => cases h
  | cons p l ih =>
    rw [getL_cons] at h
    split at h
    · rename_i e; cases h; rw [← e]; exact .head _
    · exact .tail _ (ih h)
theorem Srt.mid {l r : List (Bs × Bs)} {p : Bs × Bs} (h : Srt (l ++ p :: r)) : Srt l ∧ Srt r ∧ (∀ q ∈ l, cmpB q.1 p.1 = -1) ∧ (∀ q ∈ r, cmpB p.1 q.1 = -1) ∧ ∀ q ∈ l, ∀ q' ∈ r, cmpB q.1 q'.1 = -1 := by
  unfold Srt at h
  rw [List.pairwise_append] at h
  obtain ⟨h1, h2, h3⟩ := h
  rw [List.pairwise_cons] at h2
  exact ⟨h1, h2.2, fun q hq => h3 q hq p (.head _), h2.1, fun q hq q' hq' => h3 q hq q' (.tail _ hq')⟩
theorem Srt.mk {l r : List (Bs × Bs)} {p : Bs × Bs} (h1 : Srt l) (h2 : Srt r) (h3 : ∀ q ∈ l, cmpB q.1 p.1 = -1) (h4 : ∀ q ∈ r, cmpB p.1 q.1 = -1) : Srt (l ++ p :: r) := by
  unfold Srt
  rw [List.pairwise_append]
  refine ⟨h1, List.pairwise_cons.2 ⟨h4, h2⟩, fun q hq q' hq' => ?_⟩
  cases hq' with
  | head => exact h3 q hq
  | tail _ hq' => exact cmpB_trans (h3 q hq) (h4 q' hq')
theorem Srt.app {l r : List (Bs × Bs)} (h1 : Srt l) (h2 : Srt r) (h : ∀ q ∈ l, ∀ q' ∈ r, cmpB q.1 q'.1 = -1) : Srt (l ++ r) := by
  unfold Srt; rw [List.pairwise_append]; exact ⟨h1, h2, h⟩

namespace T
/-! ### What is in a sorted tree -/
section
variable {l r : List (Bs × Bs)} {tk tx k : Bs} (h : Srt (l ++ (tk, tx) :: r))
include h
theorem mid_lt (hk : cmpB k tk = -1) : getL (l ++ (tk, tx) :: r) k = getL l k := by
  rw [getL_append, getL_cons, if_neg (fun e => by rw [← e, cmpB_self] at hk; cases hk), getL_no (l := r), Option.or_none]
  intro p hp e
  have := cmpB_trans hk (h.mid.2.2.2.1 p hp)
  rw [e, cmpB_self] at this; cases this
theorem mid_gt (hk : cmpB k tk = 1) : getL (l ++ (tk, tx) :: r) k = getL r k := by
  have hk' : cmpB tk k = -1 := by rw [cmpB_swap, hk]
  rw [getL_append, getL_cons, if_neg (fun e => by rw [← e, cmpB_self] at hk; cases hk), getL_no (l := l), Option.none_or]
  intro p hp e
  have := cmpB_trans (h.mid.2.2.1 p hp) hk'
  rw [e, cmpB_self] at this; cases this
theorem mid_eq (hk : k = tk) : getL (l ++ (tk, tx) :: r) k = some tx := by
  subst hk
  rw [getL_append, getL_cons, if_pos rfl, getL_no (l := l), Option.none_or]
  intro p hp e
  have := h.mid.2.2.1 p hp
  simp only at this
  rw [e, cmpB_self] at this; cases this
end
theorem get_eq : ∀ (t : T) (k : Bs), Srt t.toList → t.get k = getL t.toList k
  | .nil, _, _ => rfl
  | .node l tk tx r, k, h => by
    have h' : Srt (l.toList ++ (tk, tx) :: r.toList) := h
    simp only [get, toList]
    by_cases h0 : cmpB k tk = 0
    · rw [if_pos h0, mid_eq h' (cmpB_eq h0)]
    · rw [if_neg h0]
      by_cases h1 : cmpB k tk = 1
      · rw [if_pos h1, mid_gt h' h1, get_eq r k h'.mid.2.1]
      · rw [if_neg h1, mid_lt h' (by rcases cmpB_val k tk with z | z | z <;> first | exact z | exact absurd z h0 | exact absurd z h1), get_eq l k h'.mid.1]
end T
theorem Srt.filter {l : List (Bs × Bs)} (h : Srt l) (p : Bs × Bs → Bool) : Srt (l.filter p) := List.Pairwise.filter _ h

namespace T
/-! ### Even trees -/
def Bal : T → Prop
  | .nil => True
  | .node l _ _ r => evenB l.size r.size = true ∧ l.Bal ∧ r.Bal
theorem even_half (n : Nat) : evenB (n / 2) (n - 1 - n / 2) = true := by
  unfold evenB
  rw [Bool.and_eq_true, decide_eq_true_iff, decide_eq_true_iff]
  omega
theorem Bal.fromL (l : List (Bs × Bs)) : (T.fromL l).Bal := by
  induction hn : l.length using Nat.strongRecOn generalizing l with
  | _ n ih =>
    by_cases h : l = []
    · subst h; rw [T.fromL]; trivial
    · have hp := List.length_pos_iff.2 h
      rw [fromL_ne h]
      refine ⟨?_, ih _ (by simp only [List.length_take]; omega) _ rfl, ih _ (by simp only [List.length_drop]; omega) _ rfl⟩
      rw [size_fromL, size_fromL, List.length_take, List.length_drop, Nat.min_eq_left (by omega)]
      have := even_half l.length
      rwa [show l.length - 1 - l.length / 2 = l.length - (l.length / 2 + 1) by omega] at this
theorem Bal.turnL {l : T} {k x : Bs} {r t : T} (hl : l.Bal) (hr : r.Bal) (h : T.turnL l k x r = some t) : t.Bal := by
  cases r with
  | nil => cases h
  | node i k2 x2 o =>
    obtain ⟨_, hi, ho⟩ := hr
    simp only [T.turnL] at h
    split at h
    · rename_i hs
      cases h
      unfold singleB at hs
      rw [Bool.and_eq_true] at hs
      refine ⟨?_, ⟨hs.1, hl, hi⟩, ho⟩
      simp only [size]
      rw [show l.size + 1 + i.size = l.size + i.size + 1 by omega]; exact hs.2
    · cases i with
      | nil => cases h
      | node il k3 x3 ir =>
        simp only at h
        split at h
        · rename_i hs
          cases h
          rw [Bool.and_eq_true, Bool.and_eq_true] at hs
          exact ⟨hs.2, ⟨hs.1.1, hl, hi.2.1⟩, ⟨hs.1.2, hi.2.2, ho⟩⟩
        · cases h
theorem evenB_swap (a b : Nat) : evenB a b = evenB b a := by unfold evenB; rw [Bool.and_comm]
theorem Bal.turnR {l : T} {k x : Bs} {r t : T} (hl : l.Bal) (hr : r.Bal) (h : T.turnR r k x l = some t) : t.Bal := by
  cases l with
  | nil => cases h
  | node o k2 x2 i =>
    obtain ⟨_, ho, hi⟩ := hl
    simp only [T.turnR] at h
    split at h
    · rename_i hs
      cases h
      unfold singleB at hs
      rw [Bool.and_eq_true] at hs
      refine ⟨?_, ho, ⟨by rw [evenB_swap]; exact hs.1, hi, hr⟩⟩
      simp only [size]
      rw [evenB_swap, show i.size + 1 + r.size = r.size + i.size + 1 by omega]; exact hs.2
    · cases i with
      | nil => cases h
      | node il k3 x3 ir =>
        simp only at h
        split at h
        · rename_i hs
          cases h
          rw [Bool.and_eq_true, Bool.and_eq_true] at hs
          refine ⟨?_, ⟨by rw [evenB_swap]; exact hs.1.2, ho, hi.2.1⟩, ⟨by rw [evenB_swap]; exact hs.1.1, hi.2.2, hr⟩⟩
          simp only [size]
          rw [evenB_swap, show ir.size + 1 + r.size = r.size + 1 + ir.size by omega, show o.size + 1 + il.size = il.size + 1 + o.size by omega]
          exact hs.2
        · cases h
theorem Bal.even {l : T} {k x : Bs} {r : T} (hl : l.Bal) (hr : r.Bal) : (T.even l k x r).Bal := by
  unfold T.even
  split
  · rename_i h; exact ⟨h, hl, hr⟩
  · split
    · cases ht : T.turnL l k x r with
      | none => exact Bal.fromL _
      | some t => exact Bal.turnL hl hr ht
    · cases ht : T.turnR r k x l with
      | none => exact Bal.fromL _
      | some t => exact Bal.turnR hl hr ht
theorem Bal.join {l : T} {k x : Bs} {r : T} (hl : l.Bal) (hr : r.Bal) : (T.join l k x r).Bal := by
  induction hn : l.size + r.size using Nat.strongRecOn generalizing l r with
  | _ n ih =>
    rw [join.eq_def]
    split
    · rename_i h; exact ⟨h, hl, hr⟩
    · rename_i hne
      split
      · cases l with
        | nil => rename_i h; simp only [size] at h; omega
        | node ll lk lx lr =>
          simp only
          exact Bal.even hl.2.1 (ih _ (by simp only [size] at hn; omega) hl.2.2 hr rfl)
      · cases r with
        | nil =>
          rename_i h
          have h0 : l.size = 0 := by simp only [size] at h; omega
          exact absurd (by rw [h0]; simp [evenB, size]) hne
        | node rl rk rx rr =>
          simp only
          exact Bal.even (ih _ (by simp only [size] at hn; omega) hl hr.2.1 rfl) hr.2.2
theorem Bal.first : ∀ (l : T) (k x : Bs) (r : T), (T.node l k x r).Bal → (T.first l k x r).2.2.1.Bal
  | .nil, _, _, _, h => h.2.2
  | .node ll lk lx lr, k, x, r, h => Bal.even (Bal.first ll lk lx lr h.2.1) h.2.2
theorem Bal.pair {l r : T} (hl : l.Bal) (hr : r.Bal) : (T.pair l r).1.Bal := by
  cases l with
  | nil => exact hr
  | node ll lk lx lr =>
    cases r with
    | nil => exact hl
    | node rl rk rx rr => exact Bal.join hl (Bal.first _ _ _ _ hr)
theorem Bal.put : ∀ {t : T} (k x : Bs), t.Bal → (t.put k x).Bal
  | .nil, _, _, _ => ⟨by simp [evenB, size], trivial, trivial⟩
  | .node l tk tx r, k, x, h => by
    simp only [T.put]
    split
    · exact h
    · split
      · exact Bal.even h.2.1 (Bal.put k x h.2.2)
      · exact Bal.even (Bal.put k x h.2.1) h.2.2
theorem Bal.del : ∀ {t t' : T} {k : Bs}, t.Bal → t.del k = some t' → t'.Bal
  | .nil, _, _, _, hd => by cases hd
  | .node l tk tx r, t', k, h, hd => by
    simp only [T.del] at hd
    split at hd
    · cases hd; exact Bal.pair h.2.1 h.2.2
    · split at hd
      · cases hr : r.del k with
        | none => rw [hr] at hd; cases hd
        | some u => rw [hr] at hd; cases hd; exact Bal.even h.2.1 (Bal.del h.2.2 hr)
      · cases hr : l.del k with
        | none => rw [hr] at hd; cases hd
        | some u => rw [hr] at hd; cases hd; exact Bal.even (Bal.del h.2.1 hr) h.2.2

/-! ### Heights -/
def ht : T → Nat
  | .nil => 0
  | .node l _ _ r => 1 + max l.ht r.ht
end T
end Go.Proofs.YtlnlodfnplkckaaDoor
/- Tries as maps: what is found after a Put and after a Delete; what a call costs. Each theorem's conditions stand in it. -/
namespace Go.Proofs.YtlnlodfnplkckaaDoor
open T (Sm)
set_option linter.unusedVariables false
theorem cmpB_iff {a b : Bs} : cmpB a b = 0 ↔ a = b := ⟨cmpB_eq, fun e => by rw [e, cmpB_self]⟩
/-! ### Sets of one and of two -/
namespace N
/-- What is found of a key under its hash. -/
def look (h : Nat) (k : Bs) (n : N) (l : Nat) : Option Bs := endGet h k (way h n l).1
theorem look_branch {h l m : Nat} {kids : List N} {k : Bs} : look h k (.branch m kids) l = look h k (kid (.branch m kids) ((chunkN h l : Nat) : Int)) (l + 1) := by
  unfold look; rw [way]
theorem look_end {n : N} {h l : Nat} {k : Bs} (hm : n.map.isSome = false) : look h k n l = endGet h k n := by unfold look; rw [way_end h l hm]
theorem look_none {h l : Nat} {k : Bs} : look h k .none l = Option.none := by rw [look_end rfl]; rfl
theorem look_leaf {h l g : Nat} {k k0 x0 : Bs} : look h k (.leaf g k0 x0) l = if g = h ∧ k = k0 then some x0 else Option.none := by
  rw [look_end rfl]; simp only [endGet, cmpB_iff]
theorem look_bucket {h l g : Nat} {k : Bs} {t : T} (hs : Srt t.toList) : look h k (.bucket g t) l = if g = h then getL t.toList k else Option.none := by
  rw [look_end rfl]; simp only [endGet, T.get_eq t k hs]
/-- All buckets are sorted and even. -/
inductive SB : N → Prop where
  | none : SB .none
  | leaf {h : Nat} {k x : Bs} : SB (.leaf h k x)
  | bucket {h : Nat} {t : T} (hs : Srt t.toList) (hb : t.Bal) : SB (.bucket h t)
  | branch {m : Nat} {kids : List N} (hk : ∀ i, i < 32 → m.testBit i = true → SB (kid (.branch m kids) ((i : Nat) : Int))) : SB (.branch m kids)
theorem SB.kid {m : Nat} {kids : List N} (h : SB (.branch m kids)) {c : Nat} (hc : c < 32) : SB (N.kid (.branch m kids) ((c : Nat) : Int)) := by
  cases h with
  | branch hk =>
    by_cases hb : m.testBit c = true
    · exact hk c hc hb
    · rw [kid_no hb]; exact .none
def W (l q : Nat) (n : N) : Prop := WF l q n ∧ SB n
theorem W.kid {l q m : Nat} {kids : List N} (h : W l q (.branch m kids)) {c : Nat} (hc : c < 32) : W (l + 1) (q + c * 32 ^ l) (N.kid (.branch m kids) ((c : Nat) : Int)) := ⟨h.1.kid hc, h.2.kid hc⟩
theorem W.none {l q : Nat} : W l q .none := ⟨.none, .none⟩
theorem mk_nil (m : Nat) : mk m [] = .none := by unfold mk; rw [if_pos (.inl rfl)]
/-- What Branch makes of a set and its nodes. -/
theorem mk_set {l q m : Nat} {F : Nat → N} (hl : l < 13) (hm : m < 2 ^ 32) (hF : ∀ i, i < 32 → m.testBit i = true → (F i).isN = false ∧ W (l + 1) (q + i * 32 ^ l) (F i)) :
    W l q (mk m ((bitsL m).map F)) ∧ ((mk m ((bitsL m).map F)).isN = true → bitsL m = []) ∧ ∀ h k, look h k (mk m ((bitsL m).map F)) l = if m.testBit (chunkN h l) = true then look h k (F (chunkN h l)) (l + 1) else Option.none := by
  by_cases h0 : bitsL m = []
  · rw [h0, List.map_nil, mk_nil]
    refine ⟨.none, fun _ => rfl, fun h k => ?_⟩
    rw [look_none, if_neg]
    intro hb
    have := mem_bitsL.2 ⟨chunkN_lt h l, hb⟩
    rw [h0] at this; cases this
  · have hpos : 0 < (bitsL m).length := List.length_pos_iff.2 h0
    have hno : ∀ n ∈ (bitsL m).map F, n.isN = false := fun n hn => by
      obtain ⟨i, hi, rfl⟩ := List.mem_map.1 hn
      have := mem_bitsL.1 hi
      exact (hF i this.1 this.2).1
    have hlen : ((bitsL m).map F).length = (bitsL m).length := List.length_map _
    rw [mk_yes (by omega) hlen hno]
    have hk : ∀ i, i < 32 → m.testBit i = true → kid (.branch m ((bitsL m).map F)) ((i : Nat) : Int) = F i := fun i hi hb => by rw [kid_map hi, if_pos hb]
    refine ⟨⟨.branch hl hm hlen (by omega) hno fun i hi hb => ?_, .branch fun i hi hb => ?_⟩, fun e => (nomatch e), fun h k => ?_⟩
    · rw [hk i hi hb]; exact (hF i hi hb).2.1
    · rw [hk i hi hb]; exact (hF i hi hb).2.2
    · rw [look_branch, kid_map (chunkN_lt h l)]
      split
      · rfl
      · rw [look_none]
theorem ofTree_w {l h : Nat} {t : T} (hh : h < 2 ^ 64) (hs : Sm t.toList) (hr : Srt t.toList) (hb : t.Bal) : W l (h % 32 ^ l) (ofTree h t) ∧ (t.size ≠ 0 → (ofTree h t).isN = false) ∧ ∀ h' k', look h' k' (ofTree h t) l = if h = h' then getL t.toList k' else Option.none := by
  by_cases h0 : t.size = 0
  · rw [T.size_zero h0]
    refine ⟨.none, fun e => absurd rfl e, fun h' k' => ?_⟩
    rw [show ofTree h T.nil = N.none from rfl, look_none]
    split <;> rfl
  · by_cases h1 : t.size = 1
    · obtain ⟨k, x, rfl⟩ := T.size_one h1
      have := hs (k, x) (.head _)
      refine ⟨⟨.leaf hh rfl this.1 this.2, .leaf⟩, fun _ => rfl, fun h' k' => ?_⟩
      rw [show ofTree h (T.node .nil k x .nil) = N.leaf h k x from rfl, look_leaf]
      show _ = if h = h' then getL [(k, x)] k' else Option.none
      rw [getL_cons, getL_nil]
      by_cases e : h = h'
      · simp [e, eq_comm]
      · simp [e]
    · rw [ofTree_big h0 h1]
      exact ⟨⟨.bucket hh rfl hs (by omega), .bucket hr hb⟩, fun _ => rfl, fun h' k' => look_bucket hr⟩
/-! ### What a call costs -/
end N
/-! ### The model: lists of pairs -/
end Go.Proofs.YtlnlodfnplkckaaDoor
/- Literals of bytes: the conversion of a row to its own type; two arrays alike. Each theorem's conditions stand in it. -/
namespace Go.Proofs.YtlnlodfnplkckaaDoor
set_option linter.unusedVariables false
section
variable {P : Program} {Q : Exit → Act → World → Prop} {K : Act → World → Prop} {f : Nat → Value} {n : Fr} {w w' : World}
  {d : Nat} {op : Op} {ty : TypeId} {pos : String} {af : Array Edge} {v : Value} {g : Option (Nat × Bool)}
  {w0 : World} {I0 I : GH} {X0 : List Nat} {X L : List Bx}
theorem freeze_at {b : Nat} {cs : Array Value} {T : TypeId} (h : w.heap[b]? = some (.cells cs T (0, 0))) : (w.freeze ⟨b, cs.size, none⟩ 1).heap[b]? = some (.cells cs T (cs.size, cs.size + 1)) := by
  unfold World.freeze
  rw [if_neg (by decide)]
  simp only [Array.getElem?_modify, if_true, h, Option.map_some]
  rfl
theorem freeze_other {b k : Nat} {m : Nat} (h : k ≠ b) : (w.freeze ⟨b, m, none⟩ 1).heap[k]? = w.heap[k]? := by
  unfold World.freeze
  rw [if_neg (by decide)]
  simp only [Array.getElem?_modify, if_neg (Ne.symm h)]
theorem freeze_size {a : Addr} {m : Nat} : (w.freeze a m).heap.size = w.heap.size := by
  unfold World.freeze
  split
  · rfl
  · simp
theorem freeze_rest {a : Addr} {m : Nat} : (w.freeze a m).os = w.os ∧ (w.freeze a m).tape = w.tape ∧ (w.freeze a m).output = w.output := by
  unfold World.freeze
  split <;> exact ⟨rfl, rfl, rfl⟩
theorem St.mark {b : Nat} {cs : Array Value} {T : TypeId} (h : St w0 I0 X0 I (⟨b, cs, T⟩ :: L) w) (hb : w0.heap.size ≤ b) :
    St w0 I0 X0 (I.add b (.cells cs T (cs.size, cs.size + 1))) L (w.freeze ⟨b, cs.size, none⟩ 1) ∧ I.le (I.add b (.cells cs T (cs.size, cs.size + 1))) := by
  have hn := (h.own _ (.head _)).1
  have hnd := List.nodup_cons.1 (show (b :: ids L).Nodup from h.nd)
  have hh := h.bx _ (.head _)
  have hne : ∀ y ∈ L, y.b ≠ b := fun y hy e => hnd.1 (List.mem_map.2 ⟨y, hy, e⟩)
  refine ⟨⟨⟨?_, ?_⟩, h.le.trans (GH.le_add _ hn), ?_, ⟨freeze_rest.1.trans h.fr.os, freeze_rest.2.1.trans h.fr.tape, freeze_rest.2.2.trans h.fr.output, by rw [freeze_size]; exact h.fr.size, ?_⟩, ?_, ?_, hnd.2⟩, GH.le_add _ hn⟩
  · intro k o hk
    by_cases e : k = b
    · subst e; rw [GH.add_same] at hk; rw [← hk]; exact freeze_at hh
    · rw [GH.add_other I _ e] at hk; rw [freeze_other e]; exact h.sat.blk k o hk
  · intro k o hk
    by_cases e : k = b
    · subst e; rw [GH.add_same] at hk; cases hk; rfl
    · rw [GH.add_other I _ e] at hk; exact h.sat.cel k o hk
  · intro k hk
    rw [GH.add_other I _ (by omega)]; exact h.old k hk
  · intro k hk hx
    rw [freeze_other (by omega)]; exact h.fr.block k hk hx
  · intro y hy
    rw [freeze_other (hne y hy)]; exact h.bx y (.tail _ hy)
  · intro y hy
    have hy' := h.own y (.tail _ hy)
    refine ⟨?_, hy'.2⟩
    rw [GH.add_other I _ (hne y hy)]; exact hy'.1
theorem run_mark {b : Nat} {cs : Array Value} {T : TypeId} (h : w.heap[b]? = some (.cells cs T (0, 0))) : (markStringish ⟨b, 0, none⟩).run P w = .ok () (w.freeze ⟨b, cs.size, none⟩ 1) := by
  have hsh : w.shape? b = some (T, cs.size) := by unfold World.shape?; rw [h]
  simp [markStringish, hsh]
/-- A row that was just made is converted to its own type: it is a literal, and never changes any more. -/
theorem ow_convlit {src e b len cap : Nat} {x : Operand} {cs : Array Value} {T : TypeId} (hs : St w0 I0 X0 I (⟨b, cs, T⟩ :: L) w) (hx : okO n x = true) (ht : byT P src e = true) (hv : ev f x = .slice (some ⟨b, 0, none⟩) len cap) (hb : w0.heap.size ≤ b) (hd : Nat.blt d n.k = true)
    (k : ∀ J w', J b = some (.cells cs T (cs.size, cs.size + 1)) → I.le J → St w0 I0 X0 J L w' → K (FA (upd f d (.slice (some ⟨b, 0, none⟩) len cap)) n) w') :
    OW P ⟨some d, .convert src src x, ty, pos, af, g⟩ f n w K Q := by
  refine ow_val (w' := w.freeze ⟨b, cs.size, none⟩ 1) (v := .slice (some ⟨b, 0, none⟩) len cap) ?_ hd (k _ _ (GH.add_same _ _ _) (hs.mark hb).2 (hs.mark hb).1)
  unfold byT at ht
  cases hu : P.underlying src with
  | none => simp [hu] at ht
  | some dd =>
    cases dd <;> simp [hu] at ht
    obtain ⟨h1, h2⟩ := ht
    rw [h1] at hu
    unfold intT at h2
    cases hue : P.underlying e with
    | none => simp [hue] at h2
    | some de =>
      cases de <;> simp [hue] at h2
      subst h2
      have hm := run_mark (P := P) (hs.bx _ (.head _))
      simp only [execOp, FA_eval hx, hv, Sem.run_bind, convert, run_underlying hu, run_underlying hue, Result.andThen_ok, beq_self_eq_true, hm, Sem.run_pure]
/-- Two arrays that are alike. -/
theorem r_eqA {t : TypeId} {yt : TypeId} {x y : Operand} {a : Array Value} (hx : okO n x = true) (hy : okO n y = true) (hk : P.keyTypeAt 3 t = true) (hwide : (match P.underlying t with | some (.array _ _) | some (.struct _) => true | _ => false) = true)
    (hg : P.eqGuardType P.depth t = false) (hl : (keyOf P t (.agg a)).isSome = true) (ha : ev f x = .agg a) (hb : ev f y = .agg a) :
    (execOp (FA f n).eval ⟨some d, .binOp .eql t x y yt, ty, pos, af, g⟩).run P w = .ok (.value (.bool true)) w := by
  obtain ⟨l, hl⟩ := Option.isSome_iff_exists.1 hl
  obtain ⟨r, h1, h2⟩ := run_equal_deep (P := P) w (m := 3) (by decide) hk hwide hl hl
  rw [h2.2 rfl] at h1
  simp [execOp, FA_eval hx, FA_eval hy, ha, hb, eqGuard, binOp, h1, hg]
end
end Go.Proofs.YtlnlodfnplkckaaDoor
/- The contract of awake: the example. -/
namespace Go.Proofs.YtlnlodfnplkckaaDoor
set_option linter.unusedVariables false
set_option linter.unusedSimpArgs false
def s1 : Nat → UInt8
  | 0 => 1
  | _ => 0
end Go.Proofs.YtlnlodfnplkckaaDoor
/- The law of the meters of tries: what a step keeps; the contract of the law. -/
namespace Go.Proofs.YtlnlodfnplkckaaDoor
set_option linter.unusedVariables false
set_option linter.unusedSimpArgs false
theorem mX_small {b v c : Nat} (hv : v ≤ 1000000000) (hc : c ≤ 1000000000) : mX (some b) v c = [⟨b, #[.int .i64 (v : Int), .int .i64 (c : Int)], 37⟩] := by
  show [(⟨b, #[.int .i64 (wz v), .int .i64 (wz c)], 37⟩ : Bx)] = _
  rw [wz_small hv, wz_small hc]
end Go.Proofs.YtlnlodfnplkckaaDoor
/- The closing of a row: behind a call that leaves all old blocks as they were, the arguments read as before. Each theorem's conditions stand in it. -/
namespace Go.Proofs.YtlnlodfnplkckaaDoor
open Go.ChangeShapes Go.WideShapes Go.ChangeAt Go.RowKit
theorem FrBut.kept {W W' : World} (h : FrBut [] W W') : W.keptBut W' (fun _ => False) := by
  refine ⟨h.os, h.output, fun i hi => ?_⟩
  rw [h.block i hi (fun x => by cases x)]
  cases W.heap[i]? with
  | none => rfl
  | some o => cases o <;> simp
theorem FrBut.frozen {W W' : World} (h : FrBut [] W W') (a : Addr) (ha : a.block < W.heap.size) : W'.frozen? a = W.frozen? a := by
  unfold World.frozen?
  rw [h.block a.block ha (fun x => by cases x)]
theorem post_of_old {H : Type} {enc : TypeId × Value → H} {P : Program} {f : Func} {s : ChangeSpec} {apart fresh handsOn again : Bool} {W W' : World} {args : Array Value} {v : Value} {ds gs : List (DataW H)} {before pa pv : List MemPlace}
    (hW : DataW.Whole enc P f.params.toList s.vars apart W args.toList ds gs before)
    (hres : ∀ (b : Nat) (sp : Nat → Bool) (hd : Bool), DataW.TrodAll enc P W' b sp hd f.resultTypes.toList (v.resultList f.resultTypes.size) (s.fn H (ds ++ gs)).results [])
    (hargs : ∀ sp : Nat → Bool, (∀ p ∈ before, sp p.block = true) → DataW.TrodAll enc P W' 0 sp true f.params.toList args.toList (s.fn H (ds ++ gs)).args pa)
    (hvars : ∀ sp : Nat → Bool, (∀ p ∈ before, sp p.block = true) → DataW.TrodVars enc P W' sp s.vars (s.fn H (ds ++ gs)).vars pv)
    (hps : before = pa ++ pv) (hk : W.keptBut W' (· ∈ before)) (hfz : ∀ a : Addr, a.block < W.heap.size → W'.frozen? a = W.frozen? a)
    (hok : ∀ (j : Nat) (t : TypeId) (r : Value), f.resultTypes[j]? = some t → (v.resultList f.resultTypes.size)[j]? = some r → Value.okWide P W' .any 0 t r) :
    s.post enc P f apart fresh handsOn again W args v W' := by
  have hold : ∀ p ∈ before, (fun b => decide (b < W.heap.size)) p.block = true := fun p hp => by simpa using hW.lt p hp
  have hlt := hW.lt
  refine ⟨ds, gs, before, [], pa, pv, hW, hres _ _ _, hargs _ hold, hvars _ hold, World.keptBut_mono (fun p hp => ⟨hp, ?_⟩) hk, fun _ => ?_⟩
  · rw [hps, List.mem_append] at hp
    exact Or.inr hp
  · obtain ⟨_, _, _, _, _, hz, hn⟩ := hW
    refine ⟨hok, _, _, ([] ++ pa) ++ pv, ⟨[] ++ pa, pv, trodAll_append (hargs _ (fun _ _ => rfl)) (hres _ _ _), hvars _ (fun _ _ => rfl), rfl, ?_, ?_⟩, ?_⟩
    · intro b off hp
      have hm : MemPlace.cell b off ∈ before := by rw [hps]; simpa using hp
      rw [hfz ⟨b, off, none⟩ (hlt _ hm)]
      exact hz b off hm
    · intro ha
      have := hn ha
      rw [hps] at this
      simpa using this
    · intro p hp _
      rw [hps]
      simpa using hp
end Go.Proofs.YtlnlodfnplkckaaDoor
/- The closing of a row: the arguments and the laid variables, read into the ghost heap; the arguments read the same behind the call. Each theorem's conditions stand in it. -/
namespace Go.Proofs.YtlnlodfnplkckaaDoor
open Go.ChangeShapes Go.WideShapes Go.ChangeAt Go.RowKit
set_option linter.unusedVariables false
/-! ### The heap as the call finds it -/
def ghostOf (W : World) : GH := fun b => match W.heap[b]? with
  | some (.cells cs T fz) => some (.cells cs T fz)
  | _ => none
theorem ghostOf_at {W : World} {b : Nat} {cs : Array Value} {T : TypeId} {fz : Nat × Nat} (h : W.heap[b]? = some (.cells cs T fz)) : ghostOf W b = some (.cells cs T fz) := by
  unfold ghostOf; rw [h]
theorem ghostOf_sat (W : World) : Sat (ghostOf W) W := by
  constructor
  · intro b o h
    unfold ghostOf at h
    split at h
    · rename_i cs T fz he; rw [he]; exact h
    · cases h
  · intro b o h
    unfold ghostOf at h
    split at h
    · cases h; rfl
    · cases h
/-- A contract of a function, at the call's own world. -/
theorem Fn.call {P : Program} {f : FuncId} {args : Array Value} {W : World} {R : Value → GH → List Bx → Prop} (h : Fn P f args (ghostOf W) [] R) :
    Calls P f args W fun e w' => ∃ v J X', e = .returned v ∧ FrBut [] W w' ∧ R v J X' :=
  (h W (ghostOf_sat W) (fun x hx => (nomatch hx)) (fun x hx => (nomatch hx)) List.nodup_nil).mono fun _ _ ⟨v, J, X', h1, _, _, _, h5, _, _, h8⟩ => ⟨v, J, X', h1, h5, h8⟩
/-! ### The arguments behind the call -/
section
variable {H : Type} {enc : TypeId × Value → H} {P : Program} {W W' : World}
theorem FrBut.same (h : FrBut [] W W') {p : MemPlace} (hp : p.block < W.heap.size) : W.sameAt W' p := by
  have hb := h.block p.block hp (fun x => by cases x)
  cases p with
  | cell b off =>
    show W'.cell? ⟨b, off, none⟩ = W.cell? ⟨b, off, none⟩
    unfold World.cell?
    rw [show W'.heap[b]? = W.heap[b]? from hb]
  | map b => exact hb
theorem trodAll_old (h : FrBut [] W W') {base : Nat} {sp : Nat → Bool} {held : Bool} : ∀ {ts : List TypeId} {vs : List Value} {ds : List (DataW H)} {ps : List MemPlace}, (∀ p ∈ ps, p.block < W.heap.size) → DataW.TrodAll enc P W base sp held ts vs ds ps → DataW.TrodAll enc P W' base sp held ts vs ds ps
  | [], [], [], _, _, h1 => h1
  | _ :: _, _ :: _, _ :: _, _, hlt, ⟨p, q, ⟨n, h1⟩, h2, e⟩ =>
    ⟨p, q, ⟨n, DataW.trod_carry n _ _ _ h1 fun x hx => h.same (hlt x (by rw [e]; exact List.mem_append_left _ hx))⟩, trodAll_old h (fun x hx => hlt x (by rw [e]; exact List.mem_append_right _ hx)) h2, e⟩
theorem args_old (hl : laidOutB P = true) (hm : mapsRowed P = true) (hz : ((List.range P.types.size).all fun t => match P.underlying t with | some (.slice e) => decide (0 < P.cellsOf e) | _ => true) = true)
    {ts : List TypeId} (hts : ∀ t ∈ ts, t < P.types.size) (h : FrBut [] W W') {base : Nat} {vs : List Value} {ds : List (DataW H)} {ps : List MemPlace} (hA : DataW.TrodAll enc P W base (fun _ => true) true ts vs ds ps) :
    ∀ sp : Nat → Bool, (∀ p ∈ ps, sp p.block = true) → DataW.TrodAll enc P W' base sp true ts vs ds ps := fun sp hs =>
  trodAll_old h (DataW.TrodAll.lt hA) (DataW.TrodAll.respare (kids_rows hl hm) (slices_full_of P hz) hts hA hs)
/-! ### Rows of cells -/
variable {base : Nat} {sp : Nat → Bool} {held : Bool}
theorem row_at {a : Addr} {n : Nat} {V : Nat → Value} (hn : 0 < n) (h : ∀ i, i < n → W.cell? (a.add i) = some (V i)) :
    ∃ b off C T fz, a = ⟨b, off, none⟩ ∧ W.heap[b]? = some (.cells C T fz) ∧ (C.toList.drop off).take n = (List.range n).map V := by
  have h0 := h 0 hn
  have ha : a.add 0 = a := if_pos rfl
  rw [ha] at h0
  unfold World.cell? at h0
  split at h0
  · rename_i C T fz hb
    have hs : a.spot = none := by
      cases hs : a.spot with
      | none => rfl
      | some s => rw [hs] at h0; cases h0
    obtain ⟨b, off, sp⟩ := a
    simp only at hs
    subst hs
    have hi : ∀ i, i < n → C[off + i]? = some (V i) := fun i hi => by
      have h1 := h i hi
      have e : (⟨b, off, none⟩ : Addr).add i = ⟨b, off + i, none⟩ := by unfold Addr.add; split <;> simp_all
      rw [e] at h1
      unfold World.cell? at h1
      rw [show W.heap[b]? = some (.cells C T fz) from hb] at h1
      simpa using h1
    refine ⟨b, off, C, T, fz, rfl, hb, ?_⟩
    apply List.ext_getElem?
    intro i
    rw [List.getElem?_take, List.getElem?_map]
    by_cases h' : i < n
    · rw [if_pos h', List.getElem?_drop, Array.getElem?_toList, hi i h', List.getElem?_range h']; rfl
    · rw [if_neg h', List.getElem?_eq_none (by simpa using h')]; rfl
  · cases h0
theorem add_add (a : Addr) (m n : Nat) : (a.add m).add n = a.add (m + n) := by
  unfold Addr.add
  by_cases hm : m = 0
  · subst hm; simp
  · by_cases hn : n = 0
    · subst hn; simp [hm]
    · simp [hm, hn, Nat.add_assoc]
theorem bV_of {z : Int} (h : (Lit.int .u8 z).wf = true) : bV (UInt8.ofNat z.toNat) = .int .u8 z := by
  have := bounds_u8 h
  have e : (UInt8.ofNat z.toNat).toNat = z.toNat := by simp only [UInt8.toNat_ofNat']; omega
  unfold bV
  rw [e]
  congr 1
  omega
theorem bytes_trod {t e : TypeId} {fuel : Nat} {cs : List Value} {x : DataW H × List MemPlace} (ht : P.underlying t = some (.slice e)) (he : P.underlying e = some (.int .u8)) (hc : P.cellsOf e = 1) (h : DataW.trod enc P W base sp held fuel t cs = some x) :
    ∃ v k, cs = [v] ∧ BytesAt (ghostOf W) v k := by
  rcases open_ints ht he hc h with ⟨rfl, _⟩ | ⟨a, len, cap, zs, rfl, _, hlc, _, hz, _, hcell, hwf⟩
  · exact ⟨_, [], rfl, BytesAt.nil _⟩
  · have hlen : len ≤ zs.length := by rw [hz]; split <;> omega
    refine ⟨_, (List.range len).map fun i => UInt8.ofNat (zs.getD i 0).toNat, rfl, ?_⟩
    have hv : ∀ i, i < len → bV (UInt8.ofNat (zs.getD i 0).toNat) = .int .u8 (zs.getD i 0) := fun i hi => bV_of (hwf _ (by rw [List.getD_eq_getElem?_getD, List.getElem?_eq_getElem (by omega)]; exact List.getElem_mem _))
    have hm : ((List.range len).map fun i => UInt8.ofNat (zs.getD i 0).toNat).map bV = (List.range len).map fun i => Value.int .u8 (zs.getD i 0) := by
      rw [List.map_map]
      exact List.map_congr_left fun i hi => hv i (List.mem_range.1 hi)
    unfold BytesAt
    rw [hm, List.length_map, List.length_range]
    refine ⟨some a, cap, rfl, hlc, (fun h => nomatch h), by simp, fun hne => ?_⟩
    have hpos : 0 < len := Nat.pos_of_ne_zero fun e => hne (by rw [e]; rfl)
    obtain ⟨b, off, C, T, fz, rfl, hb, hr⟩ := row_at (V := fun i => Value.int .u8 (zs.getD i 0)) hpos fun i hi => hcell i (by omega)
    exact ⟨b, off, C, T, fz, rfl, ghostOf_at hb, by rw [Nat.mul_one]; exact hr⟩
theorem lits_trod {t e : TypeId} {k : IntKind} {fuel : Nat} {cs : List Value} {ns : List Int} {p : List MemPlace} (ht : P.underlying t = some (.array ns.length e)) (he : P.underlying e = some (.int k)) (hc : P.cellsOf e = 1) (hct : P.cellsOf t = ns.length)
    (h : DataW.trod enc P W base sp held fuel t cs = some (.agg (ns.map fun n => .lit (.int k n)), p)) : cs = ns.map fun n => .int k n := by
  obtain ⟨xs, m, _, hxe, hl, hx, hel⟩ := DataW.trod_array ht h
  have hxs : xs.map (·.1) = ns.map fun n => (.lit (.int k n) : DataW H) := by
    have := congrArg Prod.fst hxe
    simpa using this.symm
  apply List.ext_getElem?
  intro i
  by_cases hi : i < ns.length
  · have g := hel i hi
    rw [hc, Nat.mul_one, List.getElem?_eq_getElem (by omega)] at g
    obtain ⟨z, e1, e3, hw⟩ := DataW.trod_int he g
    have e2 : cs[i]? = some (.int k z) := by
      have := congrArg (fun l => l[0]?) e1
      simpa [List.getElem?_take, List.getElem?_drop] using this
    have e4 := congrArg (fun l => l[i]?) hxs
    simp only [List.getElem?_map] at e4
    rw [List.getElem?_eq_getElem (show i < xs.length by omega), List.getElem?_eq_getElem hi] at e4
    simp only [Option.map_some, Option.some.injEq] at e4
    rw [e3] at e4
    simp only [DataW.lit.injEq, Lit.int.injEq, true_and] at e4
    rw [e2, List.getElem?_map, List.getElem?_eq_getElem hi, e4]; rfl
  · rw [List.getElem?_eq_none (by rw [hl, hct]; omega), List.getElem?_eq_none (by simpa using hi)]
end
end Go.Proofs.YtlnlodfnplkckaaDoor
/- Calls whose contract says the world exactly. Each theorem's conditions stand in it. -/
namespace Go.Proofs.YtlnlodfnplkckaaDoor
set_option linter.unusedVariables false
section
variable {P : Program} {Q : Exit → Act → World → Prop} {K : Act → World → Prop} {f : Nat → Value} {n : Fr} {w w' : World}
  {d : Nat} {ty : TypeId} {pos : String} {af : Array Edge} {v : Value} {g : Option (Nat × Bool)}
/-- A call, by a contract of any kind. -/
theorem ow_callC {gf : FuncId} {x : Operand} {args : Array Operand} {ats : Array TypeId} {lb vl : List Value} {R : Ending → World → Prop}
    (hc : Calls P gf vl.toArray w R) (hg : isGo P gf = true) (hx : okO n x = true) (hxv : ev f x = .func (.func gf) #[] lb.toArray) (ha : args.toList.all (okO n) = true)
    (hav : args.toList.map (ev f) ++ lb = vl) (hd : Nat.blt d n.k = true)
    (k : ∀ e w', R e w' → ∃ v, e = .returned v ∧ K (FA (upd f d v) n) w') :
    OW P ⟨some d, .call ⟨.value x, args, ats⟩, ty, pos, af, g⟩ f n w K Q := by
  have hmap : args.map (FA f n).eval = (args.toList.map (ev f)).toArray := by
    apply Array.toList_inj.1
    rw [Array.toList_map]
    simp only
    refine List.map_congr_left fun a ha' => FA_eval ?_
    exact (List.all_eq_true.1 ha) a ha'
  have hr : (execOp (FA f n).eval ⟨some d, .call ⟨.value x, args, ats⟩, ty, pos, af, g⟩).run P w = .ok (.enter gf vl.toArray) w := by
    simp only [execOp, resolve, Sem.run_bind, FA_eval hx, hxv, hmap, Deferred.ofValue]
    simp only [Sem.run_pure, Result.andThen_ok, invoke]
    rw [run_callFunc hg]
    congr 2
    rw [← hav]; simp
  constructor
  unfold Oper.wp
  rw [hr, Oper.upon_enter]
  refine hc.mono ?_
  intro e w' hR
  obtain ⟨v, rfl, hk⟩ := k e w' hR
  show K ((FA f n).put (some d) v) w'
  rw [FA_put hd]
  exact hk
/-- The body of a function, by a contract of any kind. -/
theorem enterC {gf : FuncId} {fn : Func} {c : Code} {args : List Value} {R : Ending → World → Prop} (hf : P.funcs[gf]? = some fn) (hb : fn.body = some c) (hn : Nat.ble args.length fn.ntmps = true)
    (h : c.wp P (bodyPost P fn R) (FA (initF args) ⟨fn.ntmps, []⟩) w) : Calls P gf args.toArray w R := by
  refine calls_of_wp hf hb ?_
  rw [← init_FA args fn.ntmps (Nat.le_of_ble_eq_true hn)] at h
  exact h
theorem leaveC {fn : Func} {R : Ending → World → Prop} (hr : (results fn (FA f n).tmps).run P w = .ok v w) (hR : R (.returned v) w) (hn : n.ds = [] := by rfl) : bodyPost P fn R .ret (FA f n) w := ⟨hn, v, hr, hR⟩
end
end Go.Proofs.YtlnlodfnplkckaaDoor
/- Maps of strings to numbers, as blocks of our own: what is looked up, what is set. Each theorem's conditions stand in it. -/
namespace Go.Proofs.YtlnlodfnplkckaaDoor
set_option linter.unusedVariables false
/-! ### What a map holds -/
def mGet (M : List (Bs × Nat)) (k : Bs) : Nat := ((M.find? fun p => decide (p.1 = k)).map (·.2)).getD 0
def mSet : List (Bs × Nat) → Bs → Nat → List (Bs × Nat)
  | [], k, c => [(k, c)]
  | p :: M, k, c => if p.1 = k then (k, c) :: M else p :: mSet M k c
theorem mGet_cons (p : Bs × Nat) (M : List (Bs × Nat)) (k : Bs) : mGet (p :: M) k = if p.1 = k then p.2 else mGet M k := by
  unfold mGet
  by_cases h : p.1 = k
  · rw [List.find?_cons_of_pos (by simpa using h), if_pos h]; rfl
  · rw [List.find?_cons_of_neg (by simpa using h), if_neg h]
theorem mGet_set : ∀ (M : List (Bs × Nat)) (k : Bs) (c : Nat) (k' : Bs), mGet (mSet M k c) k' = if k' = k then c else mGet M k'
  | [], k, c, k' => by
    simp only [mSet]
    rw [mGet_cons]
    by_cases e : k' = k
    · rw [if_pos e.symm, if_pos e]
    · rw [if_neg (Ne.symm e), if_neg e]
  | p :: M, k, c, k' => by
    simp only [mSet]
    rw [mGet_cons p]
    by_cases hp : p.1 = k
    · rw [if_pos hp, mGet_cons]
      by_cases e : k' = k
      · rw [if_pos e.symm, if_pos e]
      · rw [if_neg (Ne.symm e), if_neg e, if_neg (fun z => e (by rw [← z, hp]))]
    · rw [if_neg hp, mGet_cons, mGet_set M k c k']
      by_cases e : k' = k
      · rw [if_neg (fun z => hp (by rw [z, e])), if_pos e, if_pos e]
      · rw [if_neg e, if_neg e]
theorem mSet_new : ∀ {M : List (Bs × Nat)} {k : Bs} (c : Nat), ¬ M.any (fun p => decide (p.1 = k)) = true → mSet M k c = M ++ [(k, c)]
  | [], _, _, _ => rfl
  | p :: M, k, c, h => by
    rw [List.any_cons, Bool.or_eq_true, not_or] at h
    simp only [mSet]
    rw [if_neg (by simpa using h.1), mSet_new c h.2, List.cons_append]
theorem mGet_new {M : List (Bs × Nat)} {k : Bs} (h : ¬ M.any (fun p => decide (p.1 = k)) = true) : mGet M k = 0 := by
  unfold mGet
  have : M.find? (fun p => decide (p.1 = k)) = none := by
    rw [List.find?_eq_none]
    intro p hp z
    exact h (List.any_eq_true.2 ⟨p, hp, z⟩)
  rw [this]; rfl
/-- The entries of a map. -/
def EntOf (e : MapEntry) (p : Bs × Nat) : Prop := e.key = .string ⟨p.1.toArray⟩ ∧ e.val = .int .i64 ((p.2 : Nat) : Int)
def EntsOf : List MapEntry → List (Bs × Nat) → Prop
  | [], [] => True
  | e :: es, p :: M => EntOf e p ∧ EntsOf es M
  | _, _ => False
theorem EntsOf.append {e : MapEntry} {p : Bs × Nat} (h : EntOf e p) : ∀ {es : List MapEntry} {M : List (Bs × Nat)}, EntsOf es M → EntsOf (es ++ [e]) (M ++ [p])
  | [], [], _ => ⟨h, trivial⟩
  | _ :: _, _ :: _, ⟨h1, h2⟩ => ⟨h1, EntsOf.append h h2⟩
  | [], _ :: _, h => h.elim
  | _ :: _, [], h => h.elim
theorem beq_bs (a b : Bs) : ((⟨a.toArray⟩ : ByteArray) == ⟨b.toArray⟩) = decide (a = b) := by
  have h : ((⟨a.toArray⟩ : ByteArray) == ⟨b.toArray⟩) = (a.toArray == b.toArray) := rfl
  rw [h, Bool.eq_iff_iff]; simp
/-- Where a key is looked up. -/
theorem findNow_none {k : Bs} : ∀ {es : List MapEntry} {M : List (Bs × Nat)} {i : Nat}, EntsOf es M → ¬ M.any (fun p => decide (p.1 = k)) = true → Instr.findNow .string (.string ⟨k.toArray⟩) es i = some none
  | [], [], _, _, _ => rfl
  | e :: es, p :: M, i, ⟨h1, h2⟩, hn => by
    rw [List.any_cons, Bool.or_eq_true, not_or] at hn
    have hp : ¬ p.1 = k := by simpa using hn.1
    have hs : Instr.sameNow .string (.string ⟨k.toArray⟩) e.key = some false := by
      rw [h1.1]
      show some ((⟨k.toArray⟩ : ByteArray) == ⟨p.1.toArray⟩) = some false
      rw [beq_bs, decide_eq_false (fun z => hp z.symm)]
    simp only [Instr.findNow, hs]
    exact findNow_none h2 hn.2
  | [], _ :: _, _, h, _ => h.elim
  | _ :: _, [], _, h, _ => h.elim
theorem findNow_some {k : Bs} : ∀ {es : List MapEntry} {M : List (Bs × Nat)} {i : Nat}, EntsOf es M → M.any (fun p => decide (p.1 = k)) = true →
    ∃ j, j < es.length ∧ Instr.findNow .string (.string ⟨k.toArray⟩) es i = some (some (i + j, .int .i64 ((mGet M k : Nat) : Int))) ∧ (∃ e, es[j]? = some e ∧ e.key = .string ⟨k.toArray⟩) ∧
      ∀ c : Nat, EntsOf (es.modify j fun e => { e with key := .string ⟨k.toArray⟩, val := .int .i64 ((c : Nat) : Int) }) (mSet M k c)
  | [], [], _, _, h => by cases h
  | e :: es, p :: M, i, ⟨h1, h2⟩, hn => by
    by_cases hp : p.1 = k
    · have hs : Instr.sameNow .string (.string ⟨k.toArray⟩) e.key = some true := by
        rw [h1.1, hp]
        show some ((⟨k.toArray⟩ : ByteArray) == ⟨k.toArray⟩) = some true
        rw [beq_bs, decide_eq_true rfl]
      refine ⟨0, Nat.zero_lt_succ _, ?_, ⟨e, rfl, by rw [h1.1, hp]⟩, fun c => ?_⟩
      rotate_left
      · simp only [mSet, if_pos hp, List.modify_zero_cons]
        exact ⟨⟨rfl, rfl⟩, h2⟩
      simp only [Instr.findNow, hs]
      rw [h1.2, mGet_cons, if_pos hp]
      rfl
    · rw [List.any_cons, Bool.or_eq_true] at hn
      have hs : Instr.sameNow .string (.string ⟨k.toArray⟩) e.key = some false := by
        rw [h1.1]
        show some ((⟨k.toArray⟩ : ByteArray) == ⟨p.1.toArray⟩) = some false
        rw [beq_bs, decide_eq_false (fun z => hp z.symm)]
      obtain ⟨j, hj, hf, he, hm⟩ := findNow_some (i := i + 1) h2 (hn.resolve_left (by simpa using hp))
      refine ⟨j + 1, by simpa using hj, ?_, he, fun c => ?_⟩
      rotate_left
      · simp only [mSet, if_neg hp, List.modify_succ_cons]
        exact ⟨h1, hm c⟩
      simp only [Instr.findNow, hs]
      rw [hf, mGet_cons, if_neg hp, show i + 1 + j = i + (j + 1) by omega]
  | [], _ :: _, _, h, _ => h.elim
  | _ :: _, [], _, h, _ => h.elim
/-! ### The operations -/
def MapIs (w : World) (bm : Nat) (M : List (Bs × Nat)) : Prop := ∃ es clock, w.heap[bm]? = some (.map es clock) ∧ EntsOf es.toList M
section
variable {P : Program} {Q : Exit → Act → World → Prop} {K : Act → World → Prop} {f : Nat → Value} {n : Fr} {w w' : World}
  {d : Nat} {ty : TypeId} {pos : String} {af : Array Edge} {v : Value} {g : Option (Nat × Bool)}
  {w0 : World} {I0 I : GH} {X0 : List Nat} {X L : List Bx} {t kt et : TypeId} {x y z : Operand} {bm : Nat} {M : List (Bs × Nat)} {k : Bs}
theorem run_getM {es : Array MapEntry} {clock : Nat} (hb : w.heap[bm]? = some (.map es clock)) : (getObj bm).run P w = .ok (.map es clock) w := by
  simp [getObj, Sem.run, hb]
theorem run_setM {es : Array MapEntry} {clock : Nat} (o : Obj) (hb : w.heap[bm]? = some (.map es clock)) : (setObj bm o).run P w = .ok () { w with heap := w.heap.setIfInBounds bm o } := by
  simp [setObj, Sem.run, hb]
theorem key_ok {s : ByteArray} (e : Bool) (hk : P.underlying kt = some .string) : (Instr.checkKey e 10000 kt (.string s)).run P w = .ok () w := by
  have : ∀ m, (Instr.checkKey e (m + 1) kt (.string s)).run P w = .ok () w := fun m => by
    unfold Instr.checkKey
    simp [run_underlying hk]
  exact this 9999
theorem r_lookupS (hx : okO n x = true) (hy : okO n y = true) (hu : P.underlying t = some (.map kt et)) (hk : P.underlying kt = some .string) (hz : (P.info? et).bind (·.zero) = some (.int .i64 0))
    (ha : ev f x = .map (some bm)) (hb : ev f y = .string ⟨k.toArray⟩) (hm : MapIs w bm M) :
    (execOp (FA f n).eval ⟨some d, .lookup t x y false, ty, pos, af, g⟩).run P w = .ok (.value (.int .i64 ((mGet M k : Nat) : Int))) w := by
  obtain ⟨es, clock, hh, he⟩ := hm
  by_cases hM : M.any (fun p => decide (p.1 = k)) = true
  · obtain ⟨j, _, hf, _, _⟩ := findNow_some (i := 0) he hM
    simp [execOp, FA_eval hx, FA_eval hy, ha, hb, Instr.lookup, run_underlying hu, run_getM hh, key_ok _ hk, Instr.findKey, run_underlying hk, hf]
  · have hf := findNow_none (i := 0) he hM
    simp [execOp, FA_eval hx, FA_eval hy, ha, hb, Instr.lookup, run_underlying hu, run_getM hh, key_ok _ hk, Instr.findKey, run_underlying hk, hf, run_zero hz, mGet_new hM]
theorem St.growMap (h : St w0 I0 X0 I L w) (es : Array MapEntry) (clock : Nat) : St w0 I0 X0 I L (w.alloc (.map es clock)) :=
  ⟨⟨fun b o hb => heap_push (h.sat.blk b o hb), h.sat.cel⟩, h.le, h.old, h.fr.trans (.alloc _ _ _), fun x hx => heap_push (h.bx x hx), h.own, h.nd⟩
/-- A map is set: all else is as it was. -/
theorem St.setMap {es es' : Array MapEntry} {clock clock' : Nat} (h : St w0 I0 X0 I L w) (hm : w.heap[bm]? = some (.map es clock)) (hb : w0.heap.size ≤ bm) :
    St w0 I0 X0 I L { w with heap := w.heap.setIfInBounds bm (.map es' clock') } := by
  have hne : ∀ {k : Nat} {o : Obj}, w.heap[k]? = some o → o.isCells = true → k ≠ bm := fun hk ho e => by
    subst e; rw [hm] at hk; cases hk; cases ho
  have hat : ∀ {k : Nat}, k ≠ bm → (w.heap.setIfInBounds bm (.map es' clock'))[k]? = w.heap[k]? := fun hk => by
    rw [Array.getElem?_setIfInBounds_ne (Ne.symm hk)]
  refine ⟨⟨fun b o hb => ?_, h.sat.cel⟩, h.le, h.old, ⟨h.fr.os, h.fr.tape, h.fr.output, by simpa using h.fr.size, fun k hk hx => ?_⟩, fun x hx => ?_, h.own, h.nd⟩
  · have := h.sat.blk b o hb
    exact (hat (hne this (h.sat.cel b o hb))).trans this
  · exact (hat (by omega)).trans (h.fr.block k hk hx)
  · have := h.bx x hx
    exact (hat (hne this rfl)).trans this
theorem ow_makeMapS (hs : St w0 I0 X0 I L w) (hd : Nat.blt d n.k = true)
    (k : ∀ b w', MapIs w' b [] → St w0 I0 X0 I L w' → w0.heap.size ≤ b → K (FA (upd f d (.map (some b))) n) w') : OW P ⟨some d, .makeMap t none, ty, pos, af, g⟩ f n w K Q := by
  refine ow_val (w' := w.alloc (.map #[] 0)) (v := .map (some w.heap.size)) ?_ hd (k _ _ ⟨#[], 0, heap_push_new, trivial⟩ (hs.growMap _ _) hs.fr.size)
  simp [execOp, Instr.makeMap]
theorem ow_mapSetS {c : Nat} (hs : St w0 I0 X0 I L w) (hx : okO n x = true) (hy : okO n y = true) (hz : okO n z = true) (hu : P.underlying t = some (.map kt et)) (hk : P.underlying kt = some .string)
    (ha : ev f x = .map (some bm)) (hb : ev f y = .string ⟨k.toArray⟩) (hc : ev f z = .int .i64 ((c : Nat) : Int)) (hm : MapIs w bm M) (hw : w0.heap.size ≤ bm)
    (kk : ∀ w', MapIs w' bm (mSet M k c) → St w0 I0 X0 I L w' → K (FA f n) w') : OW P ⟨none, .mapUpdate t x y z, ty, pos, af, g⟩ f n w K Q := by
  obtain ⟨es, clock, hh, he⟩ := hm
  have hlt := lt_of_heap hh
  by_cases hM : M.any (fun p => decide (p.1 = k)) = true
  · obtain ⟨j, hj, hf, ⟨e, he1, he2⟩, hmod⟩ := findNow_some (i := 0) he hM
    have hbits : Instr.sameBits 10000 (.string ⟨k.toArray⟩) (.string ⟨k.toArray⟩) = true := by
      show ((⟨k.toArray⟩ : ByteArray) == ⟨k.toArray⟩) = true
      rw [beq_bs, decide_eq_true rfl]
    have hej : es[j]? = some e := by rw [← Array.getElem?_toList]; exact he1
    have hr : (execOp (FA f n).eval ⟨none, .mapUpdate t x y z, ty, pos, af, g⟩).run P w = .ok .skip { w with heap := w.heap.setIfInBounds bm (.map (es.modify j fun e => { e with key := .string ⟨k.toArray⟩, val := .int .i64 ((c : Nat) : Int) }) clock) } := by
      simp [execOp, FA_eval hx, FA_eval hy, FA_eval hz, ha, hb, hc, Instr.mapUpdate, run_underlying hu, run_getM hh, key_ok _ hk, Instr.findKey, run_underlying hk, hf, hej, he2, Instr.keyThatStays, hbits, run_setM _ hh]
    constructor
    unfold Oper.wp
    rw [hr, Oper.upon_skip]
    exact kk _ ⟨_, _, Array.getElem?_setIfInBounds_self_of_lt hlt, by rw [Array.toList_modify]; exact hmod c⟩ (hs.setMap hh hw)
  · have hf := findNow_none (i := 0) he hM
    have hr : (execOp (FA f n).eval ⟨none, .mapUpdate t x y z, ty, pos, af, g⟩).run P w = .ok .skip { w with heap := w.heap.setIfInBounds bm (.map (es.push { key := .string ⟨k.toArray⟩, val := .int .i64 ((c : Nat) : Int), born := clock }) (clock + 1)) } := by
      simp [execOp, FA_eval hx, FA_eval hy, FA_eval hz, ha, hb, hc, Instr.mapUpdate, run_underlying hu, run_getM hh, key_ok _ hk, Instr.findKey, run_underlying hk, hf, run_setM _ hh]
    constructor
    unfold Oper.wp
    rw [hr, Oper.upon_skip]
    refine kk _ ⟨_, _, Array.getElem?_setIfInBounds_self_of_lt hlt, ?_⟩ (hs.setMap hh hw)
    rw [Array.toList_push, mSet_new c hM]
    exact he.append ⟨rfl, rfl⟩
end
end Go.Proofs.YtlnlodfnplkckaaDoor
/- Leaving a function that holds a range over a function ahead of it. Its conditions stand in it. -/
namespace Go.Proofs.YtlnlodfnplkckaaDoor
set_option linter.unusedVariables false
theorem leaveM0 {P : Program} {fn : Func} {w0 w : World} {I0 I : GH} {X X' L : List Bx} {R : Value → GH → List Bx → Prop} {f : Nat → Value} {n : Fr} {e : Exit} {v : Value}
    (hs : St w0 I0 (ids X) I (X' ++ L) w) (hid : ids X' = ids X) (hr : (results fn (FA f n).tmps).run P w = .ok v w) (hR : R v I X') (he : e = .ret ∨ e = .normal) (hn : n.ds = [] := by rfl) :
    bodyPostM Fence.wide 0 P fn (FnPost w0 I0 X R) e (FA f n) w := by
  have key : LeavesInM Fence.wide 0 P fn (FA f n).tmps (FnPost w0 I0 X R) (FA f n).defers .returning w := by
    rw [show (FA f n).defers = [] from hn]
    exact ⟨v, hr, v, I, X', rfl, hs.sat, hs.le, hs.old, hs.fr, fun x hx => hs.bx x (List.mem_append_left _ hx), hid, hR⟩
  rcases he with rfl | rfl <;> exact key
/-- A post that no panic meets. -/
def noPan (Q : Exit → Act → World → Prop) : Exit → Act → World → Prop
  | .panic _, _, _ => False
  | e, a, w => Q e a w
theorem enterMC {P : Program} {f : FuncId} {fn : Func} {c : Code} {args : List Value} {I : GH} {X : List Bx} {R : Value → GH → List Bx → Prop}
    (hf : P.funcs[f]? = some fn) (hb : fn.body = some c) (hn : Nat.ble args.length fn.ntmps = true)
    (h : ∀ w, St w I (ids X) I X w → c.wp P (noPan (bodyPostM Fence.wide 0 P fn (FnPost w I X R))) (FA (initF args) ⟨fn.ntmps, []⟩) w) : Fn P f args.toArray I X R :=
  enterM hf hb hn fun w hs => Code.wp_mono (fun e a w h => by cases e <;> first | exact h | exact h.elim) (h w hs)
end Go.Proofs.YtlnlodfnplkckaaDoor
/- The closures that sorts call, by contracts that say the world exactly. Each theorem's conditions stand in it. -/
namespace Go.Proofs.YtlnlodfnplkckaaDoor
set_option linter.unusedVariables false
set_option maxRecDepth 100000 in
theorem bcmp_ex {I : GH} {W : World} {u v : Value} {k m : Bs} (hk : BytesAt I u k) (hm : BytesAt I v m) (hw : ∀ b o, I b = some o → W.heap[b]? = some o) :
    Calls Tryd.prog 90 #[u, v] W fun e w' => e = .returned (.int .i64 (cmpB k m)) ∧ w' = W := by
  refine enterC (args := [u, v]) Tryd.func90 rfl rfl ?_
  refine wp_seq_k fun K1 hK2 => ?_
  refine wl_begin ?_
  refine sq (r_assign rfl) rfl ?_
  refine wl_nil ?_
  refine hK2 _ _ ?_; clear hK2 K1
  refine wp_seq_k fun K3 hK4 => ?_
  refine wl_begin ?_
  refine sq (r_move rfl) rfl ?_
  refine sq (r_move rfl) rfl ?_
  refine sq (r_cmp rfl rfl rfl rfl hk hm hw) rfl ?_
  refine sq (r_assign rfl) rfl ?_
  refine wl_nil ?_
  refine hK4 _ _ ?_; clear hK4 K3
  refine wp_ret ?_
  exact leaveC (res_one (v := .int .i64 (cmpB k m)) rfl (.tmp rfl rfl .nil)) ⟨rfl, rfl⟩
set_option maxRecDepth 100000 in
theorem kcmp_ex {I : GH} {W : World} {u v : Value} {k m : Bs} (hk : BytesAt I u k) (hm : BytesAt I v m) (hw : ∀ b o, I b = some o → W.heap[b]? = some o) :
    Calls Tryd.prog 56 #[u, v] W fun e w' => e = .returned (.int .i64 (cmpB k m)) ∧ w' = W := by
  refine enterC (args := [u, v]) Tryd.func56 rfl rfl ?_
  refine wp_seq_k fun K1 hK2 => ?_
  refine wl_begin ?_
  refine sq (r_assign rfl) rfl ?_
  refine wl_nil ?_
  refine hK2 _ _ ?_; clear hK2 K1
  refine wp_seq_k fun K3 hK4 => ?_
  refine wl_begin ?_
  refine sq (r_move rfl) rfl ?_
  refine sq (r_move rfl) rfl ?_
  refine sqo rfl fun K5 hK6 => ow_callC (lb := []) (bcmp_ex hk hm hw) (by kernel_rfl) rfl rfl rfl rfl rfl ?_
  rintro e w' ⟨rfl, rfl⟩
  refine ⟨_, rfl, ?_⟩
  refine hK6 _ _ ?_; clear hK6 K5
  refine sq (r_assign rfl) rfl ?_
  refine wl_nil ?_
  refine hK4 _ _ ?_; clear hK4 K3
  refine wp_ret ?_
  exact leaveC (res_one (v := .int .i64 (cmpB k m)) rfl (.tmp rfl rfl .nil)) ⟨rfl, rfl⟩
set_option maxRecDepth 100000 in
theorem grow_cmp {I : GH} {W : World} {u v x y : Value} {k m : Bs} (hk : BytesAt I u k) (hm : BytesAt I v m) (hx : One x) (hy : One y) (hw : ∀ b o, I b = some o → W.heap[b]? = some o) :
    Calls Tryd.prog 113 #[.agg #[u, x], .agg #[v, y]] W fun e w' => e = .returned (.int .i64 (cmpB k m)) ∧ ∃ o1 o2, w' = (W.alloc o1).alloc o2 := by
  have hu := hk.one
  have hv := hm.one
  refine enterC (args := [.agg #[u, x], .agg #[v, y]]) Tryd.func113 rfl rfl ?_
  refine wp_seq_k fun K1 hK2 => ?_
  refine wl_begin ?_
  refine sq (r_box (cs := #[u, x]) rfl rfl) rfl ?_
  refine sq (r_box (cs := #[v, y]) rfl rfl) rfl ?_
  refine sq (r_assign rfl) rfl ?_
  refine wl_nil ?_
  refine hK2 _ _ ?_; clear hK2 K1
  have h1 : ((W.alloc (.cells #[u, x] 56 (0, 0))).alloc (.cells #[v, y] 56 (0, 0))).heap[W.heap.size]? = some (.cells #[u, x] 56 (0, 0)) := heap_push heap_push_new
  have h2 : ((W.alloc (.cells #[u, x] 56 (0, 0))).alloc (.cells #[v, y] 56 (0, 0))).heap[(W.alloc (.cells #[u, x] 56 (0, 0))).heap.size]? = some (.cells #[v, y] 56 (0, 0)) := heap_push_new
  refine wp_seq_k fun K3 hK4 => ?_
  refine wl_begin ?_
  refine sq (r_fieldAddr (off := 0) rfl (by kernel_rfl) rfl) rfl ?_
  refine sq (r_load rfl (by kernel_rfl) rfl h1 rfl) rfl ?_
  refine sq (r_fieldAddr (off := 0) rfl (by kernel_rfl) rfl) rfl ?_
  refine sq (r_load rfl (by kernel_rfl) rfl h2 rfl) rfl ?_
  refine sqo rfl fun K5 hK6 => ow_callC (lb := []) (kcmp_ex hk hm fun b o h => heap_push (heap_push (hw b o h))) (by kernel_rfl) rfl rfl rfl rfl rfl ?_
  rintro e w' ⟨rfl, rfl⟩
  refine ⟨_, rfl, ?_⟩
  refine hK6 _ _ ?_; clear hK6 K5
  refine sq (r_assign rfl) rfl ?_
  refine wl_nil ?_
  refine hK4 _ _ ?_; clear hK4 K3
  refine wp_ret ?_
  exact leaveC (res_one (v := .int .i64 (cmpB k m)) rfl (.tmp rfl rfl .nil)) ⟨rfl, _, _, rfl⟩
end Go.Proofs.YtlnlodfnplkckaaDoor
/- slices.SortFunc of pairs, laid over the shelf's proof. Each theorem's conditions stand in it. -/
namespace Go.Proofs.YtlnlodfnplkckaaDoor
open Go.Shelf Go.RowKit Go.Lib Go.Sort
set_option linter.unusedVariables false
def sortRen : Go.Shelf.Ren := ⟨fun | 6 => 54 | 15 => 89 | 14 => 88 | 28 => 128 | 29 => 129 | 20 => 120 | 21 => 121 | 22 => 122 | 23 => 123 | 24 => 124 | 25 => 125 | 26 => 126 | 27 => 127 | 46 => 141 | 47 => 142 | 48 => 143 | 49 => 144 | 50 => 145 | 57 => 155 | n => n, fun | 22 => 67 | 24 => 56 | 25 => 113 | 3 => 3 | 39 => 163 | 0 => 0 | 53 => 63 | 55 => 50 | 4 => 4 | 46 => 197 | 45 => 196 | 50 => 138 | 5 => 5 | 9 => 9 | 66 => 209 | 70 => 212 | 76 => 222 | 77 => 223 | n => n, fun n => n⟩
set_option maxRecDepth 100000 in
theorem sortLays : SlLaysF0.n6 Tryd.prog sortRen where
  mixed := by kernel_rfl
  f6 := ⟨Tryd.f54.name, by kernel_rfl, Tryd.func54.trans (congrArg some (by kernel_rfl))⟩
  f14 := ⟨Tryd.f88.name, by kernel_rfl, Tryd.func88.trans (congrArg some (by kernel_rfl))⟩
  f15 := Tryd.func89.trans (congrArg some (by kernel_rfl))
  f20 := ⟨Tryd.f120.name, by kernel_rfl, Tryd.func120.trans (congrArg some (by kernel_rfl))⟩
  f21 := ⟨Tryd.f121.name, by kernel_rfl, Tryd.func121.trans (congrArg some (by kernel_rfl))⟩
  f22 := ⟨Tryd.f122.name, by kernel_rfl, Tryd.func122.trans (congrArg some (by kernel_rfl))⟩
  f23 := ⟨Tryd.f123.name, by kernel_rfl, Tryd.func123.trans (congrArg some (by kernel_rfl))⟩
  f24 := ⟨Tryd.f124.name, by kernel_rfl, Tryd.func124.trans (congrArg some (by kernel_rfl))⟩
  f25 := ⟨Tryd.f125.name, by kernel_rfl, Tryd.func125.trans (congrArg some (by kernel_rfl))⟩
  f26 := ⟨Tryd.f126.name, by kernel_rfl, Tryd.func126.trans (congrArg some (by kernel_rfl))⟩
  f27 := ⟨Tryd.f127.name, by kernel_rfl, Tryd.func127.trans (congrArg some (by kernel_rfl))⟩
  f28 := Tryd.func128.trans (congrArg some (by kernel_rfl))
  f29 := Tryd.func129.trans (congrArg some (by kernel_rfl))
  f46 := ⟨Tryd.f141.name, by kernel_rfl, Tryd.func141.trans (congrArg some (by kernel_rfl))⟩
  f47 := Tryd.func142.trans (congrArg some (by kernel_rfl))
  f48 := Tryd.func143.trans (congrArg some (by kernel_rfl))
  f49 := ⟨Tryd.f144.name, by kernel_rfl, Tryd.func144.trans (congrArg some (by kernel_rfl))⟩
  f50 := ⟨Tryd.f145.name, by kernel_rfl, Tryd.func145.trans (congrArg some (by kernel_rfl))⟩
  f57 := ⟨Tryd.f155.name, by kernel_rfl, Tryd.func155.trans (congrArg some (by kernel_rfl))⟩
  t0 := Tryd.underlying0
  a0 := Tryd.isAgg0
  z0 := Tryd.sizeOf0
  v0 := Tryd.zeroValue0
  t3 := Tryd.underlying3
  a3 := Tryd.isAgg3
  z3 := Tryd.sizeOf3
  v3 := Tryd.zeroValue3
  t4 := Tryd.underlying4
  a4 := Tryd.isAgg4
  z4 := Tryd.sizeOf4
  v4 := Tryd.zeroValue4
  t5 := Tryd.underlying5
  a5 := Tryd.isAgg5
  z5 := Tryd.sizeOf5
  v5 := Tryd.zeroValue5
  t9 := Tryd.underlying9
  a9 := Tryd.isAgg9
  z9 := Tryd.sizeOf9
  v9 := Tryd.zeroValue9
  t22 := Tryd.underlying67
  a22 := Tryd.isAgg67
  z22 := Tryd.sizeOf67
  v22 := Tryd.zeroValue67
  t25 := Tryd.underlying113
  a25 := Tryd.isAgg113
  z25 := Tryd.sizeOf113
  v25 := Tryd.zeroValue113
  t39 := Tryd.underlying163
  a39 := Tryd.isAgg163
  z39 := Tryd.sizeOf163
  v39 := Tryd.zeroValue163
  t45 := Tryd.underlying196
  a45 := Tryd.isAgg196
  z45 := Tryd.sizeOf196
  v45 := Tryd.zeroValue196
  t46 := Tryd.underlying197
  a46 := Tryd.isAgg197
  z46 := Tryd.sizeOf197
  v46 := Tryd.zeroValue197
  t50 := Tryd.underlying138
  a50 := Tryd.isAgg138
  z50 := Tryd.sizeOf138
  v50 := Tryd.zeroValue138
  t53 := Tryd.underlying63
  a53 := Tryd.isAgg63
  z53 := Tryd.sizeOf63
  v53 := Tryd.zeroValue63
  t55 := Tryd.underlying50
  a55 := Tryd.isAgg50
  z55 := Tryd.sizeOf50
  v55 := Tryd.zeroValue50
  t66 := Tryd.underlying209
  a66 := Tryd.isAgg209
  z66 := Tryd.sizeOf209
  v66 := Tryd.zeroValue209
  t70 := Tryd.underlying212
  a70 := Tryd.isAgg212
  z70 := Tryd.sizeOf212
  v70 := Tryd.zeroValue212
  t76 := Tryd.underlying222
  a76 := Tryd.isAgg222
  z76 := Tryd.sizeOf222
  v76 := Tryd.zeroValue222
  t77 := Tryd.underlying223
  a77 := Tryd.isAgg223
  z77 := Tryd.sizeOf223
  v77 := Tryd.zeroValue223
/-! ### The world behind a sort -/
section
variable {w : World} {b m : Nat} {d : Array Nat} {os : Array Obj} {enc : Nat → List Value}
theorem sw_heap : (sortWorldK enc 2 w b 0 m d os).heap = w.heap.modify b (onCells (putCells id 0 (flatK enc 2 d))) ++ os := rfl
theorem sw_size : w.heap.size ≤ (sortWorldK enc 2 w b 0 m d os).heap.size := by
  rw [sw_heap, Array.size_append, Array.size_modify]; omega
theorem sw_other {k : Nat} {o : Obj} (hk : k ≠ b) (h : w.heap[k]? = some o) : (sortWorldK enc 2 w b 0 m d os).heap[k]? = some o := by
  have hlt := lt_of_heap h
  rw [sw_heap, Array.getElem?_append_left (by rw [Array.size_modify]; exact hlt), Array.getElem?_modify, if_neg (Ne.symm hk), h]
theorem sw_same {k : Nat} (hk : k ≠ b) (hlt : k < w.heap.size) : (sortWorldK enc 2 w b 0 m d os).heap[k]? = w.heap[k]? := by
  rw [sw_heap, Array.getElem?_append_left (by rw [Array.size_modify]; exact hlt), Array.getElem?_modify, if_neg (Ne.symm hk)]
theorem sw_row {cur : Array Value} {T : TypeId} (h : w.heap[b]? = some (.cells cur T (0, 0))) : (sortWorldK enc 2 w b 0 m d os).heap[b]? = some (.cells (putCells id 0 (flatK enc 2 d) cur) T (0, 0)) := by
  have hlt := lt_of_heap h
  rw [sw_heap, Array.getElem?_append_left (by rw [Array.size_modify]; exact hlt), Array.getElem?_modify, if_pos rfl, h]
  rfl
end
theorem put_take {F cur : Array Value} (h : F.size ≤ cur.size) : (putCells id 0 F cur).size = cur.size ∧ (putCells id 0 F cur).toList.take F.size = F.toList := by
  have hs : (putCells id 0 F cur).size = cur.size := by unfold putCells; simp
  refine ⟨hs, ?_⟩
  apply List.ext_getElem?
  intro i
  by_cases hi : i < F.size
  · rw [List.getElem?_take, if_pos hi, Array.getElem?_toList, Array.getElem?_toList, Array.getElem?_eq_getElem hi, Array.getElem?_eq_getElem (by omega)]
    unfold putCells
    simp only [Array.getElem_mapIdx, Nat.zero_le, Nat.zero_add, hi, and_self, if_true, Nat.sub_zero, id]
    rw [getElem!_pos F i hi]
  · rw [List.getElem?_eq_none (by simp only [List.length_take, Array.length_toList]; omega), List.getElem?_eq_none (by simpa using hi)]
/-! ### The elements, by their numbers -/
def nilS : Value := .slice none 0 0
theorem PairCells.getD {I : GH} : ∀ {cs : List Value} {l : List (Bs × Bs)} (i : Nat), PairCells I cs l → BytesAt I (cs.getD (i * 2) nilS) (l.getD i ([], [])).1 ∧ BytesAt I (cs.getD (i * 2 + 1) nilS) (l.getD i ([], [])).2
  | [], [], i, _ => ⟨BytesAt.nil _, BytesAt.nil _⟩
  | kv :: xv :: cs, p :: l, 0, ⟨h1, h2, _⟩ => ⟨h1, h2⟩
  | kv :: xv :: cs, p :: l, i + 1, ⟨_, _, h3⟩ => by
    have := PairCells.getD i h3
    rw [show (i + 1) * 2 = i * 2 + 1 + 1 by omega]
    exact this
  | [], _ :: _, _, h => h.elim
  | [_], l, _, h => by cases l <;> exact h.elim
  | _ :: _ :: _, [], _, h => h.elim
def encP (cs : List Value) (i : Nat) : List Value := [cs.getD (i * 2) nilS, cs.getD (i * 2 + 1) nilS]
def keyP (l : List (Bs × Bs)) (i : Nat) : Bs := (l.getD i ([], [])).1
theorem flat_eq {cs : List Value} {n : Nat} (h : cs.length = n * 2) : flatK (encP cs) 2 (Array.range n) = cs.toArray := by
  refine ext_get! (by simp [h]) fun t ht => ?_
  have ht' : t < n * 2 := by simpa using ht
  rw [get_flatK _ _ _ t (by simpa using ht')]
  have h1 : (Array.range n)[t / 2]! = t / 2 := by rw [getElem!_pos _ _ (by simp; omega)]; simp
  rw [h1, getElem!_pos cs.toArray t (by simp; omega)]
  unfold encP
  rcases Nat.mod_two_eq_zero_or_one t with z | z
  · rw [z]
    have e : t / 2 * 2 = t := by omega
    show cs.getD (t / 2 * 2) nilS = _
    rw [e, List.getD_eq_getElem?_getD, List.getElem?_eq_getElem (by omega)]
    rfl
  · rw [z]
    have e : t / 2 * 2 + 1 = t := by omega
    show cs.getD (t / 2 * 2 + 1) nilS = _
    rw [e, List.getD_eq_getElem?_getD, List.getElem?_eq_getElem (by omega)]
    rfl
theorem flat_cells {I : GH} {cs : List Value} {l : List (Bs × Bs)} (hp : PairCells I cs l) : ∀ (ds : List Nat), PairCells I (ds.flatMap (encP cs)) (ds.map fun i => l.getD i ([], []))
  | [] => trivial
  | i :: ds => ⟨(PairCells.getD i hp).1, (PairCells.getD i hp).2, flat_cells hp ds⟩
theorem flat_list {cs : List Value} (d : Array Nat) : (flatK (encP cs) 2 d).toList = d.toList.flatMap (encP cs) := by
  have key : ∀ ds : List Nat, ∀ t, t < ds.length * 2 → (ds.flatMap (encP cs))[t]? = (encP cs (ds.getD (t / 2) 0))[t % 2]? := by
    intro ds
    induction ds with
    | nil => intro t ht; simp at ht
    | cons i ds ih =>
      intro t ht
      match t with
      | 0 => rfl
      | 1 => rfl
      | t + 2 =>
        have := ih t (by simp only [List.length_cons] at ht; omega)
        rw [show (t + 2) / 2 = t / 2 + 1 by omega, show (t + 2) % 2 = t % 2 by omega]
        exact this
  apply List.ext_getElem?
  intro t
  by_cases ht : t < d.size * 2
  · rw [key d.toList t (by simpa using ht), Array.getElem?_toList, Array.getElem?_eq_getElem (by simpa using ht)]
    have h1 := get_flatK (encP cs) 2 d t ht
    rw [getElem!_pos (flatK (encP cs) 2 d) t (by simpa using ht)] at h1
    rw [h1]
    have h2 : d[t / 2]! = d.toList.getD (t / 2) 0 := by
      rw [getElem!_pos d (t / 2) (by omega), List.getD_eq_getElem?_getD, Array.getElem?_toList, Array.getElem?_eq_getElem (by omega)]; rfl
    rw [h2]
    have h3 : t % 2 < (encP cs (d.toList.getD (t / 2) 0)).length := by show t % 2 < 2; omega
    rw [List.getElem?_eq_getElem h3]
    exact congrArg some (getElem!_pos (encP cs (d.toList.getD (t / 2) 0)) (t % 2) h3)
  · have hl : (d.toList.flatMap (encP cs)).length = d.size * 2 := by
      have : ∀ ds : List Nat, (ds.flatMap (encP cs)).length = ds.length * 2 := by
        intro ds
        induction ds with
        | nil => rfl
        | cons i ds ih => rw [List.flatMap_cons, List.length_append, ih]; simp only [encP, List.length_cons, List.length_nil]; omega
      rw [this]; simp
    rw [List.getElem?_eq_none (by simp; omega), List.getElem?_eq_none (by omega)]
theorem swo_cmp (kF : Nat → Bs) : SWO (ltOf fun i j : Nat => cmpB (kF i) (kF j)) where
  irrefl i := by show decide (cmpB (kF i) (kF i) < 0) = false; rw [cmpB_self]; rfl
  trans i j k h1 h2 := by
    simp only [ltOf, decide_eq_true_iff] at *
    have a1 : cmpB (kF i) (kF j) = -1 := by rcases cmpB_val (kF i) (kF j) with z | z | z <;> omega
    have a2 : cmpB (kF j) (kF k) = -1 := by rcases cmpB_val (kF j) (kF k) with z | z | z <;> omega
    rw [cmpB_trans a1 a2]; decide
  ntrans i j k h1 h2 := by
    simp only [ltOf, decide_eq_false_iff_not] at *
    intro h3
    have a3 : cmpB (kF i) (kF k) = -1 := by rcases cmpB_val (kF i) (kF k) with z | z | z <;> omega
    rcases cmpB_val (kF i) (kF j) with z | z | z
    · omega
    · rw [cmpB_eq z] at a3; omega
    · have a1 : cmpB (kF j) (kF i) = -1 := by rw [cmpB_swap, z]
      have := cmpB_trans a1 a3
      omega
/-- No later pair has a lesser key. -/
def Weak (l : List (Bs × Bs)) : Prop := l.Pairwise fun p q => ¬ cmpB q.1 p.1 < 0
/-- A comparison of pairs by their keys. -/
def CmpBy (g : Nat) : Prop := ∀ {I : GH} {W : World} {u v x y : Value} {k m : Bs}, BytesAt I u k → BytesAt I v m → One x → One y → (∀ b o, I b = some o → W.heap[b]? = some o) →
  Calls Tryd.prog g #[.agg #[u, x], .agg #[v, y]] W fun e w' => e = .returned (.int .i64 (cmpB k m)) ∧ ∃ o1 o2, w' = (W.alloc o1).alloc o2
theorem sort_ok {I : GH} {g b n cap : Nat} {cur : Array Value} {cs : List Value} {l : List (Bs × Bs)} (hg : CmpBy g) (hgo : isGo Tryd.prog g = true) (hrow : RowAt 56 2 (.slice (some ⟨b, 0, none⟩) n cap) n cs [⟨b, cur, 56⟩]) (hp : PairCells I cs l) (hn : n = l.length) (hl : l.length < 4611686018427387904) :
    Fn Tryd.prog 54 #[.slice (some ⟨b, 0, none⟩) n cap, .func (.func g) #[] #[]] I [⟨b, cur, 56⟩]
      (fun r J X => ∃ cur' cs' l', r = .tuple #[] ∧ I = J ∧ X = [⟨b, cur', 56⟩] ∧ RowAt 56 2 (.slice (some ⟨b, 0, none⟩) n cap) n cs' [⟨b, cur', 56⟩] ∧ PairCells I cs' l' ∧ l'.Perm l ∧ Weak l') := by
  subst hn
  intro w hs hx hi hnd
  have hb := hx _ (.head _)
  have hIb := hi _ (.head _)
  have hlen := hp.length
  have hlt := lt_of_heap hb
  have hrow2 : cap * 2 = cur.size ∧ l.length ≤ cap ∧ cap ≤ maxLen ∧ cur.toList.take (l.length * 2) = cs := by
    obtain ⟨_, ⟨h0, _⟩ | ⟨g2, cap2, cur2, h1, h2, h3, h4, h5, h6⟩⟩ := hrow
    · cases h0
    · cases h1
      cases h6
      exact ⟨h4.symm, h2, h3, h5⟩
  obtain ⟨c1, c2, c3, c4⟩ := hrow2
  have hones : ∀ i, ∀ v ∈ encP cs i, v.oneCell' = true := fun i v hv => by
    have h1 := PairCells.getD i hp
    have : ∀ {u : Value} {k : Bs}, BytesAt I u k → u.oneCell' = true := fun hu => by
      obtain ⟨a, c, e, _⟩ := hu
      rw [e]; rfl
    simp only [encP, List.mem_cons, List.not_mem_nil, or_false] at hv
    rcases hv with rfl | rfl
    · exact this h1.1
    · exact this h1.2
  have hH : HoldsK (encP cs) 2 w b 0 (Array.range l.length) := by
    intro j hj
    rw [flat_eq hlen] at hj ⊢
    have hj' : j < cs.length := by simpa using hj
    have hcj : cur[j]? = some (cs[j]'hj') := by
      have := congrArg (fun z => z[j]?) c4
      simp only [List.getElem?_take, Array.getElem?_toList] at this
      rw [if_pos (by omega), List.getElem?_eq_getElem hj'] at this
      exact this
    constructor
    · unfold World.cell?
      rw [show w.heap[b]? = some (.cells cur 56 (0, 0)) from hb]
      simp only [Nat.zero_add, Option.isSome_none, Bool.false_eq_true, if_false]
      rw [hcj, getElem!_pos _ j (by simpa using hj')]
      rfl
    · unfold World.frozen?
      rw [show w.heap[b]? = some (.cells cur 56 (0, 0)) from hb]
      simp
  have hcmp : CmpLays Tryd.prog g #[] (encP cs) 2 (fun i j => cmpB (keyP l i) (keyP l j)) b 0 (Array.range l.length).size w := fun m os dk _ i j => by
    have h1 := PairCells.getD i hp
    have h2 := PairCells.getD j hp
    refine (hg h1.1 h2.1 h1.2.one h2.2.one (fun k o hk => ?_)).mono ?_
    · exact sw_other (fun e => by rw [e, hIb] at hk; cases hk) (hs.blk k o hk)
    · rintro e w' ⟨he, o1, o2, hw⟩
      exact ⟨he, 0, #[o1, o2], by rw [hw, alloc_eq_grow, alloc_eq_grow, grow_grow]; rfl⟩
  have hcon := AnyQ.slices_SortFunc sortLays 2 Tryd.isAgg56 Tryd.sizeOf56 (encP cs) (fun _ => rfl) hones (fun i j => cmpB (keyP l i) (keyP l j)) (swo_cmp _) g #[] b 0 cap (Array.range l.length) w (fun _ _ => run_callFunc hgo) hcmp hH hlt (by simpa using hl)
  rw [show (Array.range l.length).size = l.length by simp] at hcon
  refine Calls.mono hcon ?_
  rintro e w' ⟨rfl, d', m, os, ⟨p1, _, p3⟩, hsort, rfl⟩
  have hd : d'.size = l.length := by rw [p1]; simp
  have hperm : d'.toList.Perm (List.range l.length) := by
    have e1 : d'.extract 0 l.length = d' := by rw [← hd]; simp
    have e2 : (Array.range l.length).extract 0 l.length = Array.range l.length := by
      simp
    rw [e1, e2] at p3
    simpa using p3
  have hF : (flatK (encP cs) 2 d').size ≤ cur.size := by rw [size_flatK, hd]; omega
  obtain ⟨q1, q2⟩ := put_take hF
  refine ⟨_, I, [⟨b, putCells id 0 (flatK (encP cs) 2 d') cur, 56⟩], rfl, ⟨fun k o hk => ?_, hs.cel⟩, GH.le.refl _, fun _ _ => rfl, ⟨rfl, rfl, rfl, sw_size, fun k hk hn => ?_⟩, fun x hx => ?_, rfl, putCells id 0 (flatK (encP cs) 2 d') cur, (flatK (encP cs) 2 d').toList, d'.toList.map (fun i => l.getD i ([], [])), rfl, rfl, rfl, ?_, ?_, ?_, ?_⟩
  · exact sw_other (fun e => by rw [e, hIb] at hk; cases hk) (hs.blk k o hk)
  · exact sw_same (fun e => hn (by rw [e]; exact .head _)) hk
  · obtain rfl := List.mem_singleton.1 hx
    exact sw_row hb
  · refine ⟨by simp [hd], .inr ⟨b, cap, _, rfl, c2, c3, by rw [q1, ← c1], ?_, rfl⟩⟩
    rw [← q2, size_flatK, hd]
  · rw [flat_list]; exact flat_cells hp _
  · have h1 : (d'.toList.map fun i => l.getD i ([], [])).Perm ((List.range l.length).map fun i => l.getD i ([], [])) := hperm.map _
    have h2 : ((List.range l.length).map fun i => l.getD i ([], [])) = l := by
      apply List.ext_getElem?
      intro i
      rw [List.getElem?_map]
      by_cases hi : i < l.length
      · rw [List.getElem?_range hi, List.getElem?_eq_getElem hi, Option.map_some, List.getD_eq_getElem?_getD, List.getElem?_eq_getElem hi]; rfl
      · rw [List.getElem?_eq_none (by simpa using hi), List.getElem?_eq_none (by omega)]; rfl
    rw [h2] at h1
    exact h1
  · unfold Weak
    rw [List.pairwise_map, List.pairwise_iff_getElem]
    intro i j hi hj hij
    have := hsort i j (Nat.zero_le _) hij (by rw [← hd]; simpa using hj)
    unfold ltOf at this
    rw [decide_eq_false_iff_not, getElem!_pos d' j (by simpa using hj), getElem!_pos d' i (by simpa using hi)] at this
    simpa [keyP] using this
theorem grow_by : CmpBy 113 := grow_cmp
theorem RowAt.open' {E sz : Nat} {v : Value} {n : Nat} {xs : List Value} {R : List Bx} (h : RowAt E sz v n xs R) (hn : n ≠ 0) : ∃ b cap cur, v = .slice (some ⟨b, 0, none⟩) n cap ∧ R = [⟨b, cur, E⟩] := by
  obtain ⟨_, ⟨_, h0, _⟩ | ⟨g, cap, cur, h1, _, _, _, _, h6⟩⟩ := h
  · exact absurd h0 hn
  · exact ⟨g, cap, cur, h1, h6⟩
end Go.Proofs.YtlnlodfnplkckaaDoor
/- Entries; the contract of layout.grow. -/
namespace Go.Proofs.YtlnlodfnplkckaaDoor
open T (Sm)
set_option linter.unusedVariables false
set_option linter.unusedSimpArgs false
/-- Entries: their hashes, keys and values. -/
abbrev EL := List (Nat × Bs × Bs)
def EntCells (I : GH) : List Value → EL → Prop
  | [], [] => True
  | c :: kv :: xv :: cs, p :: l => c = .int .u64 ((p.1 : Nat) : Int) ∧ BytesAt I kv p.2.1 ∧ BytesAt I xv p.2.2 ∧ EntCells I cs l
  | _, _ => False
theorem EntCells.up {I J : GH} (hle : I.le J) : ∀ {cs : List Value} {l : EL}, EntCells I cs l → EntCells J cs l
  | [], [], _ => trivial
  | _ :: _ :: _ :: _, _ :: _, ⟨h0, h1, h2, h3⟩ => ⟨h0, h1.up hle, h2.up hle, EntCells.up hle h3⟩
  | [], _ :: _, h => h.elim
  | [_], l, h => by cases l <;> exact h.elim
  | [_, _], l, h => by cases l <;> exact h.elim
  | _ :: _ :: _ :: _, [], h => h.elim
theorem EntCells.length {I : GH} : ∀ {cs : List Value} {l : EL}, EntCells I cs l → cs.length = l.length * 3
  | [], [], _ => rfl
  | _ :: _ :: _ :: cs, _ :: l, ⟨_, _, _, h3⟩ => by have := EntCells.length h3; simp only [List.length_cons]; omega
  | [], _ :: _, h => h.elim
  | [_], l, h => by cases l <;> exact h.elim
  | [_, _], l, h => by cases l <;> exact h.elim
  | _ :: _ :: _ :: _, [], h => h.elim
theorem EntCells.snoc {I : GH} {p : Nat × Bs × Bs} {kv xv : Value} (h1 : BytesAt I kv p.2.1) (h2 : BytesAt I xv p.2.2) : ∀ {cs : List Value} {l : EL}, EntCells I cs l → EntCells I (cs ++ [.int .u64 ((p.1 : Nat) : Int), kv, xv]) (l ++ [p])
  | [], [], _ => ⟨rfl, h1, h2, trivial⟩
  | _ :: _ :: _ :: _, _ :: _, ⟨h0, g1, g2, h3⟩ => ⟨h0, g1, g2, EntCells.snoc h1 h2 h3⟩
  | [], _ :: _, h => h.elim
  | [_], l, h => by cases l <;> exact h.elim
  | [_, _], l, h => by cases l <;> exact h.elim
  | _ :: _ :: _ :: _, [], h => h.elim
theorem EntCells.get {I : GH} : ∀ {cs : List Value} {l : EL} {i : Nat}, EntCells I cs l → (h : i < l.length) →
    ∃ kv xv, (cs.drop (i * 3)).take 3 = [.int .u64 ((l[i].1 : Nat) : Int), kv, xv] ∧ BytesAt I kv l[i].2.1 ∧ BytesAt I xv l[i].2.2
  | c :: kv :: xv :: _, _ :: _, 0, ⟨h0, h1, h2, _⟩, _ => ⟨kv, xv, by rw [h0]; simp, h1, h2⟩
  | _ :: _ :: _ :: cs, _ :: l, i + 1, ⟨_, _, _, h3⟩, h => by
    obtain ⟨kv, xv, h4, h5, h6⟩ := EntCells.get h3 (i := i) (by simpa using h)
    refine ⟨kv, xv, ?_, h5, h6⟩
    rw [show (i + 1) * 3 = i * 3 + 1 + 1 + 1 by omega]
    simpa using h4
  | [], _ :: _, _, h, _ => h.elim
  | [_], l, _, h, _ => by cases l <;> exact h.elim
  | [_, _], l, _, h, _ => by cases l <;> exact h.elim
  | _ :: _ :: _ :: _, [], _, h, _ => h.elim
  | [], [], _, _, h => by simp at h
def EntAt (I : GH) (v : Value) (l : EL) : Prop := ∃ cs, SliceAt I v l.length 3 cs ∧ EntCells I cs l
theorem EntAt.up {I J : GH} {v : Value} {l : EL} (h : EntAt I v l) (hle : I.le J) : EntAt J v l := by
  obtain ⟨cs, h1, h2⟩ := h; exact ⟨cs, h1.up hle, h2.up hle⟩
theorem EntAt.one {I : GH} {v : Value} {l : EL} (h : EntAt I v l) : One v := by
  obtain ⟨cs, h1, h2⟩ := h; exact SliceAt.one h1
theorem EntAt.nil (I : GH) : EntAt I (.slice none 0 0) [] := ⟨[], SliceAt.nil I 3, trivial⟩
theorem EntAt.slc {I : GH} {v : Value} {l : EL} (h : EntAt I v l) : ∃ ad cap, v = .slice ad l.length cap := by
  obtain ⟨cs, ⟨a, cap, h1, _⟩, _⟩ := h; exact ⟨a, cap, h1⟩
theorem EntAt.at {I : GH} {ad : Option Addr} {cap i : Nat} {l : EL} (hs : EntAt I (.slice ad l.length cap) l) (hi : i < l.length) :
    ∃ b off cs T fz kv xv, ad = some ⟨b, off, none⟩ ∧ I b = some (.cells cs T fz) ∧ (cs.toList.drop (off + i * 3)).take 3 = [.int .u64 ((l[i].1 : Nat) : Int), kv, xv] ∧ BytesAt I kv l[i].2.1 ∧ BytesAt I xv l[i].2.2 := by
  obtain ⟨xs, h1, h2⟩ := hs
  have hne : xs ≠ [] := by
    intro e
    have := h2.length
    rw [e, List.length_nil] at this
    omega
  obtain ⟨b, off, cs, T, fz, g1, g2, g3⟩ := h1.open hne
  obtain ⟨kv, xv, k1, k2, k3⟩ := h2.get hi
  exact ⟨b, off, cs, T, fz, kv, xv, g1, g2, by rw [part_of g3 hi, k1], k2, k3⟩
set_option maxRecDepth 100000 in
theorem grow_ok {I : GH} {v0 : Value} {l : EL} (hl : EntAt I v0 l) (hne : l ≠ []) (hll : l.length ≤ 1000000) (hsm : Sm (l.map (·.2))) (hh : ∀ p ∈ l, p.1 < 2 ^ 64) : Fn Tryd.prog 83 #[v0] I [] (fun v J _ => ∃ p l', v = .pointer p ∧ TreeAt J p (T.fromL l') ∧ l'.Perm (l.map (·.2)) ∧ Weak l') := by
  obtain ⟨ad, cap, rfl⟩ := hl.slc
  refine enter (args := [.slice ad l.length cap]) Tryd.func83 rfl rfl fun w0 hs0 => ?_
  refine wp_seq_k fun K1 hK2 => ?_
  refine wl_begin ?_
  refine sq (r_assign rfl) rfl ?_
  refine wl_nil ?_
  refine hK2 _ _ ?_; (try clear hK2 K1)
  refine wp_seq_k fun K3 hK4 => ?_
  refine wl_begin ?_
  refine sq (r_assign rfl) rfl ?_
  refine wl_nil ?_
  refine hK4 _ _ ?_; (try clear hK4 K3)
  refine wp_seq_k fun K5 hK6 => ?_
  refine wp_seq_k fun K7 hK8 => ?_
  refine wl_begin ?_
  refine sq (r_move rfl) rfl ?_
  refine sq (r_lens rfl (by kernel_rfl) rfl) rfl ?_
  refine sq (r_move rfl) rfl ?_
  refine wl_nil ?_
  refine hK8 _ _ ?_; (try clear hK8 K7)
  refine wp_block ?_
  refine lp (σ := Nat) (fun m10 f11 w12 => ∃ (g9 : Nat → Value) (k : Nat) (rv : Value) (RR : List Bx) (xs : List Value) (G1 : GH), m10 = l.length - k ∧ f11 = updL g9 [(0, .slice ad l.length cap), (2, .pointer none), (3, rv), (6, .slice ad l.length cap), (7, .int .i64 ((l.length : Nat) : Int)), (8, .int .i64 ((k : Nat) : Int))] ∧ I.le G1 ∧ (k ≤ l.length) ∧ (RowAt 56 2 rv k xs RR) ∧ (PairCells G1 xs ((l.take k).map (·.2))) ∧ St w0 I (ids []) G1 (RR ++ []) w12) (fun m => m) (l.length) ⟨_, 0, _, [], [], I, rfl, updL_self (.cons rfl (.cons rfl (.cons rfl (.cons rfl (.cons rfl (.cons rfl .nil)))))), GH.le.refl _, (Nat.zero_le _), RowAt.nil _ _, trivial, hs0⟩ ?_
  clear hs0
  rintro m10 f11 w12 ⟨g9, k, rv, RR, xs, G1, rfl, rfl, le14, hkl, hrow, hpc, hs13⟩
  refine wp_seq_k fun K15 hK16 => ?_
  refine wl_begin ?_
  refine sq (r_lti rfl rfl rfl rfl) rfl ?_
  refine wl_nil ?_
  refine hK16 _ _ ?_; (try clear hK16 K15)
  refine wp_seq_k fun K17 hK18 => ?_
  refine condS rfl rfl (fun h19 => ?_) (fun h19 => ?_)
  ·
    have p20 := of_decide_eq_true h19
    have hlt : k < l.length := by omega
    obtain ⟨b, off, cs, T0, fz, kv, xv, hbe, hb, hcs, hk, hx⟩ := EntAt.at hl hlt
    cases hbe
    refine wp_skip ?_
    refine hK18 _ _ ?_; (try clear hK18 K17)
    refine wp_seq_k fun K21 hK22 => ?_
    refine wp_block ?_
    refine wp_seq_k fun K23 hK24 => ?_
    refine wl_begin ?_
    refine sq (r_index (e := 58) (sz := 3) (i := k) rfl rfl (by kernel_rfl) rfl rfl hlt) rfl ?_
    refine sq (r_loadN (m := 3) (vs := [.int .u64 (((l[k]'hlt).1 : Nat) : Int), kv, xv]) rfl (by kernel_rfl) rfl (hs13.imm (le14 _ _ hb)) hcs rfl) rfl ?_
    refine sqo rfl fun K25 hK26 => ow_newbox (mk := fun b => .pointer (some ⟨b, 0, none⟩)) hs13 (r_alloc (cs := [.int .u64 0, .slice none 0 0, .slice none 0 0]) (by kernel_rfl)) rfl ?_
    rintro b27 w28 (hs29 : St w0 I (ids []) G1 (⟨b27, #[.int .u64 0, .slice none 0 0, .slice none 0 0], 58⟩ :: (RR ++ [])) w28)
    clear hs13
    refine hK26 _ _ ?_; clear hK26 K25
    refine sqo rfl fun K30 hK31 => ow_store (vs := [.int .u64 (((l[k]'hlt).1 : Nat) : Int), kv, xv]) hs29 rfl rfl (by kernel_rfl) rfl rfl (.cons trivial (.cons (hk).one (.cons (hx).one .nil))) rfl ?_
    rintro w32 (hs33 : St w0 I (ids []) G1 (⟨b27, #[.int .u64 (((l[k]'hlt).1 : Nat) : Int), kv, xv], 58⟩ :: (RR ++ [])) w32)
    clear hs29
    refine hK31 _ _ ?_; clear hK31 K30
    refine wl_nil ?_
    refine hK24 _ _ ?_; (try clear hK24 K23)
    refine wl_begin ?_
    refine sq (r_move rfl) rfl ?_
    refine sq (r_fieldAddr (off := 1) rfl (by kernel_rfl) rfl) rfl ?_
    refine sq (r_loadN (m := 2) rfl (by kernel_rfl) rfl (hs33.box (.head _)) rfl rfl) rfl ?_
    refine sqo rfl fun K34 hK35 => ow_newimm (mk := fun b => .slice (some ⟨b, 0, none⟩) 1 1) hs33 (r_buildSlice (e := 56) (cells := #[kv, xv]) (.cons rfl rfl .nil) (by kernel_rfl)) rfl ?_
    rintro b36 G2 w37 hb38 le39 hs40 ge41
    clear hs33
    replace hb38 : G2 b36 = some (.cells #[kv, xv] 56 (0, 0)) := hb38
    refine hK35 _ _ ?_; clear hK35 K34
    have hs44 : St w0 I (ids []) G2 (RR ++ ([⟨b27, #[.int .u64 (((l[k]'hlt).1 : Nat) : Int), kv, xv], 58⟩] : List Bx)) w37 := hs40.perm (List.Perm.trans ((List.Perm.refl _).cons _) (List.perm_middle (l₁ := (RR : List Bx)) (a := (⟨b27, #[.int .u64 (((l[k]'hlt).1 : Nat) : Int), kv, xv], 58⟩ : Bx)) (l₂ := [])).symm); clear hs40
    refine sqo rfl fun K42 hK43 => ow_append (R := RR) (L := [⟨b27, #[.int .u64 (((l[k]'hlt).1 : Nat) : Int), kv, xv], 58⟩]) (E := 56) (sz := 2) (bytes := 48) (news := [kv, xv]) hs44 hrow (by kernel_rfl) rfl rfl rfl rfl rfl rfl (SliceAt.news (m := 2) (hs44.imm hb38) rfl) (ones_old (.cons (hk).one (.cons (hx).one .nil))) (by simp only [maxLen]; omega) (by omega) rfl ?_
    rintro v45 R46 w47 hr48 hs49 hf50
    replace hs49 : St w0 I (ids []) G2 (R46 ++ ([⟨b27, #[.int .u64 (((l[k]'hlt).1 : Nat) : Int), kv, xv], 58⟩] : List Bx)) w47 := hs49; clear hs44 hf50
    refine hK43 _ _ ?_; clear hK43 K42
    refine sq (r_assign rfl) rfl ?_
    refine wl_nil ?_
    refine hK22 _ _ ?_; (try clear hK22 K21)
    refine nrm (vals := [(0, .slice (some ⟨b, off, none⟩) l.length cap), (2, .pointer none), (3, v45), (5, .pointer (some ⟨b27, 0, none⟩)), (6, .slice (some ⟨b, off, none⟩) l.length cap), (7, .int .i64 ((l.length : Nat) : Int)), (8, .int .i64 ((k : Nat) : Int)), (9, .bool (decide (((k : Nat) : Int) < ((l.length : Nat) : Int))))]) (.cons rfl (.cons rfl (.cons rfl (.cons rfl (.cons rfl (.cons rfl (.cons rfl (.cons rfl .nil)))))))) fun g51 => ?_
    refine wl_begin ?_
    refine sq (r_addi rfl rfl rfl rfl (by omega)) rfl ?_
    refine sq (r_move rfl) rfl ?_
    refine wl_nil ?_
    have hs52 : St w0 I (ids []) G2 (⟨b27, #[.int .u64 (((l[k]'hlt).1 : Nat) : Int), kv, xv], 58⟩ :: (R46 ++ [])) w47 := hs49.perm (List.Perm.trans ((List.Perm.refl _).append_left _) (List.perm_middle (l₁ := (R46 : List Bx)) (a := (⟨b27, #[.int .u64 (((l[k]'hlt).1 : Nat) : Int), kv, xv], 58⟩ : Bx)) (l₂ := []))); clear hs49
    have hs53 : St w0 I (ids []) G2 (R46 ++ []) w47 := hs52.drop
    exact ⟨_, _, rfl, ⟨_, (k + 1), v45, R46, (xs ++ [kv, xv]), G2, rfl, updL_self (.cons rfl (.cons rfl (.cons rfl (.cons rfl (.cons rfl (.cons rfl .nil)))))), (le14.trans le39), (by omega), hr48, (by rw [List.take_succ_eq_append_getElem hlt, List.map_append]; exact (hpc.up le39).snoc (hk.up (le14.trans le39)) (hx.up (le14.trans le39))), hs53⟩, (by omega)⟩
  ·
    have p54 := of_decide_eq_false h19
    obtain rfl : k = l.length := by omega
    rw [List.take_length] at hpc
    obtain ⟨gb, gcap, gcur, rfl, rfl⟩ := hrow.open' (fun e => hne (List.length_eq_zero_iff.1 e))
    have hs55 : St w0 I (ids []) G1 (([⟨gb, gcur, 56⟩] : List Bx) ++ []) w12 := hs13; clear hs13
    refine wp_exit ?_
    refine hK6 _ _ ?_; (try clear hK6 K5)
    refine wp_seq_k fun K56 hK57 => ?_
    refine wl_begin ?_
    refine sq (r_move rfl) rfl ?_
    refine sqo rfl fun K58 hK59 => ow_call (X := ([⟨gb, gcur, 56⟩] : List Bx)) (L := []) (lb := []) hs55 (sort_ok grow_by (by kernel_rfl) hrow hpc (List.length_map _).symm (by rw [List.length_map]; omega)) (by kernel_rfl) rfl rfl rfl rfl rfl ?_
    rintro _ _ X1 w67 ⟨cur60, cs61, l62, rfl, rfl, rfl, hrow63, hpc64, hperm65, hweak66⟩ - hs68 hid69
    replace hs68 : St w0 I (ids []) G1 (([⟨gb, cur60, 56⟩] : List Bx) ++ []) w67 := hs68
    clear hs55 hid69
    refine hK59 _ _ ?_; clear hK59 K58
    refine wl_nil ?_
    refine hK57 _ _ ?_; (try clear hK57 K56)
    refine wp_seq_k fun K70 hK71 => ?_
    refine wl_begin ?_
    refine sq (r_move rfl) rfl ?_
    obtain ⟨G3, le74, hs75, hz76⟩ := hs68.freezeRow (R := ([⟨gb, cur60, 56⟩] : List Bx)) (L := []) hrow63 (fun _ h => by cases h); clear hs68
    replace hs75 : St w0 I (ids []) G3 [] w67 := hs75
    refine sqo rfl fun K72 hK73 => ow_call (X := []) (L := []) (lb := []) hs75 (from_ok ⟨_, (by rw [hperm65.length_eq, List.length_map]; exact hz76), (hpc64.up le74)⟩ (fun p hp => hsm p (hperm65.mem_iff.1 hp)) (by rw [hperm65.length_eq, List.length_map]; omega)) (by kernel_rfl) rfl rfl rfl rfl rfl ?_
    rintro _ G4 X1 w79 ⟨p77, rfl, ht78⟩ le82 hs80 hid81
    obtain rfl : X1 = [] := List.map_eq_nil_iff.1 hid81
    replace hs80 : St w0 I (ids []) G4 [] w79 := hs80
    clear hs75 hid81
    refine hK73 _ _ ?_; clear hK73 K72
    refine sq (r_assign rfl) rfl ?_
    refine wl_nil ?_
    refine hK71 _ _ ?_; (try clear hK71 K70)
    refine wp_ret ?_
    exact leave (X' := []) (L := []) hs80 rfl (res_one (v := .pointer p77) rfl (.tmp rfl rfl .nil)) ⟨p77, l62, rfl, ht78, hperm65, hweak66⟩
end Go.Proofs.YtlnlodfnplkckaaDoor
/- Are all hashes one? (slices.ContainsFunc and its closure). -/
namespace Go.Proofs.YtlnlodfnplkckaaDoor
open T (Sm)
set_option linter.unusedVariables false
set_option linter.unusedSimpArgs false
theorem take3 {cs : Array Value} {o : Nat} {a b c : Value} (h : (cs.toList.drop o).take 3 = [a, b, c]) : cs[o]? = some a ∧ cs[o + 1]? = some b ∧ cs[o + 2]? = some c := by
  have key : ∀ i, i < 3 → cs[o + i]? = [a, b, c][i]? := fun i hi => by
    rw [← h, List.getElem?_take, if_pos hi, List.getElem?_drop, Array.getElem?_toList]
  exact ⟨key 0 (by omega), key 1 (by omega), key 2 (by omega)⟩
theorem take31 {cs : Array Value} {o : Nat} {a b c : Value} (h : (cs.toList.drop o).take 3 = [a, b, c]) : (cs.toList.drop (o + 1)).take 2 = [b, c] := by
  have e : (cs.toList.drop (o + 1)).take 2 = ((cs.toList.drop o).take 3).drop 1 := by rw [List.drop_take, List.drop_drop]
  rw [e, h]; rfl
/-- Is there an entry of another hash than the first one's? -/
def mixB (l : EL) : Bool := l.any fun p => !decide (p.1 = (l.headD (0, [], [])).1)
theorem head0 {l : EL} (h : 0 < l.length) : l.headD (0, [], []) = l[0] := by
  cases l with
  | nil => simp at h
  | cons p l => rfl
set_option maxRecDepth 100000 in
theorem lay1_ok {I : GH} {b0 cap : Nat} {ad : Option Addr} {l : EL} {q : Nat × Bs × Bs} {qk qx : Value} (hl : EntAt I (.slice ad l.length cap) l) (hne : 0 < l.length) (hh : ∀ p ∈ l, p.1 < 2 ^ 64) (hsm : Sm (l.map (·.2))) (hq : q.1 < 2 ^ 64) (hqk : BytesAt I qk q.2.1) (hqx : BytesAt I qx q.2.2) :
    Fn Tryd.prog 81 #[.agg #[.int .u64 ((q.1 : Nat) : Int), qk, qx], .pointer (some ⟨b0, 0, none⟩)] I [⟨b0, #[.slice ad l.length cap], 44⟩] (fun v J X => v = .bool (!decide (q.1 = (l.headD (0, [], [])).1)) ∧ I = J ∧ X = [⟨b0, #[.slice ad l.length cap], 44⟩]) := by
  obtain ⟨b, off, cs, T0, fz, kv, xv, hbe, hb, hcs, hk, hx⟩ := EntAt.at hl hne
  cases hbe
  refine enter (args := [.agg #[.int .u64 ((q.1 : Nat) : Int), qk, qx], .pointer (some ⟨b0, 0, none⟩)]) Tryd.func81 rfl rfl fun w0 hs0 => ?_
  refine wp_seq_k fun K1 hK2 => ?_
  refine wl_begin ?_
  refine sqo rfl fun K3 hK4 => ow_newbox (mk := fun b => .pointer (some ⟨b, 0, none⟩)) hs0 (r_box rfl rfl) rfl ?_
  rintro b5 w6 (hs7 : St w0 I (ids [⟨b0, #[.slice (some ⟨b, off, none⟩) l.length cap], 44⟩]) I [⟨b5, #[.int .u64 ((q.1 : Nat) : Int), qk, qx], 58⟩, ⟨b0, #[.slice (some ⟨b, off, none⟩) l.length cap], 44⟩] w6)
  clear hs0
  refine hK4 _ _ ?_; clear hK4 K3
  refine sq (r_assign rfl) rfl ?_
  refine wl_nil ?_
  refine hK2 _ _ ?_; (try clear hK2 K1)
  refine wp_seq_k fun K8 hK9 => ?_
  refine draw_begin (S := SS I [⟨b5, #[.int .u64 ((q.1 : Nat) : Int), qk, qx], 58⟩, ⟨b0, #[.slice (some ⟨b, off, none⟩) l.length cap], 44⟩]) (by kernel_rfl) ?_
  have hs10 := hs7.drew; clear hs7
  have hss := hs10.ss (I := I) (GH.le.refl _) (fun _ h => h)
  refine dt 0 rfl (by kernel_rfl) (fun _ _ _ h => h) hss (fun _ h => (r_fieldAddr (off := 0) rfl (by kernel_rfl) rfl)) rfl ?_
  refine dt 1 rfl (by kernel_rfl) (fun _ _ _ h => h) hss (fun _ h => r_load rfl (by kernel_rfl) rfl (h.box (.head _)) rfl) rfl ?_
  refine dt 2 rfl (by kernel_rfl) (fun _ _ _ h => h) hss (fun _ h => r_load rfl (by kernel_rfl) rfl (h.box (.tail _ (.head _))) rfl) rfl ?_
  refine dt 3 rfl (by kernel_rfl) (fun _ _ _ h => h) hss (fun _ h => (r_index (e := 58) (sz := 3) (i := 0) rfl rfl (by kernel_rfl) rfl rfl hne)) rfl ?_
  refine dt 4 rfl (by kernel_rfl) (fun _ _ _ h => h) hss (fun _ h => (r_fieldAddr (off := 0) rfl (by kernel_rfl) rfl)) rfl ?_
  refine dt 5 rfl (by kernel_rfl) (fun _ _ _ h => h) hss (fun _ h => (r_load rfl (by kernel_rfl) rfl (h.imm hb) (take3 hcs).1)) rfl ?_
  refine dt 6 rfl (by kernel_rfl) (fun _ _ _ h => h) hss (fun _ h => (r_neN (a := q.1) (b := (l[0]'hne).1) rfl rfl rfl rfl)) rfl ?_
  refine dt 7 rfl (by kernel_rfl) (fun _ _ _ h => h) hss (fun _ h => r_assign rfl) rfl ?_
  refine draw_done (by kernel_rfl) ?_
  refine hK9 _ _ ?_; (try clear hK9 K8)
  refine wp_ret ?_
  have hs11 : St w0 I (ids [⟨b0, #[.slice (some ⟨b, off, none⟩) l.length cap], 44⟩]) I [⟨b0, #[.slice (some ⟨b, off, none⟩) l.length cap], 44⟩, ⟨b5, #[.int .u64 ((q.1 : Nat) : Int), qk, qx], 58⟩] (w6.drew) := hs10.perm (List.Perm.trans ((List.Perm.refl _).cons _) (List.Perm.swap _ _ _)); clear hs10
  exact leave (X' := [⟨b0, #[.slice (some ⟨b, off, none⟩) l.length cap], 44⟩]) (L := [⟨b5, #[.int .u64 ((q.1 : Nat) : Int), qk, qx], 58⟩]) hs11 rfl (res_one (v := .bool (!(decide (q.1 = (l[0]'hne).1)))) rfl (.tmp rfl rfl .nil)) ⟨by rw [head0 hne], rfl, rfl⟩
theorem mix_no {l : EL} (h : ∀ j, (hj : j < l.length) → j < l.length → (l[j]'hj).1 = (l.headD (0, [], [])).1) : decide ((-1 : Int) ≥ 0) = mixB l := by
  have : mixB l = false := by
    unfold mixB
    rw [List.any_eq_false]
    intro p hp
    obtain ⟨j, hj, rfl⟩ := List.getElem_of_mem hp
    simp [h j hj hj]
  rw [this]; rfl
theorem mix_yes {l : EL} {k : Nat} (hk : k < l.length) (h : ¬ (l[k]'hk).1 = (l.headD (0, [], [])).1) : decide (((k : Nat) : Int) ≥ 0) = mixB l := by
  have : mixB l = true := by
    unfold mixB
    rw [List.any_eq_true]
    exact ⟨_, List.getElem_mem hk, by simpa using h⟩
  rw [this, decide_eq_true_iff]; omega
set_option maxRecDepth 100000 in
theorem ifunc_ok {I : GH} {b0 cap : Nat} {ad : Option Addr} {l : EL} (hl : EntAt I (.slice ad l.length cap) l) (hh : ∀ p ∈ l, p.1 < 2 ^ 64) (hsm : Sm (l.map (·.2))) (hll : l.length ≤ 1000000) :
    Fn Tryd.prog 110 #[.slice ad l.length cap, .func (.func 81) #[] #[.pointer (some ⟨b0, 0, none⟩)]] I [⟨b0, #[.slice ad l.length cap], 44⟩] (fun v J X => ∃ z : Int, v = .int .i64 z ∧ decide (z ≥ 0) = mixB l ∧ I = J ∧ X = [⟨b0, #[.slice ad l.length cap], 44⟩]) := by
  refine enter (args := [.slice ad l.length cap, .func (.func 81) #[] #[.pointer (some ⟨b0, 0, none⟩)]]) Tryd.func110 rfl rfl fun w0 hs0 => ?_
  refine wp_seq_k fun K1 hK2 => ?_
  refine wl_begin ?_
  refine sq (r_assign rfl) rfl ?_
  refine wl_nil ?_
  refine hK2 _ _ ?_; (try clear hK2 K1)
  refine wp_seq_k fun K3 hK4 => ?_
  refine wp_seq_k fun K5 hK6 => ?_
  refine wl_begin ?_
  refine sq (r_move rfl) rfl ?_
  refine sq (r_lens rfl (by kernel_rfl) rfl) rfl ?_
  refine sq (r_move rfl) rfl ?_
  refine wl_nil ?_
  refine hK6 _ _ ?_; (try clear hK6 K5)
  refine wp_block ?_
  refine lp (σ := Nat) (fun m8 f9 w10 => ∃ (g7 : Nat → Value) (k : Nat), m8 = l.length - k ∧ f9 = updL g7 [(0, .slice ad l.length cap), (1, .func (.func 81) #[] #[.pointer (some ⟨b0, 0, none⟩)]), (7, .int .i64 ((l.length : Nat) : Int)), (8, .int .i64 ((k : Nat) : Int))] ∧ (k ≤ l.length) ∧ (∀ j, (hj : j < l.length) → j < k → (l[j]'hj).1 = (l.headD (0, [], [])).1) ∧ St w0 I (ids [⟨b0, #[.slice ad l.length cap], 44⟩]) I [⟨b0, #[.slice ad l.length cap], 44⟩] w10) (fun m => m) (l.length) ⟨_, 0, rfl, updL_self (.cons rfl (.cons rfl (.cons rfl (.cons rfl .nil)))), (Nat.zero_le _), (fun j _ h => absurd h (Nat.not_lt_zero _)), hs0⟩ ?_
  clear hs0
  rintro m8 f9 w10 ⟨g7, k, rfl, rfl, hkl, hn, hs11⟩
  refine wp_seq_k fun K12 hK13 => ?_
  refine wl_begin ?_
  refine sq (r_lti rfl rfl rfl rfl) rfl ?_
  refine wl_nil ?_
  refine hK13 _ _ ?_; (try clear hK13 K12)
  refine wp_seq_k fun K14 hK15 => ?_
  refine condS rfl rfl (fun h16 => ?_) (fun h16 => ?_)
  ·
    have p17 := of_decide_eq_true h16
    have hlt : k < l.length := by omega
    obtain ⟨b, off, cs, T0, fz, kv, xv, hbe, hb, hcs, hk, hx⟩ := EntAt.at hl hlt
    cases hbe
    refine wp_skip ?_
    refine hK15 _ _ ?_; (try clear hK15 K14)
    refine wp_seq_k fun K18 hK19 => ?_
    refine wp_block ?_
    refine wp_seq_k fun K20 hK21 => ?_
    refine wl_begin ?_
    refine sq (r_move rfl) rfl ?_
    refine sq (r_assign rfl) rfl ?_
    refine wl_nil ?_
    refine hK21 _ _ ?_; (try clear hK21 K20)
    refine wp_seq_k fun K22 hK23 => ?_
    refine wl_begin ?_
    refine sq (r_move rfl) rfl ?_
    refine sq (r_move rfl) rfl ?_
    refine sq (r_move rfl) rfl ?_
    refine sq (r_index (e := 58) (sz := 3) (i := k) rfl rfl (by kernel_rfl) rfl rfl hlt) rfl ?_
    refine sq (r_loadN (m := 3) (vs := [.int .u64 (((l[k]'hlt).1 : Nat) : Int), kv, xv]) rfl (by kernel_rfl) rfl (hs11.imm hb) hcs rfl) rfl ?_
    refine sqo rfl fun K24 hK25 => ow_call (X := [⟨b0, #[.slice (some ⟨b, off, none⟩) l.length cap], 44⟩]) (L := []) (lb := [.pointer (some ⟨b0, 0, none⟩)]) hs11 (lay1_ok (q := l[k]'hlt) hl (Nat.lt_of_le_of_lt (Nat.zero_le _) hlt) hh hsm (hh _ (List.getElem_mem hlt)) hk hx) (by kernel_rfl) rfl rfl rfl rfl rfl ?_
    rintro _ _ X1 w26 ⟨rfl, rfl, rfl⟩ - hs27 hid28
    replace hs27 : St w0 I (ids [⟨b0, #[.slice (some ⟨b, off, none⟩) l.length cap], 44⟩]) I [⟨b0, #[.slice (some ⟨b, off, none⟩) l.length cap], 44⟩] w26 := hs27
    clear hs11 hid28
    refine hK25 _ _ ?_; clear hK25 K24
    refine wl_nil ?_
    refine hK23 _ _ ?_; (try clear hK23 K22)
    refine condS rfl rfl (fun h29 => ?_) (fun h29 => ?_)
    ·
      have h30 : (decide ((l[k]'hlt).1 = (l.headD (0, [], [])).1)) = false := by simpa using h29
      have p31 := of_decide_eq_false h30
      refine wp_seq_k fun K32 hK33 => ?_
      refine nrm (vals := [(0, .slice (some ⟨b, off, none⟩) l.length cap), (1, .func (.func 81) #[] #[.pointer (some ⟨b0, 0, none⟩)]), (5, .int .i64 ((k : Nat) : Int)), (7, .int .i64 ((l.length : Nat) : Int)), (8, .int .i64 ((k : Nat) : Int)), (9, .bool (decide (((k : Nat) : Int) < ((l.length : Nat) : Int)))), (16, .bool (!(decide ((l[k]'hlt).1 = (l.headD (0, [], [])).1))))]) (.cons rfl (.cons rfl (.cons rfl (.cons rfl (.cons rfl (.cons rfl (.cons rfl .nil))))))) fun g34 => ?_
      refine wl_begin ?_
      refine sq (r_move rfl) rfl ?_
      refine sq (r_assign rfl) rfl ?_
      refine wl_nil ?_
      refine hK33 _ _ ?_; (try clear hK33 K32)
      refine wp_ret ?_
      exact leave (X' := [⟨b0, #[.slice (some ⟨b, off, none⟩) l.length cap], 44⟩]) (L := []) hs27 rfl (res_one (v := .int .i64 ((k : Nat) : Int)) rfl (.tmp rfl rfl .nil)) ⟨_, rfl, mix_yes hlt (by simpa using h29), rfl, rfl⟩
    ·
      have h35 : (decide ((l[k]'hlt).1 = (l.headD (0, [], [])).1)) = true := by simpa using h29
      have p36 := of_decide_eq_true h35
      refine wp_skip ?_
      refine hK19 _ _ ?_; (try clear hK19 K18)
      refine nrm (vals := [(0, .slice (some ⟨b, off, none⟩) l.length cap), (1, .func (.func 81) #[] #[.pointer (some ⟨b0, 0, none⟩)]), (5, .int .i64 ((k : Nat) : Int)), (7, .int .i64 ((l.length : Nat) : Int)), (8, .int .i64 ((k : Nat) : Int)), (9, .bool (decide (((k : Nat) : Int) < ((l.length : Nat) : Int)))), (16, .bool (!(decide ((l[k]'hlt).1 = (l.headD (0, [], [])).1))))]) (.cons rfl (.cons rfl (.cons rfl (.cons rfl (.cons rfl (.cons rfl (.cons rfl .nil))))))) fun g37 => ?_
      refine wl_begin ?_
      refine sq (r_addi rfl rfl rfl rfl (by omega)) rfl ?_
      refine sq (r_move rfl) rfl ?_
      refine wl_nil ?_
      exact ⟨_, _, rfl, ⟨_, (k + 1), rfl, updL_self (.cons rfl (.cons rfl (.cons rfl (.cons rfl .nil)))), (by omega), (fun j hj hjk => if h : j < k then hn j hj h else by obtain rfl : j = k := (by omega); simpa using h29), hs27⟩, (by omega)⟩
  ·
    have p38 := of_decide_eq_false h16
    obtain rfl : k = l.length := by omega
    refine wp_exit ?_
    refine hK4 _ _ ?_; (try clear hK4 K3)
    refine wp_seq_k fun K39 hK40 => ?_
    refine wl_begin ?_
    refine sq (r_assign rfl) rfl ?_
    refine wl_nil ?_
    refine hK40 _ _ ?_; (try clear hK40 K39)
    refine wp_ret ?_
    exact leave (X' := [⟨b0, #[.slice ad l.length cap], 44⟩]) (L := []) hs11 rfl (res_one (v := .int .i64 (-1)) rfl (.tmp rfl rfl .nil)) ⟨_, rfl, mix_no hn, rfl, rfl⟩
set_option maxRecDepth 100000 in
theorem cfunc_ok {I : GH} {b0 cap : Nat} {ad : Option Addr} {l : EL} (hl : EntAt I (.slice ad l.length cap) l) (hh : ∀ p ∈ l, p.1 < 2 ^ 64) (hsm : Sm (l.map (·.2))) (hll : l.length ≤ 1000000) :
    Fn Tryd.prog 80 #[.slice ad l.length cap, .func (.func 81) #[] #[.pointer (some ⟨b0, 0, none⟩)]] I [⟨b0, #[.slice ad l.length cap], 44⟩] (fun v J X => v = .bool (mixB l) ∧ I = J ∧ X = [⟨b0, #[.slice ad l.length cap], 44⟩]) := by
  refine enter (args := [.slice ad l.length cap, .func (.func 81) #[] #[.pointer (some ⟨b0, 0, none⟩)]]) Tryd.func80 rfl rfl fun w0 hs0 => ?_
  refine wp_seq_k fun K1 hK2 => ?_
  refine wl_begin ?_
  refine sq (r_assign rfl) rfl ?_
  refine wl_nil ?_
  refine hK2 _ _ ?_; (try clear hK2 K1)
  refine wp_seq_k fun K3 hK4 => ?_
  refine wl_begin ?_
  refine sq (r_move rfl) rfl ?_
  refine sq (r_move rfl) rfl ?_
  refine sqo rfl fun K5 hK6 => ow_call (X := [⟨b0, #[.slice ad l.length cap], 44⟩]) (L := []) (lb := []) hs0 (ifunc_ok hl hh hsm hll) (by kernel_rfl) rfl rfl rfl rfl rfl ?_
  rintro _ _ X1 w7 ⟨z, rfl, hz, rfl, rfl⟩ - hs8 hid9
  replace hs8 : St w0 I (ids [⟨b0, #[.slice ad l.length cap], 44⟩]) I [⟨b0, #[.slice ad l.length cap], 44⟩] w7 := hs8
  clear hs0 hid9
  refine hK6 _ _ ?_; clear hK6 K5
  refine sq (r_gei rfl rfl rfl rfl) rfl ?_
  refine sq (r_assign rfl) rfl ?_
  refine wl_nil ?_
  refine hK4 _ _ ?_; (try clear hK4 K3)
  refine wp_ret ?_
  exact leave (X' := [⟨b0, #[.slice ad l.length cap], 44⟩]) (L := []) hs8 rfl (res_one (v := .bool (decide (0 ≤ z))) rfl (.tmp rfl rfl .nil)) ⟨by rw [← hz], rfl, rfl⟩
end Go.Proofs.YtlnlodfnplkckaaDoor
