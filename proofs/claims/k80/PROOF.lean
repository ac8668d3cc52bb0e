import PyProof.Rows.All
import Wide.All
import OpenK.AllK
import Wide.FinOn
import HandS.ForMost
import HandS.Walk
import HandS.Zip
import HandS.TupAny
import HandS.IsInst
import HandS.SetFor
import HandS.TupLen
import KE.GoesEnum
import KE.KDictPairs
import KE.KEqDict
import HandS.NoneIn
import HandS.Defaults
import PySem.Challenge.RW_orderrows_k80_whole_laid_and_stretched
import HandS.Codes
set_option Elab.async false
set_option linter.all false
set_option maxRecDepth 100000
set_option maxHeartbeats 4000000
/-! The plain law: windows, distinct choices, coverings, the shortest stretch. No program in sight. -/
namespace K80

/-- windows of k -/
def wins (k : Nat) (ns : List Int) : List (List Int) := (List.range (ns.length + 1 - k)).map fun i => (ns.drop i).take k

theorem wins_length (k : Nat) (ns : List Int) : (wins k ns).length = ns.length + 1 - k := by
  unfold wins; rw [List.length_map, List.length_range]

theorem wins_get {k : Nat} {ns : List Int} {i : Nat} (h : i < ns.length + 1 - k) : (wins k ns)[i]? = some ((ns.drop i).take k) := by
  unfold wins
  rw [List.getElem?_map, List.getElem?_range h]
  rfl

theorem wins_getE {k : Nat} {ns : List Int} {i : Nat} {w : List Int} (h : (wins k ns)[i]? = some w) : i < ns.length + 1 - k ∧ w = (ns.drop i).take k := by
  have hl : i < (wins k ns).length := (List.getElem?_eq_some_iff.mp h).1
  rw [wins_length] at hl
  refine ⟨hl, ?_⟩
  rw [wins_get hl] at h
  exact (Option.some.inj h).symm

theorem wins_len {k : Nat} {ns : List Int} {w : List Int} (hk : 1 ≤ k) (h : w ∈ wins k ns) : w.length = k := by
  obtain ⟨i, hi⟩ := List.mem_iff_getElem?.mp h
  obtain ⟨h1, rfl⟩ := wins_getE hi
  rw [List.length_take, List.length_drop]
  omega

theorem wins_sub {k : Nat} {ns : List Int} {w : List Int} (h : w ∈ wins k ns) : ∀ x ∈ w, x ∈ ns := by
  obtain ⟨i, hi⟩ := List.mem_iff_getElem?.mp h
  obtain ⟨h1, rfl⟩ := wins_getE hi
  intro x hx
  exact List.mem_of_mem_drop (List.mem_of_mem_take hx)

/-! ### the distinct windows of unlike things, in the order in which they first stand -/
def stp (acc : List (List Int)) (w : List Int) : List (List Int) := if w ∈ acc ∨ ¬ w.Nodup then acc else acc ++ [w]
def SS (W : List (List Int)) : List (List Int) := W.foldl stp []

theorem SS_snoc (W : List (List Int)) (w : List Int) : SS (W ++ [w]) = stp (SS W) w := by
  unfold SS; rw [List.foldl_append]; rfl
theorem SS_take {W : List (List Int)} {i : Nat} {w : List Int} (h : W[i]? = some w) : SS (W.take (i + 1)) = stp (SS (W.take i)) w := by
  rw [List.take_add_one, h]
  exact SS_snoc _ _
theorem SS_nil : SS [] = [] := rfl

theorem rev_ind {α : Type} {P : List α → Prop} (h0 : P []) (hs : ∀ l a, P l → P (l ++ [a])) (l : List α) : P l := by
  have h : ∀ r : List α, P r.reverse := by
    intro r
    induction r with
    | nil => exact h0
    | cons a r ih => rw [List.reverse_cons]; exact hs _ _ ih
  have := h l.reverse
  rw [List.reverse_reverse] at this
  exact this

theorem nodup_snoc {α : Type} {l : List α} {a : α} (h : l.Nodup) (ha : ¬ a ∈ l) : (l ++ [a]).Nodup := by
  refine List.nodup_append.mpr ⟨h, by simp, fun x hx y hy => ?_⟩
  intro e
  have : y = a := by simpa using hy
  exact ha (by rw [← this, ← e]; exact hx)

theorem SS_nodup (W : List (List Int)) : (SS W).Nodup := by
  refine rev_ind (P := fun W => (SS W).Nodup) List.nodup_nil (fun l a ih => ?_) W
  rw [SS_snoc]
  unfold stp
  by_cases h : a ∈ SS l ∨ ¬ a.Nodup
  · rw [if_pos h]; exact ih
  · rw [if_neg h]
    exact nodup_snoc ih (fun z => h (.inl z))

theorem SS_mem (W : List (List Int)) : ∀ w, w ∈ SS W ↔ w ∈ W ∧ w.Nodup := by
  refine rev_ind (P := fun W => ∀ w, w ∈ SS W ↔ w ∈ W ∧ w.Nodup) (fun w => by simp [SS]) (fun l a ih w => ?_) W
  rw [SS_snoc]
  unfold stp
  by_cases h : a ∈ SS l ∨ ¬ a.Nodup
  · rw [if_pos h, ih w, List.mem_append, List.mem_singleton]
    constructor
    · rintro ⟨h1, h2⟩; exact ⟨.inl h1, h2⟩
    · rintro ⟨h1 | h1, h2⟩
      · exact ⟨h1, h2⟩
      · subst h1
        rcases h with h | h
        · exact (ih w).mp h
        · exact absurd h2 h
  · rw [if_neg h, List.mem_append, List.mem_singleton, List.mem_append, List.mem_singleton, ih w]
    constructor
    · rintro (⟨h1, h2⟩ | h1)
      · exact ⟨.inl h1, h2⟩
      · subst h1
        refine ⟨.inr rfl, ?_⟩
        exact Classical.byContradiction fun z => h (.inr z)
    · rintro ⟨h1 | h1, h2⟩
      · exact .inl ⟨h1, h2⟩
      · exact .inr h1

theorem SS_length (W : List (List Int)) : (SS W).length ≤ W.length := by
  refine rev_ind (P := fun W => (SS W).length ≤ W.length) (Nat.le_refl 0) (fun l a ih => ?_) W
  rw [SS_snoc]
  unfold stp
  split
  · rw [List.length_append]; omega
  · rw [List.length_append, List.length_append]; simp; omega

/-! ### how often a window stands from place f on ahead of l -/
def seg (W : List (List Int)) (f l : Nat) : List (List Int) := (W.drop f).take (l - f)
def cnt (W : List (List Int)) (f l : Nat) (w : List Int) : Nat := (seg W f l).count w
def covers (S W : List (List Int)) (f l : Nat) : Prop := ∀ w ∈ S, w ∈ seg W f l
def lackN (S W : List (List Int)) (f l : Nat) : Nat := S.countP fun w => cnt W f l w == 0

theorem mem_seg {W : List (List Int)} {f l : Nat} {w : List Int} : w ∈ seg W f l ↔ ∃ i, f ≤ i ∧ i < l ∧ W[i]? = some w := by
  unfold seg
  constructor
  · intro h
    obtain ⟨j, hj⟩ := List.mem_iff_getElem?.mp h
    rw [List.getElem?_take] at hj
    split at hj
    · rename_i hlt
      rw [List.getElem?_drop] at hj
      exact ⟨f + j, by omega, by omega, hj⟩
    · cases hj
  · rintro ⟨i, h1, h2, h3⟩
    refine List.mem_iff_getElem?.mpr ⟨i - f, ?_⟩
    rw [List.getElem?_take, if_pos (by omega), List.getElem?_drop, show f + (i - f) = i by omega]
    exact h3

theorem cnt_zero {W : List (List Int)} {f l : Nat} {w : List Int} : cnt W f l w = 0 ↔ ¬ w ∈ seg W f l := List.count_eq_zero

theorem seg_succ {W : List (List Int)} {f l : Nat} {w : List Int} (hf : f ≤ l) (h : W[l]? = some w) : seg W f (l + 1) = seg W f l ++ [w] := by
  unfold seg
  rw [show l + 1 - f = (l - f) + 1 by omega, List.take_add_one, List.getElem?_drop, show f + (l - f) = l by omega, h]
  rfl
theorem seg_tail {W : List (List Int)} {f l : Nat} {w : List Int} (hf : f < l) (h : W[f]? = some w) : seg W f l = w :: seg W (f + 1) l := by
  unfold seg
  have hl : f < W.length := (List.getElem?_eq_some_iff.mp h).1
  have e : W[f] = w := (List.getElem?_eq_some_iff.mp h).2
  rw [List.drop_eq_getElem_cons hl, e, show l - f = (l - (f + 1)) + 1 by omega, List.take_succ_cons]

theorem cnt_succ {W : List (List Int)} {f l : Nat} {w : List Int} (hf : f ≤ l) (h : W[l]? = some w) (x : List Int) : cnt W f (l + 1) x = cnt W f l x + if x = w then 1 else 0 := by
  unfold cnt
  rw [seg_succ hf h, List.count_append, List.count_singleton]
  by_cases e : x = w
  · rw [if_pos e, if_pos (by simp [e])]
  · rw [if_neg e, if_neg (by simpa using fun z => e z.symm)]
theorem cnt_tail {W : List (List Int)} {f l : Nat} {w : List Int} (hf : f < l) (h : W[f]? = some w) (x : List Int) : cnt W f l x = cnt W (f + 1) l x + if x = w then 1 else 0 := by
  unfold cnt
  rw [seg_tail hf h, List.count_cons]
  by_cases e : x = w
  · rw [if_pos e, if_pos (by simp [e])]
  · rw [if_neg e, if_neg (by simpa using fun z => e z.symm)]

theorem lack_zero {S W : List (List Int)} {f l : Nat} : lackN S W f l = 0 ↔ covers S W f l := by
  unfold lackN covers
  rw [List.countP_eq_zero]
  constructor
  · intro h w hw
    have := h w hw
    refine Classical.byContradiction fun z => this ?_
    rw [beq_iff_eq]
    exact cnt_zero.mpr z
  · intro h w hw z
    rw [beq_iff_eq] at z
    exact cnt_zero.mp z (h w hw)

/-- one item turns -/
theorem countP_turn {α : Type} {S : List α} {p q : α → Bool} {w : α} (hn : S.Nodup) (hw : w ∈ S) (hp : p w = true) (hq : q w = false) (h : ∀ x ∈ S, x ≠ w → q x = p x) : S.countP q + 1 = S.countP p := by
  induction S with
  | nil => cases hw
  | cons a S ih =>
    obtain ⟨h1, h2⟩ := List.nodup_cons.mp hn
    by_cases e : a = w
    · subst e
      have e2 : S.countP q = S.countP p := List.countP_congr fun x hx => by
        have ne : x ≠ a := fun z => h1 (z ▸ hx)
        rw [h x (List.mem_cons_of_mem _ hx) ne]
      rw [List.countP_cons_of_pos hp, List.countP_cons_of_neg (by rw [hq]; exact Bool.false_ne_true), e2]
    · have hw' : w ∈ S := by
        rcases List.mem_cons.mp hw with z | z
        · exact absurd z.symm e
        · exact z
      have q1 := ih h2 hw' fun x hx => h x (List.mem_cons_of_mem _ hx)
      have ea : q a = p a := h a List.mem_cons_self e
      rw [List.countP_cons, List.countP_cons, ea]
      omega
theorem countP_same {α : Type} {S : List α} {p q : α → Bool} (h : ∀ x ∈ S, q x = p x) : S.countP q = S.countP p := List.countP_congr fun x hx => by rw [h x hx]

/-- the next window: what lacks -/
theorem lack_add {S W : List (List Int)} {f l : Nat} {w : List Int} (hn : S.Nodup) (hf : f ≤ l) (h : W[l]? = some w) (hw : w ∈ S) (h0 : cnt W f l w = 0) : lackN S W f (l + 1) + 1 = lackN S W f l := by
  unfold lackN
  refine countP_turn hn hw (by simp [h0]) ?_ fun x _ ne => ?_
  · rw [cnt_succ hf h, if_pos rfl]; simp
  · rw [cnt_succ hf h, if_neg ne, Nat.add_zero]
theorem lack_keep {S W : List (List Int)} {f l : Nat} {w : List Int} (hf : f ≤ l) (h : W[l]? = some w) (hw : w ∈ S → cnt W f l w ≠ 0) : lackN S W f (l + 1) = lackN S W f l := by
  unfold lackN
  refine countP_same fun x hx => ?_
  rw [cnt_succ hf h]
  by_cases e : x = w
  · subst e
    have := hw hx
    rw [if_pos rfl]
    rw [Bool.eq_iff_iff, beq_iff_eq, beq_iff_eq]
    omega
  · rw [if_neg e, Nat.add_zero]
theorem lack_start (S W : List (List Int)) : lackN S W 0 0 = S.length := by
  unfold lackN
  rw [List.countP_eq_length]
  intro w _
  simp [cnt, seg]

theorem covers_grow {S W : List (List Int)} {f l : Nat} (h : covers S W f l) : covers S W f (l + 1) := fun w hw => by
  obtain ⟨i, h1, h2, h3⟩ := mem_seg.mp (h w hw)
  exact mem_seg.mpr ⟨i, h1, by omega, h3⟩
theorem covers_wide {S W : List (List Int)} {f f' l l' : Nat} (hf : f' ≤ f) (hl : l ≤ l') (h : covers S W f l) : covers S W f' l' := fun w hw => by
  obtain ⟨i, h1, h2, h3⟩ := mem_seg.mp (h w hw)
  exact mem_seg.mpr ⟨i, by omega, by omega, h3⟩
/-- a first window that stands again, or is none that is wanted, may go -/
theorem covers_shrink {S W : List (List Int)} {f l : Nat} {w : List Int} (hf : f < l) (h : W[f]? = some w) (hc : covers S W f l) (h2 : w ∈ S → 1 < cnt W f l w) : covers S W (f + 1) l := fun x hx => by
  by_cases e : x = w
  · subst e
    have q := h2 hx
    rw [cnt_tail hf h, if_pos rfl] at q
    refine Classical.byContradiction fun z => ?_
    rw [cnt_zero.mpr z] at q
    omega
  · have := hc x hx
    rw [seg_tail hf h] at this
    rcases List.mem_cons.mp this with z | z
    · exact absurd z e
    · exact z
/-- and else it may not -/
theorem covers_stop {S W : List (List Int)} {f f' l : Nat} {w : List Int} (hf : f < l) (h : W[f]? = some w) (hw : w ∈ S) (h1 : cnt W f l w ≤ 1) (hc : covers S W f' l) : f' ≤ f := by
  refine Classical.byContradiction fun z => ?_
  have q := covers_wide (f' := f + 1) (by omega) (Nat.le_refl l) hc w hw
  rw [cnt_tail hf h, if_pos rfl] at h1
  exact cnt_zero.mp (by omega) q

/-! ### the shortest stretch, the first of several -/
def Best (S W : List (List Int)) (k l bf bm : Nat) : Prop :=
  (bm = 0 ∧ bf = 0 ∧ (S = [] ∨ ∀ f' l', f' ≤ l' → l' < l → ¬ covers S W f' (l' + 1))) ∨
  (S ≠ [] ∧ ∃ bl, bf ≤ bl ∧ bl < l ∧ bm = bl - bf + k ∧ covers S W bf (bl + 1) ∧ ∀ f' l', f' ≤ l' → l' < l → covers S W f' (l' + 1) → (bl - bf < l' - f' ∨ (bl - bf = l' - f' ∧ bf ≤ f')))
/-- what least_stretch tells of the windows W of k -/
def LSpec (k : Nat) (W : List (List Int)) (bf bm : Nat) : Prop :=
  (SS W = [] ∧ bf = 0 ∧ bm = 0) ∨
  (SS W ≠ [] ∧ ∃ bl, bf ≤ bl ∧ bl < W.length ∧ bm = bl - bf + k ∧ covers (SS W) W bf (bl + 1) ∧ ∀ f' l', f' ≤ l' → l' < W.length → covers (SS W) W f' (l' + 1) → (bl - bf < l' - f' ∨ (bl - bf = l' - f' ∧ bf ≤ f')))

theorem best_start (S W : List (List Int)) (k : Nat) : Best S W k 0 0 0 := .inl ⟨rfl, rfl, .inr fun _ _ _ h => absurd h (Nat.not_lt_zero _)⟩
/-- no window of the turn's end covers -/
theorem best_keep {S W : List (List Int)} {k l f bf bm : Nat} (b : Best S W k l bf bm) (hn : S = [] ∨ ¬ covers S W f (l + 1)) (hf : S = [] ∨ f = 0) : Best S W k (l + 1) bf bm := by
  rcases b with ⟨h1, h2, h3⟩ | ⟨hS, bl, h1, h2, h3, h4, h5⟩
  · refine .inl ⟨h1, h2, ?_⟩
    rcases h3 with h3 | h3
    · exact .inl h3
    · rcases hn with hn | hn
      · exact .inl hn
      · rcases hf with hf | hf
        · exact .inl hf
        · refine .inr fun f' l' a1 a2 a3 => ?_
          by_cases e : l' < l
          · exact h3 f' l' a1 e a3
          · have : l' = l := by omega
            subst this
            exact hn (covers_wide (by omega) (Nat.le_refl _) a3)
  · refine .inr ⟨hS, bl, h1, by omega, h3, h4, fun f' l' a1 a2 a3 => ?_⟩
    by_cases e : l' < l
    · exact h5 f' l' a1 e a3
    · have : l' = l := by omega
      subst this
      rcases hn with hn | hn
      · exact absurd hn hS
      · rcases hf with hf | hf
        · exact absurd hf hS
        · exact absurd (covers_wide (by omega) (Nat.le_refl _) a3) hn
/-- the turn's end covers from f on, not shorter than the best -/
theorem best_same {S W : List (List Int)} {k l f bf bm : Nat} (b : Best S W k l bf bm) (hm : ∀ f', f' ≤ l → covers S W f' (l + 1) → f' ≤ f) (hf : f ≤ l) (h0 : bm ≠ 0) (hk : bm ≤ l - f + k) : Best S W k (l + 1) bf bm := by
  rcases b with ⟨h1, h2, h3⟩ | ⟨hS, bl, h1, h2, h3, h4, h5⟩
  · exact absurd h1 h0
  · refine .inr ⟨hS, bl, h1, by omega, h3, h4, fun f' l' a1 a2 a3 => ?_⟩
    by_cases e : l' < l
    · exact h5 f' l' a1 e a3
    · have e2 : l' = l := by omega
      subst e2
      have := hm f' a1 a3
      by_cases q : bl - bf < l' - f'
      · exact .inl q
      · refine .inr ⟨by omega, by omega⟩
/-- the turn's end covers from f on, shorter -/
theorem best_new {S W : List (List Int)} {k l f bf bm : Nat} (b : Best S W k l bf bm) (hS : S ≠ []) (hc : covers S W f (l + 1)) (hm : ∀ f', f' ≤ l → covers S W f' (l + 1) → f' ≤ f) (hf : f ≤ l) (hk : bm = 0 ∨ l - f + k < bm) (k1 : 1 ≤ k) : Best S W k (l + 1) f (l - f + k) := by
  refine .inr ⟨hS, l, hf, by omega, rfl, hc, fun f' l' a1 a2 a3 => ?_⟩
  by_cases e : l' < l
  · rcases b with ⟨h1, h2, h3⟩ | ⟨_, bl, h1, h2, h3, h4, h5⟩
    · rcases h3 with h3 | h3
      · exact absurd h3 hS
      · exact absurd a3 (h3 f' l' a1 e)
    · have := h5 f' l' a1 e a3
      left
      omega
  · have e2 : l' = l := by omega
    subst e2
    have := hm f' a1 a3
    by_cases q : l' - f < l' - f'
    · exact .inl q
    · exact .inr ⟨by omega, by omega⟩
theorem covers_all (W : List (List Int)) : covers (SS W) W 0 W.length := fun w hw => by
  have := ((SS_mem W w).mp hw).1
  unfold seg
  rw [List.drop_zero, Nat.sub_zero, List.take_length]
  exact this
theorem best_end {W : List (List Int)} {k bf bm : Nat} (b : Best (SS W) W k W.length bf bm) : LSpec k W bf bm := by
  rcases b with ⟨h1, h2, h3⟩ | b
  · refine .inl ⟨?_, h2, h1⟩
    rcases h3 with h3 | h3
    · exact h3
    · refine Classical.byContradiction fun z => ?_
      have hl : 0 < W.length := by
        cases W with
        | nil => exact absurd rfl z
        | cons _ _ => simp
      refine h3 0 (W.length - 1) (Nat.zero_le _) (by omega) ?_
      rw [show W.length - 1 + 1 = W.length by omega]
      exact covers_all W
  · exact .inr b
theorem LSpec.uniq {k : Nat} {W : List (List Int)} {a b a' b' : Nat} (h : LSpec k W a b) (h' : LSpec k W a' b') : a = a' ∧ b = b' := by
  rcases h with ⟨h1, h2, h3⟩ | ⟨h1, bl, h2, h3, h4, h5, h6⟩
  · rcases h' with ⟨g1, g2, g3⟩ | ⟨g1, _⟩
    · exact ⟨by omega, by omega⟩
    · exact absurd h1 g1
  · rcases h' with ⟨g1, g2, g3⟩ | ⟨g1, bl', g2, g3, g4, g5, g6⟩
    · exact absurd g1 h1
    · have p := h6 a' bl' g2 g3 g5
      have q := g6 a bl h2 h3 h5
      omega
end K80
/-! The plain law, second part: stretches of rows, what a stretch tells of itself, rows inside rows. -/
namespace K80
/-! ### windows of a stretch -/
theorem wins_cut {k bf bl : Nat} {ns : List Int} (hk : 1 ≤ k) (h1 : bf ≤ bl) (h2 : bl < ns.length + 1 - k) :
    wins k ((ns.drop bf).take (bl - bf + k)) = seg (wins k ns) bf (bl + 1) := by
  refine List.ext_getElem? fun i => ?_
  have hl : ((ns.drop bf).take (bl - bf + k)).length = bl - bf + k := by
    rw [List.length_take, List.length_drop]; omega
  by_cases hi : i < bl - bf + 1
  · rw [wins_get (by rw [hl]; omega)]
    unfold seg
    rw [List.getElem?_take, if_pos (by omega), List.getElem?_drop, wins_get (by omega)]
    congr 1
    rw [List.drop_take, List.take_take, List.drop_drop]
    rw [show min k (bl - bf + k - i) = k by omega]
  · have a : (wins k ((ns.drop bf).take (bl - bf + k)))[i]? = none := by
      rw [List.getElem?_eq_none_iff, wins_length, hl]; omega
    have b : (seg (wins k ns) bf (bl + 1))[i]? = none := by
      rw [List.getElem?_eq_none_iff]
      unfold seg
      rw [List.length_take]; omega
    rw [a, b]

theorem LSpec.room {k bf bm : Nat} {ns : List Int} (hk : 1 ≤ k) (h : LSpec k (wins k ns) bf bm) : bf + bm ≤ ns.length := by
  rcases h with ⟨_, rfl, rfl⟩ | ⟨_, bl, h1, h2, h3, _⟩
  · omega
  · rw [wins_length] at h2; omega
theorem LSpec.zero {k bf bm : Nat} {W : List (List Int)} (hk : 1 ≤ k) (h : LSpec k W bf bm) : bm = 0 ↔ SS W = [] := by
  rcases h with ⟨h0, rfl, rfl⟩ | ⟨h0, bl, h1, h2, h3, _⟩
  · exact ⟨fun _ => h0, fun _ => rfl⟩
  · exact ⟨fun z => by omega, fun z => absurd z h0⟩
theorem LSpec.empty {k bf bm : Nat} {W : List (List Int)} (h : LSpec k W bf bm) (e : SS W = []) : bf = 0 ∧ bm = 0 := by
  rcases h with ⟨h0, rfl, rfl⟩ | ⟨h0, _⟩
  · exact ⟨rfl, rfl⟩
  · exact absurd e h0

/-- the choices that stand in the told stretch are those of the row -/
theorem LSpec.mine {k bf bm : Nat} {ns : List Int} (hk : 1 ≤ k) (h : LSpec k (wins k ns) bf bm) (hS : SS (wins k ns) ≠ []) :
    ∀ w, w ∈ SS (wins k ((ns.drop bf).take bm)) ↔ w ∈ SS (wins k ns) := by
  rcases h with ⟨h0, _, _⟩ | ⟨_, bl, h1, h2, h3, h4, _⟩
  · exact absurd h0 hS
  · subst h3
    intro w
    rw [wins_length] at h2
    rw [SS_mem, wins_cut hk h1 h2, SS_mem]
    constructor
    · rintro ⟨a, b⟩
      obtain ⟨i, _, _, e⟩ := mem_seg.mp a
      exact ⟨List.mem_of_getElem? e, b⟩
    · rintro ⟨a, b⟩
      exact ⟨h4 w ((SS_mem _ w).mpr ⟨a, b⟩), b⟩
theorem same_len {α : Type} {a b : List α} (ha : a.Nodup) (hb : b.Nodup) (h : ∀ x, x ∈ a ↔ x ∈ b) : a.length = b.length := by
  have sub : ∀ {a b : List α}, a.Nodup → (∀ x, x ∈ a → x ∈ b) → a.length ≤ b.length := by
    intro a
    induction a with
    | nil => intro b _ _; exact Nat.zero_le _
    | cons x a ih =>
      intro b hn hs
      obtain ⟨h1, h2⟩ := List.nodup_cons.mp hn
      obtain ⟨l, r, e⟩ := List.append_of_mem (hs x List.mem_cons_self)
      have : a.length ≤ (l ++ r).length := ih h2 fun y hy => by
        have q := hs y (List.mem_cons_of_mem _ hy)
        rw [e] at q
        rcases List.mem_append.mp q with z | z
        · exact List.mem_append_left _ z
        · rcases List.mem_cons.mp z with z | z
          · exact absurd (z ▸ hy) h1
          · exact List.mem_append_right _ z
      rw [e]
      simp only [List.length_append, List.length_cons] at this ⊢
      omega
  exact Nat.le_antisymm (sub ha fun x => (h x).mp) (sub hb fun x => (h x).mpr)
/-- stretched again it is whole -/
theorem LSpec.again {k bf bm bf' bm' : Nat} {ns : List Int} (hk : 1 ≤ k) (h : LSpec k (wins k ns) bf bm) (hS : SS (wins k ns) ≠ []) (h' : LSpec k (wins k ((ns.drop bf).take bm)) bf' bm') : bf' = 0 ∧ bm' = bm := by
  have hm := h.mine hk hS
  rcases h with ⟨h0, _, _⟩ | ⟨_, bl, h1, h2, h3, h4, h5⟩
  · exact absurd h0 hS
  · subst h3
    rw [wins_length] at h2
    have hw := wins_cut (ns := ns) hk h1 h2
    have hl : (seg (wins k ns) bf (bl + 1)).length = bl - bf + 1 := by
      unfold seg
      rw [List.length_take, List.length_drop, wins_length]; omega
    rcases h' with ⟨g0, _, _⟩ | ⟨_, bl', g1, g2, g3, g4, _⟩
    · exfalso
      obtain ⟨w, r, e⟩ := List.exists_cons_of_ne_nil hS
      have : w ∈ SS (wins k ((ns.drop bf).take (bl - bf + k))) := (hm w).mpr (by rw [e]; exact List.mem_cons_self)
      rw [g0] at this
      cases this
    · rw [hw] at g2 g4 hm
      rw [hl] at g2
      have cv : covers (SS (wins k ns)) (wins k ns) (bf + bf') (bf + bl' + 1) := fun w hw' => by
        obtain ⟨i, a1, a2, a3⟩ := mem_seg.mp (g4 w ((hm w).mpr hw'))
        unfold seg at a3
        rw [List.getElem?_take] at a3
        split at a3
        · rw [List.getElem?_drop] at a3
          exact mem_seg.mpr ⟨bf + i, by omega, by omega, a3⟩
        · cases a3
      have := h5 (bf + bf') (bf + bl') (by omega) (by rw [wins_length]; omega) cv
      omega

/-! ### no stretch of one thing fewer -/
/-- windows at - z .. of the turn, z windows at most: they lack one -/
theorem LSpec.lacks {k bf bm at' f : Nat} {W : List (List Int)} (h : LSpec k W bf bm) (hS : SS W ≠ []) (hat : at' < W.length) (hf : f ≤ at') (hz : at' - f + 1 + k ≤ bm) : ¬ covers (SS W) W f (at' + 1) := fun z => by
  rcases h with ⟨h0, _, _⟩ | ⟨_, bl, h1, h2, h3, h4, h5⟩
  · exact absurd h0 hS
  · have := h5 f at' hf hat z
    omega

/-! ### rows inside rows -/
def inside (one other : List Int) : List Nat := (List.range (one.length + 1 - other.length)).filter fun p => decide ((one.drop p).take other.length = other)
def InsideOf (one other : List Int) : Prop := ∃ p, p + other.length ≤ one.length ∧ (one.drop p).take other.length = other
theorem inside_iff (one other : List Int) : inside one other ≠ [] ↔ InsideOf one other := by
  unfold inside InsideOf
  constructor
  · intro h
    obtain ⟨p, r, e⟩ := List.exists_cons_of_ne_nil h
    have hp : p ∈ (List.range (one.length + 1 - other.length)).filter fun p => decide ((one.drop p).take other.length = other) := by rw [e]; exact List.mem_cons_self
    obtain ⟨h1, h2⟩ := List.mem_filter.mp hp
    refine ⟨p, ?_, of_decide_eq_true h2⟩
    have := List.mem_range.mp h1
    omega
  · rintro ⟨p, h1, h2⟩ z
    have hp : p ∈ (List.range (one.length + 1 - other.length)).filter fun p => decide ((one.drop p).take other.length = other) := List.mem_filter.mpr ⟨List.mem_range.mpr (by omega), decide_eq_true h2⟩
    rw [z] at hp
    cases hp
theorem InsideOf.self (one : List Int) : InsideOf one one := ⟨0, by omega, by rw [List.drop_zero, List.take_length]⟩
theorem InsideOf.left (one more : List Int) : InsideOf (one ++ more) one := ⟨0, by rw [List.length_append]; omega, by rw [List.drop_zero, List.take_left]⟩
/-- laid over one another by t things -/
theorem InsideOf.laid {one other : List Int} {t : Nat} (h1 : t ≤ one.length) (h2 : t ≤ other.length) (h : one.drop (one.length - t) = other.take t) : InsideOf (one ++ other.drop t) other := by
  refine ⟨one.length - t, by rw [List.length_append, List.length_drop]; omega, ?_⟩
  rw [List.drop_append_of_le_length (by omega), h, List.take_append_drop, List.take_length]
theorem InsideOf.len {one other : List Int} (h : InsideOf one other) : other.length ≤ one.length := by obtain ⟨p, h1, _⟩ := h; omega
theorem InsideOf.wins {k : Nat} {one other : List Int} (hk : 1 ≤ k) (h : InsideOf one other) {w : List Int} (hw : w ∈ K80.wins k other) : w ∈ K80.wins k one := by
  obtain ⟨p, h1, h2⟩ := h
  obtain ⟨i, hi⟩ := List.mem_iff_getElem?.mp hw
  obtain ⟨h3, rfl⟩ := wins_getE hi
  refine List.mem_of_getElem? (i := p + i) ?_
  rw [wins_get (by omega)]
  congr 1
  have e : (one.drop p).drop i = one.drop (p + i) := by rw [List.drop_drop]
  rw [← e]
  conv => rhs; rw [← h2]
  rw [List.drop_take, List.take_take, show min k (other.length - i) = k by omega]
end K80
/-! Rules beside the hand layer's: enumerate of a tuple, zip of two tuples walked, len(set(t)), a < b < c < d. -/
namespace K80
open PySem PySem.Spec PyProof.Rows L2

/-! ### enumerate(t), t a tuple -/
theorem meets_enum_new1 {v : Value} {o : Obj} {H : Heap → Prop} (B : Begins v o H) :
    Meets (Builtin.«enumerate.__new__» ⟨[.type "enumerate", v], []⟩) (fun _ R s => H s.heap ∧
      R (.ok (.ret (.ref (s.heap.push o).objs.size))) { s with heap := (s.heap.push o).push { cls := .type "enumerate", data := .fields #[.none, .bool false, .ref s.heap.objs.size, rawInt 0, .none, .none] } }) :=
  .of_wp fun prog w A R s h => by
    obtain ⟨hp, g, d, tk, os⟩ := s; obtain ⟨h1, h⟩ := h
    have hsub := sub_enumerate
    have q1 : ∀ {A' : Around} {E : Value → Shared → Prop} {Q : Value → Shared → Prop}, Q (.ref hp.objs.size) ⟨hp.push o, g, d, tk, os⟩ → wpAny (model prog w) A' (pyIter v) Q E ⟨hp, g, d, tk, os⟩ :=
      fun q => B.iter prog w _ _ ⟨hp, g, d, tk, os⟩ _ h1 q
    wp_walk using q1
    refine wpAny_stack_any fun st => wpAny_pure ?_
    split
    · rename_i c _ _ _ _ _
      cases (c == Value.type "enumerate")
      · wp_walk using q1
        exact ⟨_, rfl, h⟩
      · wp_walk using q1
        exact ⟨_, rfl, h⟩
    · wp_walk using q1
      exact ⟨_, rfl, h⟩
theorem enum_begins1 {prog : Program} {w : World} {A : Around} {E : Value → Shared → Prop} {s : Shared} {v : Value} {o : Obj} {H : Heap → Prop} {Q : Value → Shared → Prop} (B : Begins v o H) (h1 : H s.heap)
    (h : ∀ h', IsEnum h' (s.heap.objs.size + 1) s.heap.objs.size 0 .none → h'.get? s.heap.objs.size = some o → h'.objs.size = s.heap.objs.size + 2 →
      (∀ b o, s.heap.get? b = some o → h'.get? b = some o) → Q (.ref (s.heap.objs.size + 1)) { s with heap := h' }) :
    wpAny (model prog w) A (call (.type "enumerate") [v]) Q E s := by
  refine callType_new F.called_enumerate (by decide) (F.typeCall_enumerate_1 _) (F.newCall_enumerate_1 _) (fun obj => F.args_object_init_2 obj _) F.entry_enumerate_new
    (meets_enum_new1 B) ⟨h1, ?_⟩
  have hz : (s.heap.push o).objs.size = s.heap.objs.size + 1 := Heap.size_push ..
  show _ ∧ _
  rw [hz]
  have he : IsEnum ((s.heap.push o).push { cls := .type "enumerate", data := .fields #[.none, .bool false, .ref s.heap.objs.size, rawInt 0, .none, .none] }) (s.heap.objs.size + 1) s.heap.objs.size 0 .none := by
    have := Heap.get?_push_size (s.heap.push o) (o := { cls := .type "enumerate", data := .fields #[.none, .bool false, .ref s.heap.objs.size, rawInt 0, .none, .none] }) rfl
    rw [hz] at this; exact this
  refine ⟨⟨_, he, rfl⟩, h _ he (Heap.get?_push_of_some _ (Heap.get?_push_size _ B.free)) (by rw [Heap.size_push, hz]) fun b o x => Heap.get?_push_of_some _ (Heap.get?_push_of_some _ x)⟩

/-- the tuple at a, each item in a new pair -/
def IteT (K : PySem.W.Frag) (a : Addr) : It :=
  ⟨fun i H => ∃ (xs : List V) (x : V), SqT K H a xs ∧ xs[i]? = some x, fun i H v H' => ∃ T x, v = .ref T ∧ H T = none ∧ H' = upd H T (.tup [.int (i : Nat), x]) ∧ ∀ xs, SqT K H a xs → xs[i]? = some x, fun i H => ∃ xs : List V, SqT K H a xs ∧ xs.length = i⟩
theorem turn_enumT {P : Program} {w : World} {K : PySem.W.Frag} {elts : List Expr} {kk : Nat} {tpos : Pos} (a e it : Addr) :
    Turn P w K (.Tuple elts kk tpos) (IteT K a) [e, it] e (fun i h => (∃ old, IsEnum h e it ((i : Nat) : Int) old) ∧ h.IsTupleIter it a i ∧ e ≠ it) where
  mem := by simp
  obj := fun i h st b hb => by
    obtain ⟨⟨old, he⟩, ⟨o, ho, hc, hd⟩, _⟩ := st
    have e' : b = e ∨ b = it := by simpa using hb
    rcases e' with z | z
    · rw [z]; exact ⟨_, he, fun v q => nomatch q⟩
    · rw [z]; exact ⟨o, ho, fun v q => by rw [hd] at q; cases q⟩
  keep := fun i h h' st k => let ⟨⟨old, he⟩, hi, hne⟩ := st; ⟨⟨old, k e (by simp) _ he⟩, hi.at fun o q => k it (by simp) o q, hne⟩
  item := by
    intro X hP hw hK hc i pins s σ H E I hf st hg
    subst hP hw hK
    obtain ⟨⟨old, he⟩, hit, hne⟩ := st
    obtain ⟨xs, x, hq, hx⟩ := hg
    obtain ⟨its, rv, p, hz⟩ := I.tuple hq
    obtain ⟨u, hu, ru⟩ := rv.get hx
    have hel : e < s.heap.objs.size := Heap.lt_size he
    have hil : it < s.heap.objs.size := by obtain ⟨_, q, _⟩ := hit; exact Heap.lt_size q
    have hai : a ≠ it := by
      obtain ⟨o1, q1, q2, _⟩ := id p
      obtain ⟨o2, q3, q4, _⟩ := id hit
      rintro rfl
      rw [q1] at q3
      cases q3
      rw [q2] at q4
      exact absurd q4 (by decide)
    have hae : e ≠ a := by
      obtain ⟨o1, q1, q2, _⟩ := id p
      rintro rfl
      have he2 : s.heap.get? e = _ := he
      rw [q1] at he2
      have := congrArg (·.cls) (Option.some.inj he2)
      rw [q2] at this
      exact absurd (show Value.type "tuple" = Value.type "enumerate" from this) (by decide)
    have hil2 : i < its.toArray.size := by
      have : i < its.length := (List.getElem?_eq_some_iff.mp hu).1
      simpa using this
    refine wpAny_pyNext_enum_itemD (Draws.tuple (A := X.A.in1) (by simpa using I.ok.hd hc) it a hai its.toArray) he ⟨hit, p⟩ hil2 hne (by simp; exact ⟨hne, hae⟩) fun x' h' tk hP ho hst' hT hsz hk => ?_
    have ex : x' = u := by
      have q : its.toArray[i]? = some x' := hP
      have q2 : its.toArray[i]? = some u := by simpa using hu
      rw [q] at q2
      exact Option.some.inj q2
    subst ex
    obtain ⟨hit', _⟩ := hst'
    refine ⟨_, rfl, wpAny_letOwnedTupleGo_enum (s := { s with heap := h', toks := tk + 1 }) ho fun h'' he' sb => ?_⟩
    have hT2 : h''.get? s.heap.objs.size = some { cls := .type "tuple", data := .seq #[.int i tk, x'] } := (sb.2 _ (Nat.ne_of_gt hel)).trans hT
    have new : ObjOk X.prog X.w (upd H s.heap.objs.size (.tup [.int (i : Nat), x])) h'' s.heap.objs.size (.tup [.int (i : Nat), x]) :=
      ⟨by show 2 ≤ sizeLine; decide, [.int i tk, x'], .cons ⟨_, rfl⟩ (.cons ru .nil), ⟨_, hT2, rfl, _, rfl⟩⟩
    have I1 : Inv X pins σ (upd H s.heap.objs.size (.tup [.int (i : Nat), x])) { s with heap := h'', toks := tk + 1 } :=
      I.turnedNew (ch := [e, it]) (fun b ob hb q => (sb.2 b (fun z => hb (by simp [z]))).trans (hk b ob (fun z => hb (by simp [z])) (fun z => hb (by simp [z])) q)) hf (Nat.le_refl _) new
    refine ⟨.ref s.heap.objs.size, _, I1, rfl, ⟨_, x, rfl, I.hok.fresh (Nat.le_refl _), rfl, fun ys hy => by rw [I.tuple_inj hy hq]; exact hx⟩, ⟨⟨x', ?_⟩, hit'.at fun o q => (sb.2 it (Ne.symm hne)).trans q, hne⟩, fun b hb => ?_⟩
    · have e1 : ((i + 1 : Nat) : Int) = (i : Int) + 1 := by omega
      rw [e1]; exact he'
    · have hb' : b < s.heap.objs.size := by
        have e' : b = e ∨ b = it := by simpa using hb
        rcases e' with z | z
        · rw [z]; exact hel
        · rw [z]; exact hil
      rw [upd_ne (Nat.ne_of_lt hb')]
      exact (hf b hb).1
  done := by
    intro X hP hw hK hc i pins s σ H E I hf st hg
    subst hP hw hK
    obtain ⟨⟨old, he⟩, hit, hne⟩ := st
    obtain ⟨xs, hq, hx⟩ := hg
    obtain ⟨its, rv, p, hz⟩ := I.tuple hq
    have hai : a ≠ it := by
      obtain ⟨o1, q1, q2, _⟩ := id p
      obtain ⟨o2, q3, q4, _⟩ := id hit
      rintro rfl
      rw [q1] at q3
      cases q3
      rw [q2] at q4
      exact absurd q4 (by decide)
    obtain ⟨f0, f1, f2, f3, f4, f5⟩ := hf it (by simp)
    have hl := rv.length
    have hs : its.toArray.size = i := by rw [List.size_toArray]; omega
    subst hs
    exact wpAny_pyNext_enum_endD (Draws.tuple (A := X.A.in1) (by simpa using I.ok.hd hc) it a hai its.toArray) he ⟨hit, p⟩ fun h' eb => ⟨rfl, I.turned (t' := s.toks) (fun b o hb q => eb b o hb q) f0 f1 f3 f4 f5⟩
  self := fun A i s Q E st h => let ⟨⟨_, he⟩, _⟩ := st; wpAny_pyIter_enum he h
def iEnumT (K : PySem.W.Frag) (ta : TA) : TI := fun σ H R => ta σ H fun vs H1 => ∃ a xs, vs = [.ref a] ∧ SqT K H1 a xs ∧ R (IteT K a) H1
theorem pi_enumT {X : Cx} {e : Expr} {ta : TA} {p pos tpos : Pos} {elts : List Expr} {kk : Nat} (hg : Gl X "enumerate") (hm : X.mg "enumerate" = none) (ha : PA X [e] ta) (hs : starEach [e] X.env = [(false, eval e X.env)] := by rfl) :
    PI X (.Tuple elts kk tpos) (.Call (.Name "enumerate" p) [e] [] pos) (iEnumT X.K ta) := by
  refine ⟨fun pins s σ H R I h => ?_⟩
  refine Call_ (ld_blt I hg hm boot_enumerate (PyProof.Rows.callWith_type1 (thn (ha.run pos pins s σ H _ I h) fun us s1 ⟨vs, H1, I1, r1, q1⟩ => ?_) hs rfl))
  obtain ⟨a, xs, ex, hq, q⟩ := q1
  subst ex
  cases r1 with
  | cons r rr =>
    cases rr
    cases r
    obtain ⟨its, rv, p', hz⟩ := I1.tuple hq
    refine enum_begins1 (begins_tuple a its.toArray) p' fun h' he hit hsz hk => wpAny_pyIter_enum he ?_
    have I2 : Inv X pins σ H1 { s1 with heap := h' } := I1.kept (t' := s1.toks) hk
    refine ⟨s1.heap.objs.size + 1, [s1.heap.objs.size + 1, s1.heap.objs.size], _, _, H1, rfl, I2, turn_enumT a (s1.heap.objs.size + 1) s1.heap.objs.size, ⟨⟨.none, he⟩, ⟨_, hit, rfl, rfl⟩, Nat.succ_ne_self _⟩, fun b hb => ?_, q⟩
    have e' : b = s1.heap.objs.size + 1 ∨ b = s1.heap.objs.size := by simpa using hb
    have hle : s1.heap.objs.size ≤ b := by
      rcases e' with z | z
      · rw [z]; exact Nat.le_add_right _ _
      · rw [z]; exact Nat.le_refl _
    exact I1.fpOk hle (I1.hok.fresh hle)
theorem walk_enumT {K : PySem.W.Frag} {a : Addr} {xs : List V} : Walk (IteT K a) xs.length (fun H => SqT K H a xs) (YPair (fun i => some (.int (i : Nat))) (fun i => xs[i]?)) := by
  refine ⟨fun i _ hi q => ⟨xs, xs[i], q, by simp [hi]⟩, fun _ q => ⟨xs, q, rfl⟩, fun i H v H' _ q y => ?_⟩
  obtain ⟨T, x, h1, h2, h3, h4⟩ := y
  exact ⟨T, .int (i : Nat), x, h1, h2, h3, rfl, h4 xs q⟩
theorem walk_zipT {K : PySem.W.Frag} {a b : Addr} {xs ys : List V} {n : Nat} (hn : n = min xs.length ys.length) : Walk (RZ.ItzT K a b) n (fun H => SqT K H a xs ∧ SqT K H b ys) (YPair (fun i => xs[i]?) (fun i => ys[i]?)) := by
  subst hn
  refine ⟨fun i _ hi q => ?_, fun _ q => ⟨xs, ys, q.1, q.2, by omega⟩, fun i H v H' _ q y => ?_⟩
  · have h1 : i < xs.length := by omega
    have h2 : i < ys.length := by omega
    exact ⟨xs, ys, xs[i], ys[i], q.1, q.2, by simp [h1], by simp [h2]⟩
  · obtain ⟨T, x, z, h1, h2, h3, h4, h5⟩ := y
    exact ⟨T, x, z, h1, h2, h3, h4 xs q.1, h5 ys q.2⟩

/-! ### a < b < c < d as a test -/
section
variable {X : Cx} {a b c d : Expr} {ta tb tc td : TE} {pos : Pos}
def tChain3 (r r' r'' : R2) (ta tb tc td : TE) : TT := fun σ H Q => ta σ H fun x H1 => tb σ H1 fun y H2 => r x y H2 fun z H3 => ∃ k, z = .bl k ∧
  if k = true then tc σ H3 fun y2 H4 => r' y y2 H4 fun z2 H5 => ∃ k2, z2 = .bl k2 ∧ if k2 = true then td σ H5 fun y3 H6 => r'' y2 y3 H6 fun z3 H7 => ∃ k3, z3 = .bl k3 ∧ Q k3 H7 else Q false H5 else Q false H3
theorem pt_chain3 {op op' op'' : CmpOp} {r r' r'' : R2} (ho : OpR X (compareOp op) r) (ho' : OpR X (compareOp op') r') (ho'' : OpR X (compareOp op'') r'') (ha : PE X a ta) (hb : PE X b tb) (hc : PE X c tc) (hd : PE X d td)
    (hm : lastMarks [op, op', op''] [b, c, d] = false := by with_unfolding_all rfl) : PT X (.Compare a [op, op', op''] [b, c, d] pos) (tChain3 r r' r'' ta tb tc td) := by
  refine ⟨fun pins s σ H Q I h => ?_⟩
  refine isTrue_chain (thn (ha.run pins s σ H _ I h) fun v s1 ⟨x, H1, I1, r1, q1⟩ => test_link (thn (hb.run pins s1 σ H1 _ I1 q1) fun u s2 ⟨y, H2, I2, r2, q2⟩ =>
    thn (ho pins s2 σ H2 x y v u _ I2 r1 r2 q2) fun d s3 ⟨z, H3, I3, r3, k, e, q3⟩ => ?_)) hm
  subst e
  cases r3
  refine wpAny_truthy_bool ?_
  cases k with
  | false => exact ite_ff ⟨H3, I3, q3⟩
  | true =>
    refine ite_tt (test_link (thn (hc.run pins s3 σ H3 _ I3 q3) fun w' s4 ⟨z', H4, I4, r4, q4⟩ => thn (ho' pins s4 σ H4 y z' u w' _ I4 r2 r4 q4) fun d' s5 ⟨z2, H5, I5, r5, k2, e2, q5⟩ => ?_))
    subst e2
    cases r5
    refine wpAny_truthy_bool ?_
    cases k2 with
    | false => exact ite_ff ⟨H5, I5, q5⟩
    | true =>
      refine ite_tt (test_last (thn (hd.run pins s5 σ H5 _ I5 q5) fun w'' s6 ⟨z3, H6, I6, r6, q6⟩ => thn (ho'' pins s6 σ H6 z' z3 w' w'' _ I6 r4 r6 q6) fun d'' s7 ⟨z4, H7, I7, r7, k3, e3, q7⟩ => ?_))
      subst e3
      cases r7
      exact wpAny_truthy_bool ⟨H7, I7, q7⟩
end

/-! ### len(set(t)), t a tuple of ints -/
theorem dedup_len : ∀ {ks ns : List Int}, ks.Nodup → (∀ k, k ∈ ns ↔ k ∈ ks) → (ks.length ≤ ns.length ∧ (ks.length = ns.length ↔ ns.Nodup)) := by
  have sub : ∀ {a b : List Int}, a.Nodup → (∀ x, x ∈ a → x ∈ b) → a.length ≤ b.length := by
    intro a
    induction a with
    | nil => intro b _ _; exact Nat.zero_le _
    | cons x a ih =>
      intro b hn hs
      obtain ⟨h1, h2⟩ := List.nodup_cons.mp hn
      obtain ⟨l, r, e⟩ := List.append_of_mem (hs x List.mem_cons_self)
      have : a.length ≤ (l ++ r).length := ih h2 fun y hy => by
        have q := hs y (List.mem_cons_of_mem _ hy)
        rw [e] at q
        rcases List.mem_append.mp q with z | z
        · exact List.mem_append_left _ z
        · rcases List.mem_cons.mp z with z | z
          · exact absurd (z ▸ hy) h1
          · exact List.mem_append_right _ z
      rw [e]
      simp only [List.length_append, List.length_cons] at this ⊢
      omega
  intro ks ns hk h
  refine ⟨sub hk fun x hx => (h x).mpr hx, fun e => ?_, fun hn => Nat.le_antisymm (sub hk fun x hx => (h x).mpr hx) (sub hn fun x hx => (h x).mp hx)⟩
  refine Classical.byContradiction fun z => ?_
  -- a twice met item may go
  have ex : ∀ {l : List Int}, ¬ l.Nodup → ∃ l' : List Int, l'.length + 1 = l.length ∧ ∀ x, x ∈ l → x ∈ l' := by
    intro l
    induction l with
    | nil => intro h; exact absurd List.nodup_nil h
    | cons a l ih =>
      intro h
      by_cases ha : a ∈ l
      · exact ⟨l, rfl, fun x hx => by
          rcases List.mem_cons.mp hx with q | q
          · rw [q]; exact ha
          · exact q⟩
      · have : ¬ l.Nodup := fun q => h (List.nodup_cons.mpr ⟨ha, q⟩)
        obtain ⟨l', e1, e2⟩ := ih this
        exact ⟨a :: l', by simp [e1], fun x hx => by
          rcases List.mem_cons.mp hx with q | q
          · rw [q]; exact List.mem_cons_self
          · exact List.mem_cons_of_mem _ (e2 x q)⟩
  obtain ⟨l', e1, e2⟩ := ex z
  have := sub hk fun x hx => e2 x ((h x).mpr hx)
  omega
def tLenSetT (K : PySem.W.Frag) (ta : TE) : TE := fun σ H Q => ta σ H fun x H1 => ∃ (l : Addr) (ns : List Int), x = .ref l ∧ SqT K H1 l (ns.map V.int) ∧ ns.length ≤ 4000 ∧ ∀ c : Nat, c ≤ ns.length → (c = ns.length ↔ ns.Nodup) → Q (.int c) H1
theorem pe_lenSetT {X : Cx} {a : Expr} {ta : TE} {p p2 q pos : Pos} (hg : Gl X "len") (hm : X.mg "len" = none) (hg2 : Gl X "set") (hm2 : X.mg "set" = none) (ha : PE X a ta) (hc : X.calm = true := by rfl)
    (na : starEach [a] X.env = (false, eval a X.env) :: starEach [] X.env := by rfl) : PE X (.Call (.Name "len" p) [.Call (.Name "set" p2) [a] [] q] [] pos) (tLenSetT X.K ta) := by
  refine ⟨fun pins s σ H Q I h => ?_⟩
  refine Call_ (ld_blt I hg hm boot_len ?_)
  refine PyProof.Rows.callWith_builtin1 (PyProof.Rows.args_cons ?_ rfl) rfl rfl
  refine Call_ (ld_blt I hg2 hm2 boot_set ?_)
  refine PyProof.Rows.callWith_type1 (PyProof.Rows.args_cons (thn (ha.run pins s σ H _ I h) fun v s1 ⟨x, H1, I1, r1, q1⟩ => PyProof.Rows.args_nil ?_) na) na rfl
  obtain ⟨l, ns, rfl, hq, hl, q1⟩ := q1
  cases r1
  obtain ⟨its, r, pl, hz⟩ := I1.tuple hq
  refine call_set_tupI ns (I1.ok.hd hc) pl (by simpa using RZ.intsAre_vals r) (by unfold scanBound; omega) fun h' tk c hS hc hk => ?_
  refine PyProof.Rows.args_nil ?_
  obtain ⟨o, es, ep, t, ho, hex, hd, hg1, hnd, hmem, hsb, hf, hn, _⟩ := hS
  have I2 : Inv X pins σ H1 { s1 with heap := h', toks := tk } := I1.kept hk
  have hlen : (es.toList.map keyOf).length = c := by rw [List.length_map, Array.length_toList]; exact hn
  obtain ⟨d1, d2⟩ := dedup_len (ks := es.toList.map keyOf) (ns := ns) hnd fun k => by
    rw [← hmem k]; simp
  rw [hlen] at d1 d2
  exact call_len_set ho hex hd hf (by rw [hn]; omega) ⟨.int c, H1, I2.tok _, ⟨_, by rw [hn]⟩, q1 c d1 d2⟩
end K80
/-! Dicts with tuple keys: None in d, d == e, d != e, dict(pairs). -/
namespace K80
open PySem PySem.Spec PyProof.Rows L2

/-! ### None among keys that are objects -/
section
variable {prog : Program} {w : World} {K : Type} [DecidableEq K] {knd : HeapKind prog w K} {A : Around} {E : Value → Shared → Prop} {s : Shared}
theorem tableMayTell_none {stored : List Value} {Q : Bool → Shared → Prop} (hst : ∀ v ∈ stored, ∃ k' b, v = .ref b ∧ knd.is s.heap k' b) (h : Q false s) : wpAny (model prog w) A (tableMayTell .none stored) Q E s := by
  unfold tableMayTell
  split
  · exact wpAny_pure h
  · refine wpAny_bind (wpAny_of_eq (a := true) (by rfl) ?_)
    simp only [Bool.not_true, Bool.false_eq_true, if_false]
    refine wpAny_bind ?_
    refine wpAny_forIn_list _ (fun rest r s' => s' = s ∧ r = (none, ()) ∧ ∀ v ∈ rest, ∃ k' b, v = .ref b ∧ knd.is s.heap k' b) _ ?_ ?_ _ _ ⟨rfl, rfl, hst⟩
    · rintro x rest r s' ⟨rfl, rfl, hr⟩
      obtain ⟨k', b, rfl, hb⟩ := hr x List.mem_cons_self
      refine wpAny_bind (knd.quiet hb ?_)
      simp only [Bool.not_true, Bool.false_eq_true, if_false]
      exact wpAny_pure ⟨rfl, rfl, fun v hv => hr v (List.mem_cons_of_mem _ hv)⟩
    · rintro r s' ⟨rfl, rfl, _⟩
      exact wpAny_pure h

theorem dictFind_none {d : Addr} {o : Obj} {es ep} {xs : List (K × Addr × Value)} {hv : Int} {Q : Option Nat → Shared → Prop} (hu : A.units < cLine) (ht : ∀ k b, knd.is s.heap k b → ∃ its, s.heap.IsTuple b its)
    (ho : s.heap.get? d = some o) (hd : o.data = .dict es ep) (he : es.toList = xs.map (entryOfKey knd)) (his : ∀ x ∈ xs, knd.is s.heap x.1 x.2.1)
    (hnone : Q none s) : wpAny (model prog w) A (dictFind d .none hv) Q E s := by
  have hmem : ∀ e ∈ es, ∃ x ∈ xs, e = entryOfKey knd x := by
    intro e hin
    have : e ∈ xs.map (entryOfKey knd) := he ▸ Array.mem_toList_iff.mpr hin
    obtain ⟨x, hx, rfl⟩ := List.mem_map.mp this
    exact ⟨x, hx, rfl⟩
  have hst : ∀ v ∈ (placesWithHash es.size (fun i => es[i]?.map (·.hash)) hv).filterMap (fun i => es[i]?.map (·.key)), ∃ k' b, v = .ref b ∧ knd.is s.heap k' b := by
    intro v hv
    obtain ⟨i, _, hi⟩ := List.mem_filterMap.mp hv
    cases hei : es[i]? with
    | none => rw [hei] at hi; cases hi
    | some e =>
      rw [hei] at hi
      obtain rfl : e.key = v := by simpa using hi
      obtain ⟨x, hx, rfl⟩ := hmem e (Array.mem_of_getElem? hei)
      exact ⟨x.1, x.2.1, rfl, his x hx⟩
  unfold dictFind
  try with_reducible refine wpAny_holding ?_
  refine wpAny_bind (wpAny_dictEntries ho hd ?_)
  dsimp only
  by_cases hall : ((Value.none :: (placesWithHash es.size (fun i => es[i]?.map (·.hash)) hv).filterMap (fun i => es[i]?.map (·.key))).all carriedByValue) = true
  · rw [if_pos hall]
    refine wpAny_bind ?_
    refine wpAny_forIn_list _ (fun rest r s' => s' = s ∧ r = (none, ())) _ ?_ ?_ _ _ ⟨rfl, rfl⟩
    · rintro x rest r s' ⟨rfl, rfl⟩
      cases hei : es[x]? with
      | none => exact wpAny_pure ⟨rfl, rfl⟩
      | some e =>
        obtain ⟨y, hy, rfl⟩ := hmem e (Array.mem_of_getElem? hei)
        dsimp only
        split
        · obtain ⟨its, hits⟩ := ht _ _ (his y hy)
          refine wpAny_bind (wpAny_dictEpoch ho hd (wpAny_bind (SeqAt.EqAt.tuple_none hits hu prog w _ _ (wpAny_bind (wpAny_dictEpoch ho hd ?_)))))
          rw [if_neg (by simp)]
          simp only [Bool.false_eq_true, if_false]
          first
            | exact wpAny_bind (wpAny_rule (wpAny_pure ⟨rfl, rfl⟩))
            | exact wpAny_bind (wpAny_pure (wpAny_bind (wpAny_rule (wpAny_pure ⟨rfl, rfl⟩))))
        · exact wpAny_pure ⟨rfl, rfl⟩
    · rintro r s' ⟨rfl, rfl⟩
      exact wpAny_pure hnone
  · rw [if_neg hall]
    by_cases hone : (((placesWithHash es.size (fun i => es[i]?.map (·.hash)) hv).filterMap (fun i => es[i]?.map (·.key))) == [Value.none]) = true <;>
    (first | rw [if_pos hone] | rw [if_neg hone]) <;> (first | refine wpAny_bind (wpAny_pure ?_) | refine wpAny_bind (tableMayTell_none hst ?_)) <;> (
      rw [if_neg (by simp)]
      refine wpAny_bind ?_
      refine wpAny_forIn_list _ (fun rest r s' => s' = s ∧ r = (none, none)) _ ?_ ?_ _ _ ⟨rfl, rfl⟩
      · rintro x rest r s' ⟨rfl, rfl⟩
        cases hei : es[x]? with
        | none => exact wpAny_pure ⟨rfl, rfl⟩
        | some e =>
          obtain ⟨y, hy, rfl⟩ := hmem e (Array.mem_of_getElem? hei)
          dsimp only
          split
          · obtain ⟨its, hits⟩ := ht _ _ (his y hy)
            refine wpAny_bind (wpAny_dictEpoch ho hd (wpAny_bind (SeqAt.EqAt.tuple_none hits hu prog w _ _ (wpAny_bind (wpAny_dictEpoch ho hd ?_)))))
            rw [if_neg (by simp)]
            simp only [Bool.false_eq_true, if_false]
            refine wpAny_bind (wpAny_rule ?_)
            first | rw [if_neg (by simp)] | skip
            first
              | exact wpAny_pure ⟨rfl, rfl⟩
              | exact wpAny_bind (wpAny_pure (wpAny_pure ⟨rfl, rfl⟩))
          · exact wpAny_pure ⟨rfl, rfl⟩
      · rintro r s' ⟨rfl, rfl⟩
        exact wpAny_pure hnone)

theorem in_none {d : Addr} {xs : List (K × Addr × Value)} {Q : Value → Shared → Prop} (hu : A.units + 1 < cLine) (ht : ∀ (h : Heap) k b, knd.is h k b → ∃ its, h.IsTuple b its) (hd : (d == sysModules) = false) (hm : s.heap.DictOfH knd d xs)
    (h : ∀ tk, Q (.bool false) { s with toks := tk }) : wpAny (model prog w) A (compareOp .In .none (.ref d)) Q E s := by
  show wpAny _ _ (do return .bool (← contains (.ref d) .none)) Q E s
  refine wpAny_bind ?_
  unfold contains
  try with_reducible refine wpAny_holding ?_
  refine wpAny_bind (wpAny_specialOf hm.typeIs slot_dict_contains.lookup ?_)
  show wpAny _ _ (if (some (Value.builtin "dict.__contains__") == some Value.none) = true then _ else _) _ E s
  rw [if_neg (by rw [beq_builtin_none]; exact Bool.false_ne_true)]
  refine wpAny_bind (wpAny_callSpecialUnlessNone?_slot (name := Str.ofString "__contains__") hm.typeIs slot_dict_contains
    (wpAny_call_entry slot_dict_contains hm.typeIs entry_dict_contains ?_ (args_dict_contains _ _)))
  show wpAny _ _ (dictGet d .none >>= _) _ _ s
  obtain ⟨o, es, ep, ho, _, hdt, he, his, hn⟩ := hm
  refine wpAny_bind ?_
  unfold dictGet
  try with_reducible refine wpAny_holding ?_
  refine wpAny_bind ((noneKind prog w).pyHash (k := none) rfl ?_)
  refine wpAny_bind (dictFind_none (s := { s with toks := _ }) (knd := knd) (xs := xs) hu (fun k b => ht _ k b) ho hdt he his ?_)
  refine wpAny_pure ?_
  show wpAny _ _ (Builtin.Dict.pendingKey? d .none >>= _) _ _ _
  exact wpAny_bind (wpAny_pendingKey_other hd (wpAny_pure ⟨_, rfl, wpAny_truthy_bool (wpAny_pure (h _))⟩))
end
section
variable {X : Cx} {pins : List (Addr × Obj)} {σ : L2.St} {H : Hp} {s : Shared} {a : Addr} {kvs : List (List Key × V)} {A : Around} {E : Value → Shared → Prop}
theorem tupKey_tup {P : Program} {w : World} (h : Heap) (k : List Key) (b : Addr) (x : (tupleKind (mixKind P w)).is h k b) : ∃ its, h.IsTuple b its := by
  obtain ⟨o, its, n, h1, h2, h3, _⟩ := x
  exact ⟨its, o, h1, h2, n, h3⟩
theorem d_inNoneT {Q : Value → Shared → Prop} (hu : A.units + 1 < cLine) (I : Inv X pins σ H s) (e : H a = some (.dT kvs)) (h : ∀ s', Inv X pins σ H s' → Q (.bool false) s') : wpAny (model X.prog X.w) A (compareOp .In .none (.ref a)) Q E s := by
  obtain ⟨z, hd, xs, rel, dd⟩ := dt_of I.hok e
  exact in_none hu (fun h k b => tupKey_tup h k b) hd dd fun tk => h _ (I.tok tk)
end
/-- y in d, y may be None (d's keys tuples) -/
def tDInNT (ty td : TE) : TE := fun σ H Q => ty σ H fun y H1 => td σ H1 fun x H2 => (∃ a o, x = .ref a ∧ DGet H2 a y o ∧ Q (.bl o.isSome) H2) ∨ ∃ a kvs, x = .ref a ∧ y = .non ∧ H2 a = some (.dT kvs) ∧ Q (.bl false) H2
section
variable {X : Cx} {o i : Expr} {td ty : TE}
theorem pc_dinNT (hu : X.A.units + 1 < cLine) (hi : PE X i ty) (ho : PE X o td) : PC X .In i o (tDInNT ty td) := by
  refine ⟨fun pins s σ H Q I h => ?_⟩
  refine thn (hi.run pins s σ H _ I h) fun iv s1 ⟨y, H1, I1, ry, q1⟩ => thn (ho.run pins s1 σ H1 _ I1 q1) fun u s2 ⟨x, H2, I2, rx, q2⟩ => ?_
  rcases q2 with ⟨a, ov, ex, g, q2⟩ | ⟨a, kvs, ex, ey, g, q2⟩
  · subst ex
    obtain rfl : u = Value.ref a := rx
    exact d_in hu I2 g ry fun s3 I3 => ⟨.bl ov.isSome, H2, I3, rfl, q2⟩
  · subst ex ey
    obtain rfl : u = Value.ref a := rx
    obtain rfl : iv = Value.none := ry
    exact d_inNoneT hu I2 g fun s3 I3 => ⟨.bl false, H2, I3, rfl, q2⟩
end
end K80
/-! Dicts with tuple keys: d == e, d != e (all values True), dict(pairs (key, True)). -/
namespace K80
open PySem PySem.Spec PyProof.Rows L2

/-! ### == of dicts whose keys are objects, all values True -/
section
variable {prog : Program} {w : World} {K : Type} [DecidableEq K] {knd : HeapKind prog w K} {A : Around} {E : Value → Shared → Prop} {s : Shared}
theorem samePairsH {nm : String} {a b : Addr} {xa xb : List (K × Addr × Value)} {Q : Bool → Shared → Prop} (hu : knd.room A) (ha : (a == sysModules) = false) (hb : (b == sysModules) = false)
    (da : s.heap.DictOfH knd a xa) (db : s.heap.DictOfH knd b xb) (va : ∀ x ∈ xa, x.2.2 = .bool true) (vb : ∀ x ∈ xb, x.2.2 = .bool true)
    (h : ∀ r : Bool, (r = true ↔ xa.length = xb.length ∧ ∀ x ∈ xa, x.1 ∈ xb.map (·.1)) → Q r s) :
    wpAny (model prog w) A (Builtin.Dict.samePairs nm a b) Q E s := by
  obtain ⟨oa, es, ep, hoa, _, hda, hea, hisa, hna⟩ := da
  obtain ⟨ob, es', ep', hob, _, hdb, heb, hisb, hnb⟩ := db
  have hla : es.size = xa.length := size_of_entries hea
  have hlb : es'.size = xb.length := size_of_entries heb
  unfold Builtin.Dict.samePairs Builtin.Dict.showsAll
  rw [if_neg (show ¬ (a == sysModules) = true by rw [ha]; exact Bool.false_ne_true), if_neg (show ¬ (b == sysModules) = true by rw [hb]; exact Bool.false_ne_true)]
  refine wpAny_bind (wpAny_pure (wpAny_bind (wpAny_pure ?_)))
  refine wpAny_bind (wpAny_dictEntries hoa hda ?_)
  dsimp only
  refine wpAny_bind (wpAny_dictEntries hob hdb ?_)
  by_cases hsz : es.size = es'.size
  case neg =>
    rw [if_pos (by simpa using hsz)]
    refine wpAny_bind (wpAny_rule (wpAny_pure (h false ?_)))
    constructor
    · intro z; cases z
    · rintro ⟨z, _⟩
      exact absurd (by rw [hla, hlb]; exact z) hsz
  case pos =>
    have hlen : xa.length = xb.length := by rw [← hla, ← hlb]; exact hsz
    rw [if_neg (by rw [hsz]; simp)]
    refine wpAny_bind (wpAny_dictEpoch hoa hda ?_)
    refine wpAny_bind ?_
    rw [Std.Legacy.Range.forIn_eq_forIn_range']
    simp only [Std.Legacy.Range.size, Nat.sub_zero, Nat.add_sub_cancel, Nat.div_one]
    refine wpAny_forIn_list _
      (fun rest q s' => s' = s ∧ q = (none, ()) ∧ ∃ i, rest = List.range' i (es.size - i) ∧ i ≤ es.size ∧ ∀ x ∈ xa.take i, x.1 ∈ xb.map (·.1))
      _ ?_ ?_ _ _ ⟨rfl, rfl, 0, by simp, Nat.zero_le _, by simp⟩
    · rintro x rest q s' ⟨rfl, rfl, i, hr, hi, hpre⟩
      have hlt : i < es.size := by
        rcases Nat.lt_or_ge i es.size with h | h
        · exact h
        · rw [Nat.sub_eq_zero_of_le h] at hr; simp at hr
      obtain ⟨rfl, hrest⟩ : x = i ∧ rest = List.range' (i + 1) (es.size - (i + 1)) := by
        have e : es.size - i = (es.size - (i + 1)) + 1 := by omega
        rw [e, List.range'_succ] at hr
        injection hr with h1 h2
        exact ⟨h1, h2⟩
      refine wpAny_bind (wpAny_dictEntries hoa hda ?_)
      obtain ⟨⟨k, c, v⟩, hkv⟩ : ∃ y, xa[x]? = some y := ⟨xa[x]'(by rw [← hla]; exact hlt), List.getElem?_eq_getElem _⟩
      have hex : es[x]? = some ⟨knd.hash k, .ref c, v⟩ := by rw [entry_at hea x, hkv]; rfl
      have hmx : (k, c, v) ∈ xa := List.mem_of_getElem? hkv
      have hv : v = .bool true := va _ hmx
      rw [hex]
      show wpAny _ _ (holding [Value.ref c, v] _ >>= _) _ _ _
      refine wpAny_bind (wpAny_holding (wpAny_bind (wpAny_dictFind_heap (xs := xb) hu (hisa _ hmx) hob hdb heb hisb hnb (fun hno => ?_) fun j p hj => ?_)))
      · refine wpAny_pure ?_
        show wpAny _ _ (if (!false) = true then _ else _) _ _ _
        rw [if_pos (by decide)]
        refine wpAny_pure (wpAny_pure (h false ?_))
        constructor
        · intro z; cases z
        · rintro ⟨_, z⟩
          exact absurd (z _ hmx) (not_mem_keys_of_get hno)
      · have hmj : (k, p) ∈ xb := List.mem_of_getElem? hj
        have hpv : p.2 = .bool true := vb _ hmj
        refine wpAny_bind (wpAny_dictEntries hob hdb ?_)
        rw [entry_at heb j, hj]
        show wpAny _ _ (holding [p.2] (eqBool v p.2)) _ _ _
        rw [hv, hpv]
        refine wpAny_holding (SeqAt.EqAt.same _ prog w _ _ ?_)
        show wpAny _ _ (if (!true) = true then _ else _) _ _ _
        rw [if_neg (by decide)]
        refine wpAny_bind (wpAny_dictEpoch hoa hda ?_)
        rw [if_neg (by simp)]
        refine wpAny_pure ⟨rfl, rfl, x + 1, hrest, hlt, fun y hy => ?_⟩
        rw [List.take_add_one, hkv] at hy
        rcases List.mem_append.mp hy with q | q
        · exact hpre y q
        · have e : y = (k, c, v) := by simpa using q
          rw [e]
          exact List.mem_map.mpr ⟨(k, p), hmj, rfl⟩
    · rintro q s' ⟨rfl, rfl, i, hr, hi, hpre⟩
      have hin : i = es.size := by
        rcases Nat.lt_or_ge i es.size with h | h
        · have e : es.size - i = (es.size - (i + 1)) + 1 := by omega
          rw [e, List.range'_succ] at hr; exact nomatch hr
        · exact Nat.le_antisymm hi h
      refine wpAny_pure (h true ?_)
      rw [hin, hla, List.take_length] at hpre
      exact ⟨fun _ => ⟨hlen, hpre⟩, fun _ => rfl⟩
theorem eqH {a b : Addr} {xa xb : List (K × Addr × Value)} {Q : Value → Shared → Prop} (hu' : knd.room A.in1) (hu : A.units < cLine) (ha : (a == sysModules) = false) (hb : (b == sysModules) = false)
    (da : s.heap.DictOfH knd a xa) (db : s.heap.DictOfH knd b xb) (va : ∀ x ∈ xa, x.2.2 = .bool true) (vb : ∀ x ∈ xb, x.2.2 = .bool true)
    (h : ∀ r : Bool, (r = true ↔ xa.length = xb.length ∧ ∀ x ∈ xa, x.1 ∈ xb.map (·.1)) → Q (.bool r) s) :
    wpAny (model prog w) A (compareOp .Eq (.ref a) (.ref b)) Q E s := by
  refine wpAny_richCompare_same_room (op := .Eq) da.typeIs db.typeIs PySem.F.slot_dict_eq (wpAny_call_entry PySem.F.slot_dict_eq da.typeIs PySem.F.entry_dict_eq ?_ (PySem.F.args_dict_eq_2 _ _)) hu
  show wpAny _ _ (Builtin.Dict.dictSlotArgs "__eq__" ⟨[.ref a, .ref b], []⟩ >>= _) _ _ s
  refine wpAny_bind ?_
  unfold Builtin.Dict.dictSlotArgs
  refine wpAny_bind (wpAny_notOrdered_dict da.typeIs ?_)
  show wpAny _ _ (pure (Value.ref a, Value.ref b)) _ _ s
  refine wpAny_pure ?_
  refine wpAny_bind (wpAny_isInstance (T := "dict") db.typeIs PySem.F.sub_dict_dict ?_)
  simp only [Bool.not_true, Bool.false_eq_true, if_false]
  refine wpAny_bind (wpAny_pure (wpAny_bind (wpAny_pure ?_)))
  refine wpAny_bind (samePairsH hu' ha hb da db va vb fun r hr => ?_)
  refine wpAny_pure ⟨_, rfl, ?_, ?_⟩
  · exact fun x => nomatch x
  · have := h r hr
    cases r <;> exact this
theorem neH {a b : Addr} {xa xb : List (K × Addr × Value)} {Q : Value → Shared → Prop} (hu' : knd.room A.in1) (hu : A.units < cLine) (ha : (a == sysModules) = false) (hb : (b == sysModules) = false)
    (da : s.heap.DictOfH knd a xa) (db : s.heap.DictOfH knd b xb) (va : ∀ x ∈ xa, x.2.2 = .bool true) (vb : ∀ x ∈ xb, x.2.2 = .bool true)
    (h : ∀ r : Bool, (r = true ↔ xa.length = xb.length ∧ ∀ x ∈ xa, x.1 ∈ xb.map (·.1)) → Q (.bool (!r)) s) :
    wpAny (model prog w) A (compareOp .NotEq (.ref a) (.ref b)) Q E s := by
  refine wpAny_richCompare_same_room (op := .NotEq) da.typeIs db.typeIs PySem.F.slot_dict_ne (wpAny_call_entry PySem.F.slot_dict_ne da.typeIs PySem.F.entry_dict_ne ?_ (PySem.F.args_dict_ne_2 _ _)) hu
  show wpAny _ _ (Builtin.Dict.dictSlotArgs "__ne__" ⟨[.ref a, .ref b], []⟩ >>= _) _ _ s
  refine wpAny_bind ?_
  unfold Builtin.Dict.dictSlotArgs
  refine wpAny_bind (wpAny_notOrdered_dict da.typeIs ?_)
  show wpAny _ _ (pure (Value.ref a, Value.ref b)) _ _ s
  refine wpAny_pure ?_
  refine wpAny_bind (wpAny_isInstance (T := "dict") db.typeIs PySem.F.sub_dict_dict ?_)
  simp only [Bool.not_true, Bool.false_eq_true, if_false]
  refine wpAny_bind (wpAny_pure (wpAny_bind (wpAny_pure ?_)))
  refine wpAny_bind (samePairsH hu' ha hb da db va vb fun r hr => ?_)
  refine wpAny_pure ⟨_, rfl, ?_, ?_⟩
  · exact fun x => nomatch x
  · have := h r hr
    cases r <;> exact this
end

/-! ### keys: tuples of ints -/
def key (w : List Int) : List Key := w.map Sum.inl
theorem key_tup (w : List Int) : (key w).map kV = w.map V.int := by
  unfold key
  rw [List.map_map]
  rfl
def unkey (k : List Key) : List Int := k.filterMap fun x => match x with
  | .inl i => some i
  | .inr _ => none
theorem unkey_key (w : List Int) : unkey (key w) = w := by
  unfold unkey key
  rw [List.filterMap_map]
  induction w with
  | nil => rfl
  | cons a w ih =>
    rw [List.filterMap_cons]
    show a :: _ = _
    rw [ih]
theorem key_inj {a b : List Int} (h : key a = key b) : a = b := by
  rw [← unkey_key a, h, unkey_key]
/-- a dict of choices, all True -/
def trues (us : List (List Int)) : List (List Key × V) := us.map fun w => (key w, .bl true)
theorem trues_len (us : List (List Int)) : (trues us).length = us.length := by unfold trues; rw [List.length_map]
theorem trues_get (us : List (List Int)) (w : List Int) : (valV (trues us) (key w)).isSome = decide (w ∈ us) := by
  rw [← valV_any]
  rw [Bool.eq_iff_iff, List.any_eq_true, decide_eq_true_iff]
  constructor
  · rintro ⟨p, hp, e⟩
    obtain ⟨u, hu, rfl⟩ := List.mem_map.mp hp
    rw [key_inj (of_decide_eq_true e)] at hu
    exact hu
  · intro h
    exact ⟨(key w, .bl true), List.mem_map.mpr ⟨w, h, rfl⟩, by simp⟩

section
variable {X : Cx}
theorem KT_trues {H : Hp} {us : List (List Int)} {xs : List (List Key × Addr × Value)} (r : KT H (trues us) xs) : xs.map (·.1) = us.map key ∧ ∀ x ∈ xs, x.2.2 = .bool true := by
  have go : ∀ {l : List (List Key × V)} {xs : List (List Key × Addr × Value)}, KT H l xs → (∀ p ∈ l, p.2 = V.bl true) → xs.map (·.1) = l.map (·.1) ∧ ∀ x ∈ xs, x.2.2 = .bool true := by
    intro l xs r
    induction r with
    | nil => intro _; exact ⟨rfl, fun x hx => nomatch hx⟩
    | @cons p q ps qs hq t ih =>
      intro hb
      obtain ⟨i1, i2⟩ := ih fun p hp => hb p (List.mem_cons_of_mem _ hp)
      obtain ⟨q1, q2, q3⟩ := hq
      refine ⟨by rw [List.map_cons, List.map_cons, i1, q1], fun x hx => ?_⟩
      rcases List.mem_cons.mp hx with e | e
      · rw [e]
        rw [hb p List.mem_cons_self] at q3
        exact q3
      · exact i2 x e
  obtain ⟨g1, g2⟩ := go r fun p hp => by
    obtain ⟨u, _, rfl⟩ := List.mem_map.mp hp
    rfl
  refine ⟨?_, g2⟩
  rw [g1]
  unfold trues
  rw [List.map_map]
  rfl
def rEqT (neg : Bool) : R2 := fun x y H Q => ∃ a b us vs, x = .ref a ∧ y = .ref b ∧ H a = some (.dT (trues us)) ∧ H b = some (.dT (trues vs)) ∧
  ∀ r : Bool, (r = true ↔ us.length = vs.length ∧ ∀ u ∈ us, u ∈ vs) → Q (.bl (if neg then !r else r)) H
theorem eqT_iff {us vs : List (List Int)} {xa xb : List (List Key × Addr × Value)} (ea : xa.map (·.1) = us.map key) (eb : xb.map (·.1) = vs.map key) :
    (xa.length = xb.length ∧ ∀ x ∈ xa, x.1 ∈ xb.map (·.1)) ↔ (us.length = vs.length ∧ ∀ u ∈ us, u ∈ vs) := by
  have la : xa.length = us.length := by
    have := congrArg List.length ea
    simpa using this
  have lb : xb.length = vs.length := by
    have := congrArg List.length eb
    simpa using this
  rw [la, lb, eb]
  constructor
  · rintro ⟨h1, h2⟩
    refine ⟨h1, fun u hu => ?_⟩
    have : key u ∈ xa.map (·.1) := by rw [ea]; exact List.mem_map.mpr ⟨u, hu, rfl⟩
    obtain ⟨x, hx, e⟩ := List.mem_map.mp this
    obtain ⟨v, hv, e2⟩ := List.mem_map.mp (h2 x hx)
    have e3 : v = u := key_inj (e2.trans e)
    rw [← e3]; exact hv
  · rintro ⟨h1, h2⟩
    refine ⟨h1, fun x hx => ?_⟩
    have : x.1 ∈ us.map key := by rw [← ea]; exact List.mem_map.mpr ⟨x, hx, rfl⟩
    obtain ⟨u, hu, e⟩ := List.mem_map.mp this
    exact List.mem_map.mpr ⟨u, h2 u hu, e⟩
theorem op_eqT (hu : X.A.units + 1 < cLine) : OpR X (compareOp .Eq) (rEqT false) := by
  intro pins s σ H x y v u Q I rx ry h
  obtain ⟨a, b, us, vs, rfl, rfl, ea, eb, q⟩ := h
  obtain rfl : v = Value.ref a := rx
  obtain rfl : u = Value.ref b := ry
  obtain ⟨_, ya, xa, ra, da⟩ := dt_of I.hok ea
  obtain ⟨_, yb, xb, rb, db⟩ := dt_of I.hok eb
  obtain ⟨ka, va⟩ := KT_trues ra
  obtain ⟨kb, vb⟩ := KT_trues rb
  refine eqH (knd := tupleKind (mixKind X.prog X.w)) (tupleKind_room_in1 hu) (by omega) ya yb da db va vb fun r hr => ?_
  exact ⟨.bl r, H, I, rfl, q r (hr.trans (eqT_iff ka kb))⟩
theorem op_neT (hu : X.A.units + 1 < cLine) : OpR X (compareOp .NotEq) (rEqT true) := by
  intro pins s σ H x y v u Q I rx ry h
  obtain ⟨a, b, us, vs, rfl, rfl, ea, eb, q⟩ := h
  obtain rfl : v = Value.ref a := rx
  obtain rfl : u = Value.ref b := ry
  obtain ⟨_, ya, xa, ra, da⟩ := dt_of I.hok ea
  obtain ⟨_, yb, xb, rb, db⟩ := dt_of I.hok eb
  obtain ⟨ka, va⟩ := KT_trues ra
  obtain ⟨kb, vb⟩ := KT_trues rb
  refine neH (knd := tupleKind (mixKind X.prog X.w)) (tupleKind_room_in1 hu) (by omega) ya yb da db va vb fun r hr => ?_
  exact ⟨.bl (!r), H, I, rfl, q r (hr.trans (eqT_iff ka kb))⟩

/-! ### dict(list of (key, True)) -/
theorem storedH_mem {Kt : Type} [DecidableEq Kt] {G : Kt → Addr → Prop} {xs : List (Kt × Addr × Value)} {k : Kt} {a : Addr} (h : ∀ x ∈ xs, G x.1 x.2.1 ∧ x.2.2 = .bool true) (hk : G k a) : ∀ x ∈ storedH xs k a (.bool true), G x.1 x.2.1 ∧ x.2.2 = .bool true := by
  intro x hx
  unfold storedH at hx
  split at hx
  · obtain ⟨y, hy, rfl⟩ := List.mem_map.mp hx
    unfold putAt
    split
    · exact ⟨(h y hy).1, rfl⟩
    · exact h y hy
  · rcases List.mem_append.mp hx with z | z
    · exact h x z
    · have e : x = (k, a, .bool true) := by simpa using z
      rw [e]
      exact ⟨hk, rfl⟩
theorem storedH_keys {Kt : Type} [DecidableEq Kt] {xs : List (Kt × Addr × Value)} {k : Kt} {a : Addr} {v : Value} (j : Kt) : j ∈ (storedH xs k a v).map (·.1) ↔ j ∈ xs.map (·.1) ∨ j = k := by
  unfold storedH
  split
  · rename_i h
    rw [keys_map_putAt]
    constructor
    · exact .inl
    · rintro (z | z)
      · exact z
      · subst z
        cases q : atKey xs j with
        | none => rw [q] at h; cases h
        | some p =>
          unfold atKey at q
          obtain ⟨x, hx, e⟩ := Option.map_eq_some_iff.mp q
          have h1 := List.mem_of_find?_eq_some hx
          have h2 := List.find?_some hx
          exact List.mem_map.mpr ⟨x, h1, of_decide_eq_true h2⟩
  · rw [List.map_append, List.mem_append]
    simp
theorem storedAll_mem {Kt : Type} [DecidableEq Kt] {G : Kt → Addr → Prop} : ∀ {ps xs : List (Kt × Addr × Value)}, (∀ x ∈ xs, G x.1 x.2.1 ∧ x.2.2 = .bool true) → (∀ x ∈ ps, G x.1 x.2.1 ∧ x.2.2 = .bool true) → ∀ x ∈ storedAllH xs ps, G x.1 x.2.1 ∧ x.2.2 = .bool true
  | [], _, h, _ => h
  | p :: ps, xs, h, hp => storedAll_mem (ps := ps) (xs := storedH xs p.1 p.2.1 p.2.2) (by
      have h1 := hp p List.mem_cons_self
      rw [h1.2]
      exact storedH_mem h h1.1) fun x hx => hp x (List.mem_cons_of_mem _ hx)
theorem storedAll_keys {Kt : Type} [DecidableEq Kt] (j : Kt) : ∀ {ps xs : List (Kt × Addr × Value)}, j ∈ (storedAllH xs ps).map (·.1) ↔ j ∈ xs.map (·.1) ∨ j ∈ ps.map (·.1)
  | [], _ => by simp [storedAllH]
  | p :: ps, xs => by
    have := storedAll_keys j (ps := ps) (xs := storedH xs p.1 p.2.1 p.2.2)
    show j ∈ (storedAllH (storedH xs p.1 p.2.1 p.2.2) ps).map (·.1) ↔ _
    rw [this, storedH_keys, List.map_cons, List.mem_cons]
    constructor
    · rintro ((h | h) | h)
      · exact .inl h
      · exact .inr (.inl h)
      · exact .inr (.inr h)
    · rintro (h | h | h)
      · exact .inl (.inl h)
      · exact .inl (.inr h)
      · exact .inr h

def rDictT (K : PySem.W.Frag) : List V → Hp → VK → Prop := fun xs H Q => ∃ (a : Addr) (ts ks : List Addr) (ws : List (List Int)), xs = [.ref a] ∧ SqL K H a (ts.map V.ref) ∧ ts.length = ws.length ∧ ks.length = ws.length ∧
  (∀ (i : Nat) (t k : Addr) (w : List Int), ts[i]? = some t → ks[i]? = some k → ws[i]? = some w → SqT K H t [.ref k, .bl true] ∧ H k = some (.tup (w.map V.int))) ∧
  ∀ (p : Addr) (us : List (List Int)), H p = none → us.Nodup → (∀ w, w ∈ us ↔ w ∈ ws) → Q (.ref p) (upd H p (.dT (trues us)))
theorem call_dictT (hcalm : X.calm = true) (hu : X.A.units + 2 < cLine) : CallR X (.type "dict") (rDictT X.K) := by
  intro pins s σ H xs us Q I r h
  obtain ⟨a, ts, ks, ws, rfl, hq, l1, l2, hp, q⟩ := h
  obtain ⟨u, rfl, rx⟩ := vals1 r
  cases rx
  obtain ⟨its, rv, pl, hz⟩ := I.list hq
  obtain rfl := refs_at rv
  rw [List.length_map] at hz
  obtain ⟨o, n, ho, hc, hd, hdat⟩ := pl
  -- the pairs, by their places
  have at3 : ∀ i : Nat, i < ws.length → ∃ (t k : Addr) (w : List Int), ts[i]? = some t ∧ ks[i]? = some k ∧ ws[i]? = some w := fun i hi =>
    ⟨ts[i]'(by omega), ks[i]'(by omega), ws[i], List.getElem?_eq_getElem _, List.getElem?_eq_getElem _, List.getElem?_eq_getElem _⟩
  let psH : List (List Key × Addr × Value) := (ws.zip ks).map fun p => (key p.1, p.2, Value.bool true)
  let ps : List (Value × Value) := ks.map fun k => (Value.ref k, Value.bool true)
  have hps : ps.length = ws.length := by show (ks.map _).length = _; rw [List.length_map]; exact l2
  have hpsH : psH.length = ws.length := by show ((ws.zip ks).map _).length = _; rw [List.length_map, List.length_zip]; omega
  have psH_at : ∀ (i : Nat) (k : Addr) (w : List Int), ks[i]? = some k → ws[i]? = some w → psH[i]? = some (key w, k, Value.bool true) := fun i k w e1 e2 => by
    show ((ws.zip ks).map _)[i]? = _
    rw [List.getElem?_map, (List.getElem?_zip_eq_some (z := (w, k))).mpr ⟨e2, e1⟩]
    rfl
  have ok : PlainSeq "list" s.heap a (ts.map Value.ref).toArray ∧ PairItems s.heap (ts.map Value.ref).toArray (fun j => ts.getD j 0) ps := by
    refine ⟨⟨o, n, ho, hc, hd, hdat⟩, by simp [hps, l1], fun j k v hj => ?_⟩
    have hj' : j < ws.length := by rw [← hps]; exact (List.getElem?_eq_some_iff.mp hj).1
    obtain ⟨t, k', w, e1, e2, e3⟩ := at3 j hj'
    have ej : ps[j]? = some (Value.ref k', Value.bool true) := by
      show (ks.map _)[j]? = _
      rw [List.getElem?_map, e2]
      rfl
    rw [ej] at hj
    cases hj
    obtain ⟨h1, h2⟩ := hp j t k' w e1 e2 e3
    obtain ⟨its2, rv2, ht, _⟩ := I.tuple h1
    obtain ⟨u1, u2, rfl, r1, r2⟩ := vals2 rv2
    obtain rfl : u1 = Value.ref k' := r1
    obtain rfl : u2 = Value.bool true := r2
    refine ⟨by simp [e1, List.getD_eq_getElem?_getD], .inl ?_⟩
    show s.heap.IsTuple (ts.getD j 0) _
    rw [List.getD_eq_getElem?_getD, e1]
    exact ht
  have isk : ∀ h' : Heap, (∀ b o, s.heap.get? b = some o → h'.get? b = some o) → ∀ x ∈ psH, (tupleKind (mixKind X.prog X.w)).is h' x.1 x.2.1 := fun h' hk x hx => by
    obtain ⟨i, hi⟩ := List.mem_iff_getElem?.mp hx
    have hi' : i < ws.length := by rw [← hpsH]; exact (List.getElem?_eq_some_iff.mp hi).1
    obtain ⟨t, k', w, e1, e2, e3⟩ := at3 i hi'
    rw [psH_at i k' w e2 e3] at hi
    cases hi
    obtain ⟨_, h2⟩ := hp i t k' w e1 e2 e3
    obtain ⟨o, items, n, g1, g2⟩ := key_of (P := X.prog) (w := X.w) (ks := key w) I.hok (by rw [key_tup]; exact h2)
    exact ⟨o, items, n, hk _ _ g1, g2⟩
  refine call_dict_pairsH (knd := tupleKind (mixKind X.prog X.w)) (ps := psH) (PairArg.list a (ts.map Value.ref).toArray (fun j => ts.getD j 0) ps) (I.ok.hd hcalm) (show X.A.units + 2 < cLine from hu) ok
    ⟨by rw [hpsH, hps], fun i k v hi => ?_⟩ (fun h' hk x hx => isk h' (fun b o e => hk b o (Nat.ne_of_lt (Heap.lt_size e)) (by simp) e) x hx) (by rw [hps, ← l1]; exact hz) fun h' tk hd' hk => ?_
  · have hi' : i < ws.length := by rw [← hps]; exact (List.getElem?_eq_some_iff.mp hi).1
    obtain ⟨t, k', w, e1, e2, e3⟩ := at3 i hi'
    have ej : ps[i]? = some (Value.ref k', Value.bool true) := by
      show (ks.map _)[i]? = _
      rw [List.getElem?_map, e2]
      rfl
    have hi2 : ps[i]? = some (k, v) := hi
    rw [ej] at hi2
    cases hi2
    exact ⟨key w, k', psH_at i k' w e2 e3, rfl⟩
  · have hm : (s.heap.objs.size == sysModules) = false := beq_eq_false_iff_ne.mpr (Nat.ne_of_gt I.big)
    have hk' : ∀ b o, s.heap.get? b = some o → h'.get? b = some o := fun b o e => hk b o (by simp) e
    generalize hxs : storedAllH [] psH = xs at hd'
    have all : ∀ x ∈ xs, (∃ w ∈ ws, x.1 = key w ∧ H x.2.1 = some (.tup (w.map V.int))) ∧ x.2.2 = .bool true := by
      rw [← hxs]
      refine storedAll_mem (G := fun k b => ∃ w ∈ ws, k = key w ∧ H b = some (.tup (w.map V.int))) (fun x hx => nomatch hx) fun x hx => ?_
      obtain ⟨i, hi⟩ := List.mem_iff_getElem?.mp hx
      have hi' : i < ws.length := by rw [← hpsH]; exact (List.getElem?_eq_some_iff.mp hi).1
      obtain ⟨t, k', w, e1, e2, e3⟩ := at3 i hi'
      rw [psH_at i k' w e2 e3] at hi
      cases hi
      exact ⟨⟨w, List.mem_of_getElem? e3, rfl, (hp i t k' w e1 e2 e3).2⟩, rfl⟩
    obtain ⟨od, es, ep, g1, g2, g3, g4, g5, g6⟩ := hd'
    have fresh := I.hok.fresh (Nat.le_refl s.heap.objs.size)
    have hlen : xs.length ≤ sizeLine := by
      rw [← hxs]
      refine Nat.le_trans (storedAllH_length psH []) ?_
      rw [List.length_nil, Nat.zero_add, hpsH, ← l1]
      exact hz
    let us := xs.map fun x => unkey x.1
    have hkeys : us.map key = xs.map (·.1) := by
      show (xs.map _).map _ = _
      rw [List.map_map]
      refine List.map_congr_left fun x hx => ?_
      obtain ⟨⟨w, _, e, _⟩, _⟩ := all x hx
      show key (unkey x.1) = x.1
      rw [e, unkey_key]
    have hnd : us.Nodup := by
      have : (us.map key).Nodup := by rw [hkeys]; exact g6
      exact List.Pairwise.of_map key (fun a b hab e => hab (by rw [e])) this
    have hmem : ∀ w, w ∈ us ↔ w ∈ ws := fun w => by
      have e1 : w ∈ us ↔ key w ∈ xs.map (·.1) := by
        rw [← hkeys]
        constructor
        · intro h; exact List.mem_map.mpr ⟨w, h, rfl⟩
        · intro h
          obtain ⟨v, hv, e⟩ := List.mem_map.mp h
          rw [← key_inj e]; exact hv
      rw [e1, ← hxs, storedAll_keys]
      constructor
      · rintro (h | h)
        · cases h
        · obtain ⟨x, hx, e⟩ := List.mem_map.mp h
          have hx2 : x ∈ xs ∨ True := .inr trivial
          obtain ⟨i, hi⟩ := List.mem_iff_getElem?.mp hx
          have hi' : i < ws.length := by rw [← hpsH]; exact (List.getElem?_eq_some_iff.mp hi).1
          obtain ⟨t, k', w', e1, e2, e3⟩ := at3 i hi'
          rw [psH_at i k' w' e2 e3] at hi
          cases hi
          rw [← key_inj e]
          exact List.mem_of_getElem? e3
      · intro h
        obtain ⟨i, hi⟩ := List.mem_iff_getElem?.mp h
        obtain ⟨t, k', w', e1, e2, e3⟩ := at3 i (List.getElem?_eq_some_iff.mp hi).1
        rw [hi] at e3
        cases e3
        exact .inr (List.mem_map.mpr ⟨_, List.mem_of_getElem? (psH_at i k' w e2 hi), rfl⟩)
    have rel : KT (upd H s.heap.objs.size (.dT (trues us))) (trues us) xs := by
      have go : ∀ l : List (List Key × Addr × Value), (∀ x ∈ l, (∃ w ∈ ws, x.1 = key w ∧ H x.2.1 = some (.tup (w.map V.int))) ∧ x.2.2 = .bool true) → KT (upd H s.heap.objs.size (.dT (trues us))) (trues (l.map fun x => unkey x.1)) l := by
        intro l
        induction l with
        | nil => intro _; exact .nil
        | cons x l ih =>
          intro hl
          obtain ⟨⟨w, _, e1, e2⟩, e3⟩ := hl x List.mem_cons_self
          refine .cons ⟨?_, ?_, ?_⟩ (ih fun y hy => hl y (List.mem_cons_of_mem _ hy))
          · show key (unkey x.1) = x.1
            rw [e1, unkey_key]
          · show upd H _ _ x.2.1 = some (.tup ((key (unkey x.1)).map kV))
            rw [upd_ne (ne_of_none e2 fresh), e2, key_tup, e1, unkey_key]
          · show RelV (V.bl true) x.2.2
            rw [e3]; rfl
      exact go xs all
    exact ⟨.ref s.heap.objs.size, upd H s.heap.objs.size (.dT (trues us)), I.laid (t' := tk) hk' (Nat.le_refl _) (show ObjOk X.prog X.w _ _ _ (.dT (trues us)) from ⟨by rw [trues_len]; show (xs.map _).length ≤ _; rw [List.length_map]; exact hlen, hm, xs, rel, od, es, ep, g1, g2, g3, g4, g6⟩), rfl,
      q _ us fresh hnd hmem⟩
end
end K80
/-! The text by places, what stands in the heap, a def by its name. -/
namespace K80
open PySem PySem.Spec PyProof.Rows L2

/-! ### the text -/
def topS (i : Nat) : Stmt := PySem.Challenge.pw_orderrows_k80_whole_laid_and_stretched.main.body.getD i (.Pass ⟨0, 0, 0, 0⟩)

/-! ### heaps -/
theorem same_upd {H : Hp} {p : Addr} {o : HO} (h : H p = none) : Same H (upd H p o) := fun b x e => by
  rw [upd_ne (ne_of_none e h)]
  exact e
/-- all but b stands as it did -/
def But (b : Addr) (H H' : Hp) : Prop := ∀ c o, c ≠ b → H c = some o → H' c = some o
theorem But.refl (b : Addr) (H : Hp) : But b H H := fun _ _ _ h => h
theorem But.trans {b : Addr} {H H1 H2 : Hp} (a : But b H H1) (c : But b H1 H2) : But b H H2 := fun x o h e => c x o h (a x o h e)
theorem But.upd {b : Addr} {H : Hp} (o : HO) : But b H (L2.upd H b o) := fun c x h e => by rw [upd_ne h]; exact e
theorem same_but {b : Addr} {H H' : Hp} (s : Same H H') : But b H H' := fun c o _ e => s c o e
theorem But.same {b : Addr} {H H1 H' : Hp} (n : H b = none) (k : Same H H1) (s : But b H1 H') : Same H H' := fun c o e => s c o (ne_of_none e n) (k c o e)

/-- a tuple of ints that is tracked -/
abbrev TupI (H : Hp) (a : Addr) (ns : List Int) : Prop := H a = some (.tup (ns.map V.int))
/-- tuples of ints, one by one -/
def TupsAt (H : Hp) (as : List Addr) (ws : List (List Int)) : Prop := as.length = ws.length ∧ ∀ (i : Nat) (a : Addr) (w : List Int), as[i]? = some a → ws[i]? = some w → TupI H a w
/-- pairs of a tuple of ints and some value, one by one -/
def PairsAt (H : Hp) (ps : List Addr) (ws : List (List Int)) : Prop := ps.length = ws.length ∧ ∀ (i : Nat) (p : Addr) (w : List Int), ps[i]? = some p → ws[i]? = some w → ∃ (a : Addr) (v : V), H p = some (.tup [.ref a, v]) ∧ TupI H a w
theorem TupsAt.same {H H' : Hp} {as : List Addr} {ws : List (List Int)} (s : Same H H') (t : TupsAt H as ws) : TupsAt H' as ws := ⟨t.1, fun i a w h1 h2 => s _ _ (t.2 i a w h1 h2)⟩
theorem PairsAt.same {H H' : Hp} {as : List Addr} {ws : List (List Int)} (s : Same H H') (t : PairsAt H as ws) : PairsAt H' as ws := ⟨t.1, fun i a w h1 h2 => let ⟨b, v, e1, e2⟩ := t.2 i a w h1 h2; ⟨b, v, s _ _ e1, s _ _ e2⟩⟩
theorem TupsAt.nil (H : Hp) : TupsAt H [] [] := ⟨rfl, fun i a w h _ => by simp at h⟩
theorem PairsAt.nil (H : Hp) : PairsAt H [] [] := ⟨rfl, fun i a w h _ => by simp at h⟩
theorem TupsAt.snoc {H : Hp} {as : List Addr} {ws : List (List Int)} {a : Addr} {w : List Int} (t : TupsAt H as ws) (h : TupI H a w) : TupsAt H (as ++ [a]) (ws ++ [w]) := by
  refine ⟨by rw [List.length_append, List.length_append, t.1]; rfl, fun i b x h1 h2 => ?_⟩
  by_cases hi : i < as.length
  · rw [List.getElem?_append_left hi] at h1
    rw [List.getElem?_append_left (by rw [← t.1]; exact hi)] at h2
    exact t.2 i b x h1 h2
  · rw [List.getElem?_append_right (by omega)] at h1
    rw [List.getElem?_append_right (by rw [← t.1]; omega), ← t.1] at h2
    cases e : i - as.length with
    | zero =>
      rw [e] at h1 h2
      cases h1
      cases h2
      exact h
    | succ j => rw [e] at h1; simp at h1
theorem PairsAt.snoc {H : Hp} {as : List Addr} {ws : List (List Int)} {p a : Addr} {v : V} {w : List Int} (t : PairsAt H as ws) (h : H p = some (.tup [.ref a, v])) (h' : TupI H a w) : PairsAt H (as ++ [p]) (ws ++ [w]) := by
  refine ⟨by rw [List.length_append, List.length_append, t.1]; rfl, fun i b x h1 h2 => ?_⟩
  by_cases hi : i < as.length
  · rw [List.getElem?_append_left hi] at h1
    rw [List.getElem?_append_left (by rw [← t.1]; exact hi)] at h2
    exact t.2 i b x h1 h2
  · rw [List.getElem?_append_right (by omega)] at h1
    rw [List.getElem?_append_right (by rw [← t.1]; omega), ← t.1] at h2
    cases e : i - as.length with
    | zero =>
      rw [e] at h1 h2
      cases h1
      cases h2
      exact ⟨a, v, h, h'⟩
    | succ j => rw [e] at h1; simp at h1
theorem TupsAt.get {H : Hp} {as : List Addr} {ws : List (List Int)} (t : TupsAt H as ws) {i : Nat} {a : Addr} (h : as[i]? = some a) : ∃ w, ws[i]? = some w ∧ TupI H a w := by
  have hi : i < ws.length := by rw [← t.1]; exact (List.getElem?_eq_some_iff.mp h).1
  exact ⟨ws[i], List.getElem?_eq_getElem hi, t.2 i a _ h (List.getElem?_eq_getElem hi)⟩
theorem TupsAt.getW {H : Hp} {as : List Addr} {ws : List (List Int)} (t : TupsAt H as ws) {i : Nat} {w : List Int} (h : ws[i]? = some w) : ∃ a, as[i]? = some a ∧ TupI H a w := by
  have hi : i < as.length := by rw [t.1]; exact (List.getElem?_eq_some_iff.mp h).1
  exact ⟨as[i], List.getElem?_eq_getElem hi, t.2 i _ w (List.getElem?_eq_getElem hi) h⟩
theorem map_ref_get {as : List Addr} {i : Nat} {v : V} (h : (as.map V.ref)[i]? = some v) : ∃ a, as[i]? = some a ∧ v = .ref a := by
  rw [List.getElem?_map] at h
  cases e : as[i]? with
  | none => rw [e] at h; cases h
  | some a =>
    rw [e] at h
    exact ⟨a, rfl, (Option.some.inj h).symm⟩
theorem map_int_get {ns : List Int} {i : Nat} {v : V} (h : (ns.map V.int)[i]? = some v) : ∃ n, ns[i]? = some n ∧ v = .int n := by
  rw [List.getElem?_map] at h
  cases e : ns[i]? with
  | none => rw [e] at h; cases h
  | some a =>
    rw [e] at h
    exact ⟨a, rfl, (Option.some.inj h).symm⟩
theorem line_lt {n : Nat} (h : n ≤ 1000000) : n < sizeLine := Nat.lt_of_le_of_lt h (by decide)
theorem line_le {n : Nat} (h : n ≤ 1000000) : n ≤ sizeLine := Nat.le_of_lt (line_lt h)

/-! ### rows -/
theorem n_things : ¬ (("n" : Str) = "things") := by decide +kernel
def rowF (n : Int) (a : Addr) : List (Str × V) := putF "things" (.ref a) (putF "n" (.int n) [])
theorem rowF_n (n : Int) (a : Addr) : (rowF n a).lookup ("n" : Str) = some (.int n) := by
  unfold rowF
  rw [lookup_putF, if_neg n_things, lookup_putF, if_pos rfl]
theorem rowF_things (n : Int) (a : Addr) : (rowF n a).lookup ("things" : Str) = some (.ref a) := by
  unfold rowF
  rw [lookup_putF, if_pos rfl]
theorem rowF_no (n : Int) (a : Addr) {m : Str} (h1 : ¬ m = "n") (h2 : ¬ m = "things") : (rowF n a).lookup m = none := by
  unfold rowF
  rw [lookup_putF, if_neg h2, lookup_putF, if_neg h1]
  all_goals rfl
/-- a Plain stands at p: n, and its things at a -/
structure RowAt (C : Addr) (H : Hp) (p : Addr) (n : Int) (a : Addr) (ns : List Int) : Prop where
  ob : ∃ dx, H p = some (.ins C dx (rowF n a))
  th : TupI H a ns
theorem RowAt.same {C : Addr} {H H' : Hp} {p a : Addr} {n : Int} {ns : List Int} (s : Same H H') (r : RowAt C H p n a ns) : RowAt C H' p n a ns := ⟨let ⟨dx, e⟩ := r.ob; ⟨dx, s _ _ e⟩, s _ _ r.th⟩
theorem RowAt.but {C : Addr} {H H' : Hp} {p a b : Addr} {n : Int} {ns : List Int} {xs : List V} (hb : H b = some (.lst xs)) (s : But b H H') (r : RowAt C H p n a ns) : RowAt C H' p n a ns :=
  ⟨let ⟨dx, e⟩ := r.ob; ⟨dx, s _ _ (ne_of e hb (by intro z; cases z)) e⟩, s _ _ (ne_of r.th hb (by intro z; cases z)) r.th⟩
/-- what a row's n and things must be -/
structure RowOk (n : Int) (ns : List Int) : Prop where
  n1 : 1 ≤ n
  n2 : n ≤ 26
  len1 : 1 ≤ ns.length
  len2 : ns.length ≤ 100000
  all : ∀ x ∈ ns, 0 ≤ x ∧ x < n

/-! ### a def by its name -/
/-- the def x of the module as it stands behind the top -/
def Df (K : PySem.W.Frag) (mg : Str → Option Value) (x : Str) (st : Stmt) : Prop := ∃ f fd, mg x = some (.ref f) ∧ Fun K x x st f fd
/-- the def x keeps the promise sp, at the level k -/
def Gd (P : Program) (w : World) (K : PySem.W.Frag) (mg : Str → Option Value) (base : Heap) (x : Str) (k : Nat) (ps : List Str) (sp : Sp) : Prop :=
  ∃ f fd, mg x = some (.ref f) ∧ PySem.W.keepIn K (.ref f) = true ∧ FnOk P w K mg base CX0 k f fd ps sp ∧ Binds K fd ps []
/-- the method m of the class at C keeps the promise sp -/
def Gm (P : Program) (w : World) (K : PySem.W.Frag) (mg : Str → Option Value) (base : Heap) (C : Addr) (m : Str) (k : Nat) (ps : List Str) (sp : Sp) : Prop :=
  ∃ f fd, Meth K C m f ∧ FnOk P w K mg base CX0 k f fd ps sp ∧ Binds K fd ps []
section
variable {X : Cx} {k j : Nat} {C : Addr} {ps : List Str} {sp : Sp} {x m : Str} {p pos apos : Pos} {e o : Expr} {es : List Expr} {ta : TE} {t : TA}
theorem pe_g (G : Gd X.prog X.w X.K X.mg X.base x k ps sp) (hr : Room j X.A) (hg : Gl X x) (ha : PA X (e :: es) t) (hj : k ≤ j := by decide)
    (hdb : (x == ("__debug__" : Str)) = false := by decide) (he : starEach (e :: es) X.env = (false, eval e X.env) :: starEach es X.env := by rfl) (hpl : (backTo pos (starEach es X.env)).any (·.1) = false := by rfl) :
    PE X (.Call (.Name x p) (e :: es) [] pos) (tCall sp [] E0 t) := by
  obtain ⟨f, fd, g, kp, F, b⟩ := G
  exact pe_call F (hr.mono hj) hg g kp b .nil pass0 ha hdb he hpl
theorem pe_gm {pl : Sem Bool} (G : Gm X.prog X.w X.K X.mg X.base C m k ps sp) (hr : Room j X.A) (he : PE X o ta) (c : Cls X.K C) (ha : PA X (e :: es) t) (hj : k ≤ j := by decide)
    (hst : starEach (e :: es) X.env = (false, eval e X.env) :: starEach es X.env := by rfl) (hpl : (backTo pos (starEach es X.env)).any (·.1) = false := by rfl)
    (ht : eval (.Call (.Attribute o m apos) (e :: es) [] pos) X.env = (do
      let ov ← eval o X.env
      standAt apos.atName
      let (f, first) ← holding [ov] (getMethod ov m pl)
      callWith pos f first (backTo pos (starEach (e :: es) X.env)) (backToKw pos (keywordEach [] X.env))) := by rfl) :
    PE X (.Call (.Attribute o m apos) (e :: es) [] pos) (tMeth C m sp [] E0 ta t) := by
  obtain ⟨f, fd, M, F, b⟩ := G
  exact pe_meth he c M F (hr.mono hj) b .nil pass0 ha hst hpl ht
theorem pe_gm0 {pl : Sem Bool} (G : Gm X.prog X.w X.K X.mg X.base C m k ps sp) (hr : Room j X.A) (he : PE X o ta) (c : Cls X.K C) (hj : k ≤ j := by decide)
    (ht : eval (.Call (.Attribute o m apos) [] [] pos) X.env = (do
      let ov ← eval o X.env
      standAt apos.atName
      let (f, first) ← holding [ov] (getMethod ov m pl)
      callWith pos f first (backTo pos (starEach [] X.env)) (backToKw pos (keywordEach [] X.env))) := by rfl) :
    PE X (.Call (.Attribute o m apos) [] [] pos) (tMeth C m sp [] E0 ta tNil) := by
  obtain ⟨f, fd, M, F, b⟩ := G
  exact pe_meth0 he c M F (hr.mono hj) b .nil pass0 ht
end
section
variable {P : Program} {w : World} {K : PySem.W.Frag} {mg : Str → Option Value} {base : Heap}
theorem Gd.mk {x : Str} {st : Stmt} {k : Nat} {ps : List Str} {sp : Sp} (D : Df K mg x st) (ok : ∀ f fd, Fun K x x st f fd → FnOk P w K mg base CX0 k f fd ps sp)
    (h : ∀ (kV doc pm : Value) (an : Option Addr) (cdv ct : Value) (us : List Value), us.length = ps.length → bindArgs (PySem.W.fnOf x x (defArgs st) (defBody st) (defScope st) .none kV doc pm an cdv ct) ⟨us, []⟩ = pure (ps.zip us)) : Gd P w K mg base x k ps sp := by
  obtain ⟨f, fd, g, F⟩ := D
  exact ⟨f, fd, g, F.kp, ok f fd F, F.binds h⟩
end

/-- what the walk asks of the module: its names, its classes -/
structure Txt (K : PySem.W.Frag) (mg : Str → Option Value) (C : Addr) : Prop where
  cl : Cls K C
  nN : NoAttr K C "n"
  nT : NoAttr K C "things"
  gC : mg "Plain" = some (.ref C)
  most : ∃ t, mg "MOST_THINGS" = some (.int 26 t)
  abs : mg "abs" = none
  len : mg "len" = none
  min : mg "min" = none
  max : mg "max" = none
  range : mg "range" = none
  set : mg "set" = none
  tuple : mg "tuple" = none
  list : mg "list" = none
  int : mg "int" = none
  bool : mg "bool" = none
  dict : mg "dict" = none
  isinstance : mg "isinstance" = none
  all : mg "all" = none
  zip : mg "zip" = none
  enumerate : mg "enumerate" = none
end K80
/-! The law's draws. -/
namespace K80
open PySem PySem.Spec PyProof.Rows L2
section
variable {P : Program} {w : World} {K : PySem.W.Frag} {mg : Str → Option Value} {base : Heap} {C : Addr}

/-! ### _law_take -/
abbrev sTake : Stmt := topS 28
theorem scTake : FnScope ["_law_box_here", "_law_many", "_law_digit"] ["_law_box_here", "_law_many"] (defScope sTake) := ⟨rfl, rfl, rfl, by decide +kernel, rfl, by decide +kernel, by decide +kernel⟩
def BoxAt (H : Hp) (b : Addr) : Prop := ∃ x y z : Int, H b = some (.lst [.int x, .int y, .int z])
theorem BoxAt.same {H H' : Hp} {b : Addr} (s : Same H H') (h : BoxAt H b) : BoxAt H' b := let ⟨x, y, z, e⟩ := h; ⟨x, y, z, s _ _ e⟩
def spTake : Sp := fun vs H Q _ => ∃ (b : Addr) (m : Int), vs = [.ref b, .int m] ∧ BoxAt H b ∧ 0 < m ∧ m < 1073741824 ∧ ∀ (r : Int) H', 0 ≤ r → r < m → BoxAt H' b → But b H H' → Q (.int r) H'
theorem ok_take {f : Addr} {fd : FuncData} (F : Fun K "_law_take" "_law_take" sTake f fd) : FnOk P w K mg base CX0 1 f fd ["_law_box_here", "_law_many"] spTake := by
  refine F.ok scTake (fun vs H Q E h => ?_) (fun cdv A outer s H vs Q E hr h => ?_)
  · obtain ⟨b, m, rfl, _⟩ := h
    rfl
  · obtain ⟨b, m, rfl, ⟨x, y, z, hb⟩, h0, h1, q⟩ := h
    have nd := scTake.nd
    refine ⟨_, pss_cons (ps_if (pt_cmpR op_gt (pe_ix ix_list (pv 0) pe_int (fun _ _ => rfl)) pe_int (nomark _))
        (pss_cons (ps_set (i := 2) nd rfl (.inl rfl) (pe_op op_mod (pe_ix ix_list (pv 0) pe_int (fun _ _ => rfl)) (pv 1)))
        (pss_cons (ps_asg (pe_op op_fdiv (pe_ix ix_list (pv 0) pe_int (fun _ _ => rfl)) (pv 1)) (pg_sub (pv 0) pe_int set_list))
        (pss_one (ps_ret (pv 2))))) pss_nil)
      (pss_cons (ps_asg (pe_op op_add (pe_ix ix_list (pv 0) pe_int (fun _ _ => rfl)) pe_int) (pg_sub (pv 0) pe_int set_list))
      (pss_cons (ps_asg (pe_op op_mod (pe_op op_add (pe_op op_add (pe_op op_mul (pe_ix ix_list (pv 0) pe_int (fun _ _ => rfl)) pe_int) pe_int) (pe_op op_mul pe_int (pe_ix ix_list (pv 0) pe_int (fun _ _ => rfl)))) pe_int) (pg_sub (pv 0) pe_int set_list))
      (pss_one (ps_ret (pe_op op_mod (pe_op op_fdiv (pe_op op_mod (pe_op op_mul (pe_ix ix_list (pv 0) pe_int (fun _ _ => rfl)) (pe_op op_add (pe_op op_mod (pe_ix ix_list (pv 0) pe_int (fun _ _ => rfl)) pe_int) pe_int)) pe_int) pe_int) (pv 1)))))), ?_⟩
    refine ⟨_, rfl, b, _, 0, .int x, rfl, rfl, SqL.of hb, rfl, _, _, rfl, rfl, _, rfl, ite2 (fun h => ?_) (fun h => ?_)⟩
    · -- digit = box[0] % many; box[0] = box[0] // many; return digit
      refine ⟨_, rfl, b, _, 0, .int x, rfl, rfl, SqL.of hb, rfl, _, rfl, _, _, rfl, rfl, h0, ?_⟩
      refine ⟨_, rfl, b, _, 0, .int x, rfl, rfl, SqL.of hb, rfl, _, rfl, _, _, rfl, rfl, ⟨h0, h1⟩, _, rfl, b, _, 0, 0, rfl, rfl, hb, rfl, ?_⟩
      refine ⟨_, rfl, ?_⟩
      exact q _ _ (Int.emod_nonneg _ (by omega)) (Int.emod_lt_of_pos _ h0) ⟨_, _, _, upd_same⟩ (But.upd _)
    · refine ⟨_, rfl, b, _, 2, .int z, rfl, rfl, SqL.of hb, rfl, _, _, rfl, rfl, _, rfl, b, _, 2, 2, rfl, rfl, hb, rfl, ?_⟩
      have hb2 : upd H b (.lst [.int x, .int y, .int (z + 1)]) b = some (.lst [.int x, .int y, .int (z + 1)]) := upd_same
      refine ⟨_, rfl, b, _, 1, .int y, rfl, rfl, SqL.of hb2, rfl, _, _, rfl, rfl, .inr (by decide), _, _, rfl, rfl, _, rfl, b, _, 2, .int (z + 1), rfl, rfl, SqL.of hb2, rfl, _, _, rfl, rfl, .inl (by decide), _, _, rfl, rfl, _, _, rfl, rfl, (by show (0 : Int) < 2147483647; decide), ?_⟩
      refine ⟨_, rfl, b, _, 1, 1, rfl, rfl, hb2, rfl, ?_⟩
      rw [upd_upd]
      obtain ⟨y2, hy⟩ : ∃ y2 : Int, y2 = (y * 48271 + 12345 + 7919 * (z + 1)) % 2147483647 := ⟨_, rfl⟩
      have hb3 : upd H b (.lst [.int x, .int ((y * 48271 + 12345 + 7919 * (z + 1)) % 2147483647), .int (z + 1)]) b = some (.lst [.int x, .int ((y * 48271 + 12345 + 7919 * (z + 1)) % 2147483647), .int (z + 1)]) := upd_same
      refine ⟨_, rfl, b, _, 1, _, rfl, rfl, SqL.of hb3, rfl, _, rfl, b, _, 1, _, rfl, rfl, SqL.of hb3, rfl, _, _, rfl, rfl, (by show (0 : Int) < 40009; decide), _, _, rfl, rfl, _, _, rfl, rfl, .inr ?_, _, _, rfl, rfl, (by show (0 : Int) < 2147483629; decide), _, _, rfl, rfl, ⟨by decide, by decide⟩, _, rfl, _, _, rfl, rfl, h0, ?_⟩
      · rw [← hy]
        have e1 := Int.emod_nonneg y2 (show (40009 : Int) ≠ 0 by decide)
        have e2 := Int.emod_lt_of_pos y2 (show (0 : Int) < 40009 by decide)
        omega
      · exact q _ _ (Int.emod_nonneg _ (by omega)) (Int.emod_lt_of_pos _ h0) ⟨_, _, _, hb3⟩ (But.upd _)
theorem gd_take (D : Df K mg "_law_take" sTake) : Gd P w K mg base "_law_take" 1 ["_law_box_here", "_law_many"] spTake :=
  Gd.mk D (fun _ _ F => ok_take F) fun _ _ _ _ _ _ us hl => match us, hl with | [_, _], _ => rfl
end
end K80
/-! The law's draws, further: box, n, k, sizes. -/
namespace K80
open PySem PySem.Spec PyProof.Rows L2
/-! ### a way's end told apart from what follows -/
section
variable {X : Cx} {e : Expr} {te : TE} {st : Stmt} {t : TS}
def tCut (t : TE) : TE := fun σ H Q => ∃ R : VK, t σ H R ∧ ∀ v H', R v H' → Q v H'
theorem pe_cut (h : PE X e te) : PE X e (tCut te) := ⟨fun pins s σ H Q I ⟨R, h1, h2⟩ => thn (h.run pins s σ H R I h1) fun u s' ⟨v, H', I', r, q⟩ => ⟨v, H', I', r, h2 v H' q⟩⟩
def sCut (t : TS) : TS := fun D σ H => ∃ R : L2.St → Hp → Prop, t { D with nx := R } σ H ∧ ∀ σ' H', R σ' H' → D.nx σ' H'
theorem ps_cut (h : PS X st t) : PS X st (sCut t) := by
  refine ⟨fun pins s σ H D I hw => ?_⟩
  obtain ⟨R, h1, h2⟩ := hw
  refine thn (h.run pins s σ H { D with nx := R } I h1) fun f s' q => ?_
  cases f with
  | next => obtain ⟨σ', H', I', r⟩ := q; exact ⟨σ', H', I', h2 σ' H' r⟩
  | brk => exact q
  | cont => exact q
  | ret v => exact q
end
section
variable {P : Program} {w : World} {K : PySem.W.Frag} {mg : Str → Option Value} {base : Heap} {C : Addr}

/-! ### _law_box -/
abbrev sBox : Stmt := topS 27
theorem scBox : FnScope ["_law_script", "_law_k_here", "_law_cell", "_law_left"] ["_law_script", "_law_k_here"] (defScope sBox) := ⟨rfl, rfl, rfl, by decide +kernel, rfl, by decide +kernel, by decide +kernel⟩
def spBox (K : PySem.W.Frag) : Sp := fun vs H Q _ => ∃ (a : Addr) (k : Nat) (ns : List Int), vs = [.ref a, .int k] ∧ SqL K H a (ns.map V.int) ∧ ∀ H' p, Same H H' → H p = none → BoxAt H' p → Q (.ref p) H'
theorem ok_box (T : Txt K mg C) {f : Addr} {fd : FuncData} (F : Fun K "_law_box" "_law_box" sBox f fd) : FnOk P w K mg base CX0 1 f fd ["_law_script", "_law_k_here"] (spBox K) := by
  refine F.ok scBox (fun vs H Q E h => ?_) (fun cdv A outer s H vs Q E hr h => ?_)
  · obtain ⟨a, k, ns, rfl, _⟩ := h
    rfl
  · obtain ⟨a, k, ns, rfl, hS, q⟩ := h
    have nd := scBox.nd
    refine ⟨_, pss_cons (ps_set (i := 2) nd rfl (.inl rfl) (pe_cut (pe_ifExp (pt_cmpR op_lt (pv 1) (pe_callB call_len_seq (by rfl) T.len PySem.boot_len (pa_cons (pv 0) pa_nil)) (nomark _))
        (pe_callB call_abs (by rfl) T.abs (by decide +kernel) (pa_cons (pe_ix ix_list (pv 0) (pv 1) (fun _ _ => rfl)) pa_nil)) pe_int)))
      (pss_cons (ps_set (i := 3) nd rfl (.inl rfl) (pe_cut (pe_ifExp (pt_cmpR op_ge (pv 2) (pe_op op_pow pe_int pe_int) (nomark _)) (pv 2) pe_int)))
      (pss_one (ps_ret (pe_lst (pa_cons (pv 3) (pa_cons (pe_op op_mod (pe_op op_mul (pe_op op_add (pe_op op_add (pe_op op_mod (pv 2) pe_int) (pe_op op_mul pe_int (pv 1))) pe_int) pe_int) pe_int) (pa_cons pe_int pa_nil))))))), ?_⟩
    refine ⟨fun v H' => ∃ i : Int, v = .int i ∧ H' = H, ?_, ?_⟩
    · refine ⟨_, rfl, _, rfl, a, _, rfl, .inl hS, _, _, rfl, rfl, _, rfl, ite2 (fun h => ?_) (fun h => ?_)⟩
      · have h1 : (k : Int) < ((ns.map V.int).length : Int) := of_decide_eq_true h
        have h2 : k < ns.length := by rw [List.length_map] at h1; omega
        refine ⟨_, rfl, _, rfl, a, _, _, .int ns[k], rfl, rfl, hS, atI_nat (j := k) ?_, _, rfl, _, rfl, rfl⟩
        rw [List.getElem?_map, List.getElem?_eq_getElem h2]
        rfl
      · exact ⟨_, rfl, rfl⟩
    · rintro v H' ⟨c, rfl, rfl⟩
      refine ⟨fun v H2 => ∃ i : Int, v = .int i ∧ H2 = H', ?_, ?_⟩
      · refine ⟨_, rfl, _, _, rfl, rfl, ⟨by decide, by decide, by decide⟩, _, _, rfl, rfl, _, rfl, ite2 (fun h => ?_) (fun h => ?_)⟩
        · exact ⟨_, rfl, _, rfl, rfl⟩
        · exact ⟨_, rfl, rfl⟩
      · rintro v H2 ⟨d, rfl, rfl⟩
        refine ⟨_, rfl, _, rfl, _, _, rfl, rfl, (by show (0 : Int) < 2147483629; decide), _, rfl, _, _, rfl, rfl, .inl (by decide), _, _, rfl, rfl, _, _, rfl, rfl, _, _, rfl, rfl, .inr (by decide), _, _, rfl, rfl, (by show (0 : Int) < 2147483647; decide), line_le (by show 3 ≤ 1000000; decide), fun p np => ?_⟩
        exact q _ _ (same_upd np) np ⟨_, _, _, upd_same⟩
theorem gd_box (T : Txt K mg C) (D : Df K mg "_law_box" sBox) : Gd P w K mg base "_law_box" 1 ["_law_script", "_law_k_here"] (spBox K) :=
  Gd.mk D (fun _ _ F => ok_box T F) fun _ _ _ _ _ _ us hl => match us, hl with | [_, _], _ => rfl

/-! ### _law_n -/
abbrev sN : Stmt := topS 29
theorem scN : FnScope ["_law_box_here", "_law_way"] ["_law_box_here"] (defScope sN) := ⟨rfl, rfl, rfl, by decide +kernel, rfl, by decide +kernel, by decide +kernel⟩
def spN : Sp := fun vs H Q _ => ∃ b : Addr, vs = [.ref b] ∧ BoxAt H b ∧ ∀ (n : Int) H', 1 ≤ n → n ≤ 26 → BoxAt H' b → But b H H' → Q (.int n) H'
theorem menu8 {e : Int} (h0 : 0 ≤ e) (h1 : e ≤ 7) : ∃ v : Int, atI [V.int 1, V.int 2, V.int 3, V.int 3, V.int 4, V.int 4, V.int 5, V.int 6] e = some (.int v) ∧ 1 ≤ v ∧ v ≤ 26 := by
  have : e = 0 ∨ e = 1 ∨ e = 2 ∨ e = 3 ∨ e = 4 ∨ e = 5 ∨ e = 6 ∨ e = 7 := by omega
  rcases this with rfl | rfl | rfl | rfl | rfl | rfl | rfl | rfl <;> exact ⟨_, rfl, by decide, by decide⟩
theorem ok_n {f : Addr} {fd : FuncData} (F : Fun K "_law_n" "_law_n" sN f fd) (GT : Gd P w K mg base "_law_take" 1 ["_law_box_here", "_law_many"] spTake) : FnOk P w K mg base CX0 2 f fd ["_law_box_here"] spN := by
  refine F.ok scN (fun vs H Q E h => ?_) (fun cdv A outer s H vs Q E hr h => ?_)
  · obtain ⟨b, rfl, _⟩ := h
    rfl
  · obtain ⟨b, rfl, hb, q⟩ := h
    have nd := scN.nd
    refine ⟨_, pss_cons (ps_set (i := 1) nd rfl (.inl rfl) (pe_g GT hr (by rfl) (pa_cons (pv 0) (pa_cons pe_int pa_nil))))
      (pss_cons (ps_if (pt_cmpR op_gt (pv 1) pe_int (nomark _)) (pss_one (ps_ret (pe_ix ix_list (pe_lst (pa_cons pe_int (pa_cons (pe_op op_add pe_int (pe_g GT hr (by rfl) (pa_cons (pv 0) (pa_cons pe_int pa_nil)))) pa_nil))) (pe_op op_sub (pv 1) pe_int) (fun _ _ => rfl)))) pss_nil)
      (pss_one (ps_ret (pe_ix ix_list (pe_lst (pa_cons pe_int (pa_cons pe_int (pa_cons pe_int (pa_cons pe_int (pa_cons pe_int (pa_cons pe_int (pa_cons pe_int (pa_cons pe_int pa_nil))))))))) (pv 1) (fun _ _ => rfl))))), ?_⟩
    refine ⟨_, rfl, b, 10, rfl, hb, by decide, by decide, fun r H1 r0 r1 hb1 s1 => ?_⟩
    refine ⟨_, rfl, _, _, rfl, rfl, _, rfl, ite2 (fun h => ?_) (fun h => ?_)⟩
    · have h7 : 7 < r := of_decide_eq_true h
      refine ⟨_, rfl, b, 26, rfl, hb1, by decide, by decide, fun r2 H2 r20 r21 hb2 s2 => ?_⟩
      refine ⟨_, _, rfl, rfl, line_le (by show 2 ≤ 1000000; decide), fun l nl => ?_⟩
      refine ⟨_, rfl, _, _, rfl, rfl, ?_⟩
      have : r = 8 ∨ r = 9 := by omega
      rcases this with rfl | rfl
      · refine ⟨l, _, _, .int 26, rfl, rfl, SqL.of upd_same, rfl, ?_⟩
        exact q _ _ (by decide) (by decide) (hb2.same (same_upd nl)) (s1.trans (s2.trans (same_but (same_upd nl))))
      · refine ⟨l, _, _, .int (1 + r2), rfl, rfl, SqL.of upd_same, rfl, ?_⟩
        exact q _ _ (by omega) (by omega) (hb2.same (same_upd nl)) (s1.trans (s2.trans (same_but (same_upd nl))))
    · have h7 : ¬ 7 < r := fun z => h (decide_eq_true z)
      refine ⟨line_le (by show 8 ≤ 1000000; decide), fun l nl => ?_⟩
      obtain ⟨v, e, v0, v1⟩ := menu8 (e := r) r0 (by omega)
      refine ⟨_, rfl, l, _, _, .int v, rfl, rfl, SqL.of upd_same, e, ?_⟩
      exact q _ _ v0 v1 (hb1.same (same_upd nl)) (s1.trans (same_but (same_upd nl)))
theorem gd_n (D : Df K mg "_law_n" sN) (GT : Gd P w K mg base "_law_take" 1 ["_law_box_here", "_law_many"] spTake) : Gd P w K mg base "_law_n" 2 ["_law_box_here"] spN :=
  Gd.mk D (fun _ _ F => ok_n F GT) fun _ _ _ _ _ _ us hl => match us, hl with | [_], _ => rfl

/-! ### _law_k -/
abbrev sK : Stmt := topS 30
theorem scK : FnScope ["_law_box_here", "_law_n_here"] ["_law_box_here", "_law_n_here"] (defScope sK) := ⟨rfl, rfl, rfl, by decide +kernel, rfl, by decide +kernel, by decide +kernel⟩
def spK : Sp := fun vs H Q _ => ∃ (b : Addr) (n : Int), vs = [.ref b, .int n] ∧ BoxAt H b ∧ 1 ≤ n ∧ n ≤ 26 ∧ ∀ (k : Nat) H', 1 ≤ k → (k : Int) ≤ n → BoxAt H' b → But b H H' → Q (.int k) H'
theorem menu5 {e n a b c : Int} (h0 : 0 ≤ e) (h1 : e < 5) (hn : 1 ≤ n) (ha : 1 ≤ a ∧ a ≤ n) (hb : 1 ≤ b ∧ b ≤ n) (hc : 1 ≤ c ∧ c ≤ n) : ∃ v : Nat, atI [V.int n, V.int a, V.int b, V.int 1, V.int c] e = some (.int (v : Int)) ∧ 1 ≤ v ∧ (v : Int) ≤ n := by
  have : e = 0 ∨ e = 1 ∨ e = 2 ∨ e = 3 ∨ e = 4 := by omega
  have go : ∀ z : Int, 1 ≤ z ∧ z ≤ n → some (V.int z) = some (.int ((z.toNat : Nat) : Int)) ∧ 1 ≤ z.toNat ∧ ((z.toNat : Nat) : Int) ≤ n := fun z hz => by
    rw [Int.toNat_of_nonneg (by omega)]
    exact ⟨rfl, by omega, by omega⟩
  rcases this with rfl | rfl | rfl | rfl | rfl
  · exact ⟨_, go n ⟨hn, Int.le_refl _⟩⟩
  · exact ⟨_, go a ha⟩
  · exact ⟨_, go b hb⟩
  · exact ⟨1, rfl, by decide, hn⟩
  · exact ⟨_, go c hc⟩
theorem ok_k (T : Txt K mg C) {f : Addr} {fd : FuncData} (F : Fun K "_law_k" "_law_k" sK f fd) (GT : Gd P w K mg base "_law_take" 1 ["_law_box_here", "_law_many"] spTake) : FnOk P w K mg base CX0 2 f fd ["_law_box_here", "_law_n_here"] spK := by
  refine F.ok scK (fun vs H Q E h => ?_) (fun cdv A outer s H vs Q E hr h => ?_)
  · obtain ⟨b, n, rfl, _⟩ := h
    rfl
  · obtain ⟨b, n, rfl, hb, n1, n2, q⟩ := h
    refine ⟨_, pss_one (ps_ret (pe_ix ix_list (pe_lst (pa_cons (pv 1) (pa_cons (pe_callB (call_min2 rfl) (by rfl) T.min (by decide +kernel) (pa_cons (pv 1) (pa_cons pe_int pa_nil)))
      (pa_cons (pe_callB (call_min2 rfl) (by rfl) T.min (by decide +kernel) (pa_cons (pv 1) (pa_cons pe_int pa_nil))) (pa_cons pe_int (pa_cons (pe_op op_add pe_int (pe_g GT hr (by rfl) (pa_cons (pv 0) (pa_cons (pv 1) pa_nil)))) pa_nil))))))
      (pe_g GT hr (by rfl) (pa_cons (pv 0) (pa_cons pe_int pa_nil))) (fun _ _ => rfl))), ?_⟩
    refine ⟨_, rfl, _, rfl, _, _, rfl, _, rfl, _, _, rfl, _, rfl, _, rfl, b, n, rfl, hb, by omega, by omega, fun r H1 r0 r1 hb1 s1 => ?_⟩
    refine ⟨_, _, rfl, rfl, line_le (by show 5 ≤ 1000000; decide), fun l nl => ?_⟩
    refine ⟨_, rfl, b, 5, rfl, hb1.same (same_upd nl), by decide, by decide, fun r2 H2 r20 r21 hb2 s2 => ?_⟩
    obtain ⟨v, e, v0, v1⟩ := menu5 (e := r2) (n := n) (a := if (2 : Int) < n then 2 else n) (b := if (3 : Int) < n then 3 else n) (c := 1 + r) r20 r21 n1 (by split <;> omega) (by split <;> omega) (by omega)
    have hl : H2 l = _ := s2 l _ (by
      intro e
      obtain ⟨x, y, z, e2⟩ := hb1
      rw [e, e2] at nl
      cases nl) upd_same
    refine ⟨l, _, _, _, rfl, rfl, SqL.of hl, e, ?_⟩
    exact q v H2 v0 v1 hb2 (s1.trans ((same_but (same_upd nl)).trans s2))
theorem gd_k (T : Txt K mg C) (D : Df K mg "_law_k" sK) (GT : Gd P w K mg base "_law_take" 1 ["_law_box_here", "_law_many"] spTake) : Gd P w K mg base "_law_k" 2 ["_law_box_here", "_law_n_here"] spK :=
  Gd.mk D (fun _ _ F => ok_k T F GT) fun _ _ _ _ _ _ us hl => match us, hl with | [_, _], _ => rfl

/-! ### _law_size -/
abbrev sSize : Stmt := topS 33
theorem scSize : FnScope ["_law_box_here", "_law_most", "_law_way"] ["_law_box_here", "_law_most"] (defScope sSize) := ⟨rfl, rfl, rfl, by decide +kernel, rfl, by decide +kernel, by decide +kernel⟩
def spSize : Sp := fun vs H Q _ => ∃ (b : Addr) (m : Int), vs = [.ref b, .int m] ∧ BoxAt H b ∧ 1 ≤ m ∧ m ≤ 300 ∧ ∀ (z : Nat) H', 1 ≤ z → z ≤ 300 → BoxAt H' b → But b H H' → Q (.int z) H'
theorem menu4 {e m : Int} (h0 : 0 ≤ e) (h1 : e ≤ 3) (m0 : 1 ≤ m) (m1 : m ≤ 300) : ∃ v : Int, atI [V.int 300, V.int 12, V.int 40, V.int m] e = some (.int v) ∧ 1 ≤ v ∧ v ≤ 300 := by
  have : e = 0 ∨ e = 1 ∨ e = 2 ∨ e = 3 := by omega
  rcases this with rfl | rfl | rfl | rfl
  · exact ⟨_, rfl, by decide, by decide⟩
  · exact ⟨_, rfl, by decide, by decide⟩
  · exact ⟨_, rfl, by decide, by decide⟩
  · exact ⟨_, rfl, m0, m1⟩
theorem ok_size (T : Txt K mg C) {f : Addr} {fd : FuncData} (F : Fun K "_law_size" "_law_size" sSize f fd) (GT : Gd P w K mg base "_law_take" 1 ["_law_box_here", "_law_many"] spTake) : FnOk P w K mg base CX0 2 f fd ["_law_box_here", "_law_most"] spSize := by
  refine F.ok scSize (fun vs H Q E h => ?_) (fun cdv A outer s H vs Q E hr h => ?_)
  · obtain ⟨b, n, rfl, _⟩ := h
    rfl
  · obtain ⟨b, m, rfl, hb, m1, m2, q⟩ := h
    have nd := scSize.nd
    refine ⟨_, pss_cons (ps_set (i := 2) nd rfl (.inl rfl) (pe_g GT hr (by rfl) (pa_cons (pv 0) (pa_cons pe_int pa_nil))))
      (pss_one (ps_ret (pe_op op_add pe_int (pe_g GT hr (by rfl) (pa_cons (pv 0) (pa_cons (pe_ix ix_list (pe_lst (pa_cons pe_int (pa_cons pe_int (pa_cons pe_int (pa_cons (pv 1) pa_nil)))))
        (pe_op op_mul (pe_callTy call_int1 (by rfl) T.int (by decide +kernel) (pa_cons (pe_cmpR op_gt (pv 2) pe_int (nomark _)) pa_nil)) (pe_op op_add pe_int (pe_op op_mod (pv 2) pe_int))) (fun _ _ => rfl)) pa_nil)))))), ?_⟩
    refine ⟨_, rfl, b, 16, rfl, hb, by decide, by decide, fun r H1 r0 r1 hb1 s1 => ?_⟩
    refine ⟨_, rfl, _, rfl, line_le (by show 4 ≤ 1000000; decide), fun l nl => ?_⟩
    have e1 := Int.emod_nonneg r (show (3 : Int) ≠ 0 by decide)
    have e2 := Int.emod_lt_of_pos r (show (0 : Int) < 3 by decide)
    have b0 : 0 ≤ (if decide ((0 : Int) < r) = true then (1 : Int) else 0) * (1 + r % 3) ∧ (if decide ((0 : Int) < r) = true then (1 : Int) else 0) * (1 + r % 3) ≤ 3 := by
      split <;> omega
    obtain ⟨v, ev, v0, v1⟩ := menu4 (m := m) b0.1 b0.2 m1 m2
    refine ⟨_, rfl, _, _, rfl, rfl, .inr ⟨_, rfl, _, rfl, _, _, rfl, rfl, (by show (0 : Int) < 3; decide), _, _, rfl, rfl, _, _, rfl, rfl, .inl (by split <;> decide), ?_⟩⟩
    refine ⟨l, _, _, .int v, rfl, rfl, SqL.of upd_same, ev, b, v, rfl, hb1.same (same_upd nl), by omega, by omega, fun r2 H2 r20 r21 hb2 s2 => ?_⟩
    refine ⟨_, _, rfl, rfl, ?_⟩
    have ez : (1 : Int) + r2 = (((1 + r2).toNat : Nat) : Int) := by omega
    show Q (.int (1 + r2)) H2
    rw [ez]
    exact q _ H2 (by omega) (by omega) hb2 (s1.trans ((same_but (same_upd nl)).trans s2))
theorem gd_size (T : Txt K mg C) (D : Df K mg "_law_size" sSize) (GT : Gd P w K mg base "_law_take" 1 ["_law_box_here", "_law_many"] spTake) : Gd P w K mg base "_law_size" 2 ["_law_box_here", "_law_most"] spSize :=
  Gd.mk D (fun _ _ F => ok_size T F GT) fun _ _ _ _ _ _ us hl => match us, hl with | [_, _], _ => rfl
end
end K80
/-! Slices and equality of lists of ints; a block laid over a row; the put-together row of the law. -/
namespace K80
open PySem PySem.Spec PyProof.Rows L2
/-! ### slices -/
theorem cut_mid {α : Type} {f : α → V} {xs : List α} {lo hi : Int} {i j : Nat} (h1 : lo = i) (h2 : hi = j) : cutV (xs.map f) (some lo) (some hi) = ((xs.drop i).take (j - i)).map f := by
  subst h1 h2
  unfold cutV
  rw [HT.sIx_nat, HT.sIx_nat, List.length_map, List.map_take, List.map_drop]
  by_cases hi : i ≤ xs.length
  · rw [Nat.min_eq_left hi]
    by_cases hj : j ≤ xs.length
    · rw [Nat.min_eq_left hj]
    · rw [Nat.min_eq_right (by omega)]
      rw [List.take_of_length_le (by rw [List.length_drop, List.length_map]; omega), List.take_of_length_le (by rw [List.length_drop, List.length_map]; omega)]
  · rw [Nat.min_eq_right (show xs.length ≤ i by omega), List.drop_of_length_le (by rw [List.length_map]; omega), List.drop_of_length_le (by rw [List.length_map]; omega), List.take_nil, List.take_nil]
theorem cut_from {α : Type} {f : α → V} {xs : List α} {lo : Int} {i : Nat} (h1 : lo = i) : cutV (xs.map f) (some lo) none = (xs.drop i).map f := by
  subst h1
  unfold cutV
  rw [HT.sIx_nat, HT.sIx_none, List.length_map, List.map_drop]
  by_cases hi : i ≤ xs.length
  · rw [Nat.min_eq_left hi, List.take_of_length_le (by rw [List.length_drop, List.length_map]; omega)]
  · rw [Nat.min_eq_right (by omega), List.drop_of_length_le (by rw [List.length_map]; omega), List.drop_of_length_le (by rw [List.length_map]; omega), List.take_nil]
theorem cut_to {α : Type} {f : α → V} {xs : List α} {hi : Int} {j : Nat} (h2 : hi = j) : cutV (xs.map f) none (some hi) = (xs.take j).map f := by
  subst h2
  unfold cutV
  rw [HT.sIx_nat, HT.sIx_none, List.length_map, List.drop_zero, Nat.sub_zero, List.map_take]
  by_cases hj : j ≤ xs.length
  · rw [Nat.min_eq_left hj]
  · rw [Nat.min_eq_right (by omega), List.take_of_length_le (by rw [List.length_map]; exact Nat.le_refl _), List.take_of_length_le (by rw [List.length_map]; omega)]

/-! ### == of lists, of tuples of ints -/
theorem eqvAll_ints : ∀ xs ys : List Int, PyData.eqvAll (xs.map PyData.int) (ys.map PyData.int) = decide (xs = ys)
  | [], [] => rfl
  | [], y :: ys => rfl
  | x :: xs, [] => rfl
  | x :: xs, y :: ys => by
    show (PyData.eqv (.int x) (.int y) && PyData.eqvAll (xs.map PyData.int) (ys.map PyData.int)) = _
    rw [eqvAll_ints xs ys]
    show ((x == y) && decide (xs = ys)) = _
    rw [Bool.eq_iff_iff, Bool.and_eq_true, beq_iff_eq, decide_eq_true_iff, decide_eq_true_iff, List.cons.injEq]
theorem layAll_ints : ∀ xs : List Int, PyData.canLayAll0 (xs.map PyData.int) = true
  | [] => rfl
  | x :: xs => by
    show (PyData.canLay0 (.int x) && PyData.canLayAll0 (xs.map PyData.int)) = true
    rw [layAll_ints xs]
    rfl
theorem depthAll_ints : ∀ xs : List Int, PyData.depthAll (xs.map PyData.int) ≤ 1
  | [] => by show PyData.depthAll [] ≤ 1; simp [PyData.depthAll]
  | x :: xs => by
    have := depthAll_ints xs
    show PyData.depthAll (PyData.int x :: xs.map PyData.int) ≤ 1
    simp only [PyData.depthAll, PyData.depth]
    omega
theorem shaped_lst (xs : List Int) : SeqAt.shaped (.list (xs.map PyData.int)) = true := by
  unfold SeqAt.shaped
  have h := depthAll_ints xs
  rw [Bool.and_eq_true, decide_eq_true_iff]
  refine ⟨layAll_ints xs, ?_⟩
  simp only [PyData.depth]
  omega
theorem shaped_tup (xs : List Int) : SeqAt.shaped (.tuple (xs.map PyData.int)) = true := by
  unfold SeqAt.shaped
  have h := depthAll_ints xs
  rw [Bool.and_eq_true, decide_eq_true_iff]
  refine ⟨layAll_ints xs, ?_⟩
  simp only [PyData.depth]
  omega
theorem dp_ints {K : PySem.W.Frag} {H : Hp} : ∀ xs : List Int, DpAll K H (xs.map V.int) (xs.map PyData.int)
  | [] => .nil
  | x :: xs => .cons (.int x) (dp_ints xs)
theorem eqD_lst {K : PySem.W.Frag} {H : Hp} {a b : Addr} {xs ys : List Int} {Q : VK} (ha : SqL K H a (xs.map V.int)) (hb : SqL K H b (ys.map V.int)) (q : Q (.bl (decide (xs = ys))) H) : rEqD K (.ref a) (.ref b) H Q :=
  ⟨_, _, .lst ha (dp_ints xs), .lst hb (dp_ints ys), shaped_lst xs, shaped_lst ys, by rw [PyData.eqv, eqvAll_ints]; exact q⟩
theorem eqD_tup {K : PySem.W.Frag} {H : Hp} {a b : Addr} {xs ys : List Int} {Q : VK} (ha : SqT K H a (xs.map V.int)) (hb : SqT K H b (ys.map V.int)) (q : Q (.bl (decide (xs = ys))) H) : rEqD K (.ref a) (.ref b) H Q :=
  ⟨_, _, .tup ha (dp_ints xs), .tup hb (dp_ints ys), shaped_tup xs, shaped_tup ys, by rw [PyData.eqv, eqvAll_ints]; exact q⟩
theorem neD_tup {K : PySem.W.Frag} {H : Hp} {a b : Addr} {xs ys : List Int} {Q : VK} (ha : SqT K H a (xs.map V.int)) (hb : SqT K H b (ys.map V.int)) (q : Q (.bl (!decide (xs = ys))) H) : rNeD K (.ref a) (.ref b) H Q :=
  ⟨_, _, .tup ha (dp_ints xs), .tup hb (dp_ints ys), shaped_tup xs, shaped_tup ys, by rw [PyData.eqv, eqvAll_ints]; exact q⟩

section
variable {P : Program} {w : World} {K : PySem.W.Frag} {mg : Str → Option Value} {base : Heap} {C : Addr}

/-! ### _law_laid -/
abbrev sLaid : Stmt := topS 31
theorem scLaid : FnScope ["_law_row_here", "_law_block", "_law_many"] ["_law_row_here", "_law_block"] (defScope sLaid) := ⟨rfl, rfl, rfl, by decide +kernel, rfl, by decide +kernel, by decide +kernel⟩
def spLaidL : Sp := fun vs H Q _ => ∃ (a b : Addr) (xs ys : List Int), vs = [.ref a, .ref b] ∧ H a = some (.lst (xs.map V.int)) ∧ H b = some (.lst (ys.map V.int)) ∧ xs.length ≤ 100000 ∧ ys.length ≤ 100000 ∧
  ∀ (t : Nat) H' p, t ≤ xs.length → t ≤ ys.length → Same H H' → H p = none → H' p = some (.lst ((xs ++ ys.drop t).map V.int)) → Q (.ref p) H'
theorem ok_laidL (T : Txt K mg C) {f : Addr} {fd : FuncData} (F : Fun K "_law_laid" "_law_laid" sLaid f fd) : FnOk P w K mg base CX0 1 f fd ["_law_row_here", "_law_block"] spLaidL := by
  refine F.ok scLaid (fun vs H Q E h => ?_) (fun cdv A outer s H vs Q E hr h => ?_)
  · obtain ⟨a, b, xs, ys, rfl, _⟩ := h
    rfl
  · obtain ⟨a, b, xs, ys, rfl, ha, hb, lx, ly, q⟩ := h
    have nd := scLaid.nd
    refine ⟨_, pss_cons (ps_for PassesOwn.never rfl (pi_range3 (by rfl) T.range (pa_cons (pe_callB (call_min2 rfl) (by rfl) T.min (by decide +kernel)
          (pa_cons (pe_callB call_len_seq (by rfl) T.len PySem.boot_len (pa_cons (pv 0) pa_nil)) (pa_cons (pe_callB call_len_seq (by rfl) T.len PySem.boot_len (pa_cons (pv 1) pa_nil)) pa_nil))) (pa_cons pe_int (pa_cons (pe_un un_neg pe_int) pa_nil))))
        (pg_name (i := 2) nd rfl (.inl rfl))
        (pss_one (ps_if (pt_cmpR (op_eqD hr.units) (pe_slice sl_list (pv 0) (po_some (pe_op op_sub (pe_callB call_len_seq (by rfl) T.len PySem.boot_len (pa_cons (pv 0) pa_nil)) (pv 2))) po_none) (pe_slice sl_list (pv 1) po_none (po_some (pv 2))) (nomark _))
          (pss_one (ps_ret (pe_op op_cat (pv 0) (pe_slice sl_list (pv 1) (po_some (pv 2)) po_none)))) pss_nil)))
      (pss_one (ps_ret (pe_op op_cat (pv 0) (pv 1)))), ?_⟩
    -- the range
    have lxm : (xs.map V.int).length = xs.length := List.length_map _
    have lym : (ys.map V.int).length = ys.length := List.length_map _
    obtain ⟨m, hm, m1, m2⟩ : ∃ m : Nat, (if ((ys.map V.int).length : Int) < ((xs.map V.int).length : Int) then ((ys.map V.int).length : Int) else ((xs.map V.int).length : Int)) = (m : Int) ∧ m ≤ xs.length ∧ m ≤ ys.length := by
      rw [lxm, lym]
      split
      · exact ⟨ys.length, rfl, by omega, Nat.le_refl _⟩
      · exact ⟨xs.length, rfl, Nat.le_refl _, by omega⟩
    refine ⟨_, rfl, a, _, rfl, .inl (SqL.of ha), _, rfl, b, _, rfl, .inl (SqL.of hb), _, _, rfl, 1, rfl, _, 0, -1, m, rfl, ?_, ?_⟩
    · rw [hm]
      have := RgC.neg (i := (m : Int)) (j := 0) (by omega) (by omega) (by omega) (by omega)
      rw [show ((m : Int) - 0).toNat = m by omega] at this
      exact this
    · rw [hm]
      refine for_rangeC (lo := (m : Int)) (c := -1) (n := m) (fun i σ H' => ∃ y2, σ = [some (.ref a), some (.ref b), y2] ∧ Same H H') ⟨_, rfl, Same.refl H⟩ (fun i σ H1 hi hP => ?_) (fun σ H1 hP => ?_)
      · obtain ⟨y2, rfl, s1⟩ := hP
        -- many
        have em : ((m : Int) + (i : Int) * -1) = ((m - i : Nat) : Int) := by omega
        rw [em]
        have a1 := s1 _ _ ha
        have b1 := s1 _ _ hb
        have e0 : ((xs.map V.int).length : Int) - ((m - i : Nat) : Int) = ((xs.length - (m - i) : Nat) : Int) := by rw [lxm]; omega
        refine ⟨_, rfl, _, rfl, a, _, rfl, .inl (SqL.of a1), _, rfl, _, _, rfl, rfl, _, rfl, a, _, rfl, SqL.of a1, fun p1 np1 => ?_⟩
        rw [cut_from e0]
        have s2 := (s1.trans (same_upd (o := .lst ((xs.drop (xs.length - (m - i))).map V.int)) np1))
        refine ⟨_, rfl, _, rfl, _, rfl, b, _, rfl, SqL.of (s2 _ _ hb), fun p2 np2 => ?_⟩
        rw [cut_to rfl]
        have s3 := (s2.trans (same_upd (o := .lst ((ys.take (m - i)).map V.int)) np2))
        refine eqD_lst (SqL.of (same_upd np2 _ _ upd_same)) (SqL.of upd_same) ⟨_, rfl, ite2 (fun h => ?_) (fun h => ?_)⟩
        · -- return row + block[many:]
          refine ⟨_, rfl, _, rfl, _, rfl, _, rfl, b, _, rfl, SqL.of (s3 _ _ hb), fun p3 np3 => ?_⟩
          rw [cut_from rfl]
          have s4 := (s3.trans (same_upd (o := .lst ((ys.drop (m - i)).map V.int)) np3))
          refine ⟨a, p3, _, _, rfl, rfl, s4 _ _ ha, upd_same, line_le (by rw [List.length_map, List.length_map, List.length_drop]; omega), fun p np => ?_⟩
          refine q (m - i) _ p (by omega) (by omega) (s4.trans (same_upd np)) (s4.free np) ?_
          rw [upd_same, List.map_append]
        · exact ⟨_, rfl, s3⟩
      · obtain ⟨y2, rfl, s1⟩ := hP
        refine ⟨_, rfl, _, rfl, a, b, _, _, rfl, rfl, s1 _ _ ha, s1 _ _ hb, line_le (by rw [List.length_map, List.length_map]; omega), fun p np => ?_⟩
        refine q 0 _ p (by omega) (by omega) (s1.trans (same_upd np)) (s1.free np) ?_
        rw [upd_same, List.drop_zero, List.map_append]
theorem gd_laidL (T : Txt K mg C) (D : Df K mg "_law_laid" sLaid) : Gd P w K mg base "_law_laid" 1 ["_law_row_here", "_law_block"] spLaidL :=
  Gd.mk D (fun _ _ F => ok_laidL T F) fun _ _ _ _ _ _ us hl => match us, hl with | [_, _], _ => rfl
end
end K80
/-! The put-together row of the law. -/
namespace K80
open PySem PySem.Spec PyProof.Rows L2
/-! ### plain -/
def LM : Nat → Nat
  | 0 => 1
  | 1 => 1
  | 2 => 3
  | 3 => 10
  | 4 => 56
  | _ => 477
structure MInv (top : Nat) (ns : List Int) : Prop where
  t1 : 1 ≤ top
  le : top ≤ ns.length
  most : ns.length ≤ LM top
  nd : (ns.take top).Nodup
  all : ∀ x ∈ ns, 0 ≤ x ∧ x < (top : Int)
structure NInv (top i : Nat) (ms : List Int) : Prop where
  most : ms.length ≤ i * (2 * top + 1)
  all : ∀ x ∈ ms, 0 ≤ x ∧ x < (top : Int) + 1
  beg : 0 < i → top + 1 ≤ ms.length ∧ (ms.take (top + 1)).Nodup
  nil : i = 0 → ms = []
theorem NInv.start (top : Nat) : NInv top 0 [] := ⟨Nat.zero_le _, fun _ h => (nomatch h), fun h => absurd h (Nat.lt_irrefl 0), fun _ => rfl⟩
theorem NInv.keep {top i : Nat} {ms : List Int} (h : NInv top i ms) (hi : 0 < i) : NInv top (i + 1) ms :=
  ⟨Nat.le_trans h.most (Nat.mul_le_mul_right _ (Nat.le_succ i)), h.all, fun _ => h.beg hi, fun z => by omega⟩
theorem NInv.step {top i t : Nat} {ms w : List Int} (h : NInv top i ms) (hl : w.length = top) (hn : w.Nodup) (ha : ∀ x ∈ w, 0 ≤ x ∧ x < (top : Int)) (ht : t ≤ ms.length) : NInv top (i + 1) (ms ++ (w ++ [(top : Int)] ++ w).drop t) := by
  have lb : (w ++ [(top : Int)] ++ w).length = 2 * top + 1 := by simp [hl]; omega
  refine ⟨?_, fun x hx => ?_, fun _ => ?_, fun z => by omega⟩
  · have h1 := h.most
    have h2 : (i + 1) * (2 * top + 1) = i * (2 * top + 1) + (2 * top + 1) := Nat.succ_mul _ _
    rw [List.length_append, List.length_drop, lb, h2]
    omega
  · rcases List.mem_append.mp hx with z | z
    · exact h.all x z
    · have z2 := List.mem_of_mem_drop z
      rcases List.mem_append.mp z2 with y | y
      · rcases List.mem_append.mp y with u | u
        · have := ha x u; omega
        · have e : x = (top : Int) := by simpa using u
          omega
      · have := ha x y; omega
  · by_cases hi : 0 < i
    · obtain ⟨b1, b2⟩ := h.beg hi
      refine ⟨by rw [List.length_append]; omega, ?_⟩
      rw [List.take_append_of_le_length b1]
      exact b2
    · have e := h.nil (by omega)
      subst e
      have ht0 : t = 0 := by simpa using ht
      subst ht0
      rw [List.nil_append, List.drop_zero]
      refine ⟨by rw [lb]; omega, ?_⟩
      rw [List.take_append_of_le_length (by simp [hl]), List.take_of_length_le (by simp [hl])]
      refine nodup_snoc hn fun z => ?_
      have := ha _ z
      omega
theorem made_end {top : Nat} {ns ms : List Int} (h : MInv top ns) (ht : top ≤ 4) (n : NInv top (ns.length + 1 - top) ms) : MInv (top + 1) ms := by
  have h1 := h.most
  have h2 := n.most
  have h3 := h.le
  have h4 := h.t1
  obtain ⟨b1, b2⟩ := n.beg (by omega)
  refine ⟨by omega, b1, ?_, b2, fun x hx => by have := n.all x hx; omega⟩
  have : top = 1 ∨ top = 2 ∨ top = 3 ∨ top = 4 := by omega
  rcases this with rfl | rfl | rfl | rfl
  · simp only [LM] at h1 ⊢; omega
  · simp only [LM] at h1 ⊢; omega
  · simp only [LM] at h1 ⊢; omega
  · simp only [LM] at h1 ⊢; omega
theorem LM_le : ∀ top : Nat, LM top ≤ 477
  | 0 => by decide
  | 1 => by decide
  | 2 => by decide
  | 3 => by decide
  | 4 => by decide
  | n + 5 => Nat.le_refl _

section
variable {P : Program} {w : World} {K : PySem.W.Frag} {mg : Str → Option Value} {base : Heap} {C : Addr}
abbrev sMade : Stmt := topS 32
theorem scMade : FnScope ["_law_n_here", "_law_row_here", "_law_top", "_law_known", "_law_more", "_law_place", "_law_order"] ["_law_n_here"] (defScope sMade) := ⟨rfl, rfl, rfl, by decide +kernel, rfl, by decide +kernel, by decide +kernel⟩
def spMade : Sp := fun vs H Q _ => ∃ n : Int, vs = [.int n] ∧ 1 ≤ n ∧ n ≤ 5 ∧ ∀ (ns : List Int) H' p, 1 ≤ ns.length → ns.length ≤ 477 → (∀ x ∈ ns, 0 ≤ x ∧ x < n) → Same H H' → H p = none → H' p = some (.lst (ns.map V.int)) → Q (.ref p) H'
theorem ok_made (T : Txt K mg C) {f : Addr} {fd : FuncData} (F : Fun K "_law_made" "_law_made" sMade f fd) (GL : Gd P w K mg base "_law_laid" 1 ["_law_row_here", "_law_block"] spLaidL) : FnOk P w K mg base CX0 2 f fd ["_law_n_here"] spMade := by
  refine F.ok scMade (fun vs H Q E h => ?_) (fun cdv A outer s H vs Q E hr h => ?_)
  · obtain ⟨n, rfl, _⟩ := h
    rfl
  · obtain ⟨n, rfl, n1, n2, q⟩ := h
    have nd := scMade.nd
    have hu := hu_of hr
    refine ⟨_, pss_cons (ps_set (i := 1) nd rfl (.inl rfl) (pe_lst (pa_cons pe_int pa_nil)))
      (pss_cons (ps_for PassesOwn.never rfl (pi_range2 (by rfl) T.range (pa_cons pe_int (pa_cons (pv 0) pa_nil))) (pg_name (i := 2) nd rfl (.inl rfl))
        (pss_cons (ps_par (i := 3) (j := 4) rfl nd rfl rfl (by decide) rfl rfl (pa_cons pe_dnewT (pa_cons (pe_lst pa_nil) pa_nil)) (by rfl))
        (pss_cons (ps_for PassesOwn.never rfl (pi_range1 (by rfl) T.range (pa_cons (pe_op op_add (pe_op op_sub (pe_callB call_len_seq (by rfl) T.len PySem.boot_len (pa_cons (pv 1) pa_nil)) (pv 2)) pe_int) pa_nil)) (pg_name (i := 5) nd rfl (.inl rfl))
          (pss_cons (ps_set (i := 6) nd rfl (.inl rfl) (pe_callTy call_tuple_of (by rfl) T.tuple (by decide +kernel) (pa_cons (pe_slice sl_list (pv 1) (po_some (pv 5)) (po_some (pe_op op_add (pv 5) (pv 2)))) pa_nil)))
          (pss_one (ps_if (PW.pt (pw_and (pt_cmpR op_eq (pe_lenSetT (by rfl) T.len (by rfl) T.set (pv 6)) (pv 2) (nomark _)) (pw_and1 (pt_cmp (pc_dnotin hu (pv 6) (pv 3))))))
            (pss_cons (ps_dput hu (pv 3) (pv 6) pe_bl rfl)
            (pss_one (ps_set (i := 4) nd rfl (.inl rfl) (pe_g GL hr (by rfl) (pa_cons (pv 4) (pa_cons (pe_op op_cat (pe_op op_cat (pe_callTy call_list_of (by rfl) T.list (by decide +kernel) (pa_cons (pv 6) pa_nil)) (pe_lst (pa_cons (pv 2) pa_nil)))
              (pe_callTy call_list_of (by rfl) T.list (by decide +kernel) (pa_cons (pv 6) pa_nil))) pa_nil))))))
            pss_nil))))
        (pss_one (ps_set (i := 1) nd rfl (.inl rfl) (pv 4))))))
      (pss_one (ps_ret (pv 1)))), ?_⟩
    refine ⟨line_le (by show 1 ≤ 1000000; decide), fun r nr => ?_⟩
    refine ⟨_, rfl, 1, n, rfl, ⟨by decide, by decide, by omega, by omega⟩, for_range (lo := 1) (n := (n - 1).toNat)
      (fun i σ H1 => ∃ r ns y2 y3 y4 y5 y6, σ = [some (.int n), some (.ref r), y2, y3, y4, y5, y6] ∧ Same H H1 ∧ H r = none ∧ H1 r = some (.lst (ns.map V.int)) ∧ MInv (1 + i) ns)
      ⟨r, [0], none, none, none, none, none, rfl, same_upd nr, nr, upd_same, ⟨by decide, by decide, by decide, by decide, fun x hx => by
        have e : x = 0 := by simpa using hx
        subst e
        decide⟩⟩ (fun io σ H1 hio hP => ?_) (fun σ H1 hP => ?_)⟩
    · obtain ⟨r1, ns, y2, y3, y4, y5, y6, rfl, s1, nr1, hr1, M⟩ := hP
      intro d hd
      refine ⟨Nat.zero_le _, fun m hm => ⟨_, _, rfl, ?_⟩⟩
      have s1d : Same H1 (upd H1 d (.dT [])) := same_upd hd
      have s1m : Same (upd H1 d (.dT [])) (upd (upd H1 d (.dT [])) m (.lst [])) := same_upd hm
      have s2 : Same H (upd (upd H1 d (.dT [])) m (.lst [])) := s1.trans (s1d.trans s1m)
      have hr2 := s1m _ _ (s1d _ _ hr1)
      have ej : (((ns.map V.int).length : Int) - (1 + (io : Int)) + 1).toNat = ns.length + 1 - (1 + io) := by
        have := M.le
        rw [List.length_map]
        omega
      have hM1 := M.most
      have hM2 := LM_le (1 + io)
      have hM3 := M.le
      refine ⟨_, rfl, r1, _, rfl, .inl (SqL.of hr2), _, rfl, _, _, rfl, rfl, _, _, rfl, rfl, _, rfl, by rw [List.length_map]; omega, by rw [List.length_map]; omega, ?_⟩
      rw [ej]
      refine for_range (lo := 0) (n := ns.length + 1 - (1 + io)) (fun i σ H2 => ∃ m ms kvs y5 y6, σ = [some (.int n), some (.ref r1), some (.int (1 + (io : Int))), some (.ref d), some (.ref m), y5, y6] ∧ Same H H2 ∧ H2 r1 = some (.lst (ns.map V.int)) ∧
          H2 d = some (.dT kvs) ∧ H2 m = some (.lst (ms.map V.int)) ∧ H m = none ∧ kvs.length ≤ i ∧ (i = 0 → kvs = []) ∧ NInv (1 + io) i ms)
        ⟨m, [], [], _, _, rfl, s2, hr2, s1m _ _ upd_same, upd_same, (s1.trans s1d).free hm, Nat.le_refl _, fun _ => rfl, NInv.start _⟩ (fun i σ H2 hi hP => ?_) (fun σ H2 hP => ?_)
      · obtain ⟨m, ms, kvs, y5, y6, rfl, s3, hr3, hd3, hm3, nm, lk, k0, N⟩ := hP
        have nHd : H d = none := s1.free hd
        -- order = tuple(row[place:place + top])
        refine ⟨_, rfl, _, rfl, _, rfl, _, rfl, _, rfl, _, _, rfl, rfl, _, rfl, r1, _, rfl, SqL.of hr3, fun p1 np1 => ?_⟩
        rw [cut_mid (i := i) (j := i + (1 + io)) (by omega) (by omega), show i + (1 + io) - i = 1 + io by omega]
        have s4 : Same H2 _ := same_upd (o := .lst (((ns.drop i).take (1 + io)).map V.int)) np1
        obtain ⟨wd, hwd⟩ : ∃ wd, wd = (ns.drop i).take (1 + io) := ⟨_, rfl⟩
        rw [← hwd] at s4 ⊢
        refine ⟨p1, _, rfl, .inl ⟨SqL.of upd_same, fun o no => ?_⟩⟩
        have s5 := s4.trans (same_upd (o := .tup (wd.map V.int)) no)
        have lw : wd.length = 1 + io := by rw [hwd, List.length_take, List.length_drop]; omega
        have aw : ∀ x ∈ wd, 0 ≤ x ∧ x < ((1 + io : Nat) : Int) := fun x hx => M.all x (List.mem_of_mem_drop (List.mem_of_mem_take (by rw [hwd] at hx; exact hx)))
        generalize hH5 : upd (upd H2 p1 (.lst (wd.map V.int))) o (.tup (wd.map V.int)) = H5 at s5
        have ho5 : TupI H5 o wd := by rw [← hH5]; exact upd_same
        have hd5 := s5 _ _ hd3
        have hm5 := s5 _ _ hm3
        have hr5 := s5 _ _ hr3
        have sH5 : Same H H5 := s3.trans s5
        -- len(set(order)) == top and order not in known
        refine ⟨_, rfl, o, wd, rfl, SqT.of ho5, by omega, fun c c1 c2 => ?_⟩
        have first : i = 0 → wd.Nodup ∧ kvs = [] := fun e => by
          subst e
          refine ⟨?_, k0 rfl⟩
          rw [hwd, List.drop_zero]
          exact M.nd
        refine ⟨_, rfl, rfl, _, rfl, ite2 (fun h => ?_) (fun h => ?_)⟩
        · have hc : (c : Int) = 1 + (io : Int) := V.int.inj (of_decide_eq_true h)
          have hn : wd.Nodup := c2.mp (by omega)
          refine ⟨_, rfl, _, rfl, d, _, rfl, DGet.t (k := key wd) hd5 (by rw [key_tup]; exact ho5), _, rfl, ite2 (fun h2 => ?_) (fun h2 => ?_)⟩
          · -- known[order] = True
            have hkd : valV kvs (key wd) = none := by
              cases e : valV kvs (key wd) with
              | none => rfl
              | some v => rw [e] at h2; cases h2
            have lkv : kvs.length < sizeLine := line_lt (by omega)
            refine ⟨_, rfl, _, rfl, d, _, rfl, DPut.t (k := key wd) hd5 (by rw [key_tup]; exact ho5) lkv, ?_⟩
            generalize hH6 : upd H5 d (.dT (putK kvs (key wd) (V.bl true))) = H6
            have b6 : But d H5 H6 := by rw [← hH6]; exact But.upd _
            have hd6 : H6 d = some (.dT (putK kvs (key wd) (V.bl true))) := by rw [← hH6]; exact upd_same
            have ho6 : TupI H6 o wd := b6 _ _ (ne_of ho5 hd5 (by intro z; cases z)) ho5
            have hm6 := b6 _ _ (ne_of hm5 hd5 (by intro z; cases z)) hm5
            have hr6 := b6 _ _ (ne_of hr5 hd5 (by intro z; cases z)) hr5
            have sH6 : Same H H6 := But.same nHd sH5 b6
            -- more = _law_laid(more, list(order) + [top] + list(order))
            refine ⟨_, rfl, _, rfl, o, _, rfl, .inr (SqT.of ho6), fun l1 n1 => ?_⟩
            have t1 := same_upd (o := .lst (wd.map V.int)) n1
            refine ⟨_, rfl, line_le (by show 1 ≤ 1000000; decide), fun l2 n2 => ?_⟩
            have t2 := t1.trans (same_upd (o := .lst [V.int (1 + (io : Int))]) n2)
            refine ⟨l1, l2, _, _, rfl, rfl, same_upd n2 _ _ upd_same, upd_same, line_le (by rw [List.length_map]; show wd.length + 1 ≤ _; omega), fun l3 n3 => ?_⟩
            have t3 := t2.trans (same_upd (o := .lst (wd.map V.int ++ [V.int (1 + (io : Int))])) n3)
            refine ⟨_, rfl, o, _, rfl, .inr (SqT.of (t3 _ _ ho6)), fun l4 n4 => ?_⟩
            have t4 := t3.trans (same_upd (o := .lst (wd.map V.int)) n4)
            refine ⟨l3, l4, _, _, rfl, rfl, same_upd n4 _ _ upd_same, upd_same, line_le (by rw [List.length_append, List.length_map]; show wd.length + 1 + wd.length ≤ _; omega), fun l5 n5 => ?_⟩
            have t5 := t4.trans (same_upd (o := .lst (wd.map V.int ++ [V.int (1 + (io : Int))] ++ wd.map V.int)) n5)
            have eb : wd.map V.int ++ [V.int (1 + (io : Int))] ++ wd.map V.int = (wd ++ [((1 + io : Nat) : Int)] ++ wd).map V.int := by
              rw [List.map_append, List.map_append]
              rfl
            have hM4 : ms.length ≤ 100000 := by
              have q1 := N.most
              have q2 : i * (2 * (1 + io) + 1) ≤ 477 * (2 * 5 + 1) := Nat.mul_le_mul (by omega) (by omega)
              omega
            refine ⟨m, l5, ms, wd ++ [((1 + io : Nat) : Int)] ++ wd, rfl, t5 _ _ hm6, by rw [upd_same, eb], hM4, by simp [lw]; omega, fun t H7 p t1' t2' s7 np hp => ?_⟩
            have s67 : Same H6 H7 := t5.trans s7
            refine ⟨p, _, _, _, _, rfl, sH6.trans s67, s67 _ _ hr6, s67 _ _ hd6, hp, sH6.free (t5.free np), ?_, fun z => by omega, N.step lw hn aw t1'⟩
            have := length_putK kvs (key wd) (V.bl true)
            omega
          · refine ⟨m, ms, kvs, _, _, rfl, sH5, hr5, hd5, hm5, nm, by omega, fun z => by omega, N.keep ?_⟩
            refine Nat.pos_of_ne_zero fun z => h2 ?_
            rw [(first z).2]
            rfl
        · refine ⟨m, ms, kvs, _, _, rfl, sH5, hr5, hd5, hm5, nm, by omega, fun z => by omega, N.keep ?_⟩
          refine Nat.pos_of_ne_zero fun z => h ?_
          have hc := c2.mpr (first z).1
          refine decide_eq_true (congrArg V.int ?_)
          omega
      · -- row = more
        obtain ⟨m, ms, kvs, y5, y6, rfl, s3, hr3, hd3, hm3, nm, lk, k0, N⟩ := hP
        refine ⟨_, rfl, m, ms, _, _, _, _, _, rfl, s3, nm, hm3, ?_⟩
        have := made_end M (by omega) N
        rw [show 1 + (io + 1) = 1 + io + 1 by omega]
        exact this
    · obtain ⟨r1, ns, y2, y3, y4, y5, y6, rfl, s1, nr1, hr1, M⟩ := hP
      refine ⟨_, rfl, ?_⟩
      have e : ((1 + (n - 1).toNat : Nat) : Int) = n := by omega
      have h1 := M.le
      have h2 := M.most
      have h3 := LM_le (1 + (n - 1).toNat)
      refine q ns _ r1 (by omega) (by omega) (fun x hx => ?_) s1 nr1 hr1
      have := M.all x hx
      rw [e] at this
      exact this
theorem gd_made (T : Txt K mg C) (D : Df K mg "_law_made" sMade) (GL : Gd P w K mg base "_law_laid" 1 ["_law_row_here", "_law_block"] spLaidL) : Gd P w K mg base "_law_made" 2 ["_law_n_here"] spMade :=
  Gd.mk D (fun _ _ F => ok_made T F GL) fun _ _ _ _ _ _ us hl => match us, hl with | [_], _ => rfl
end
end K80
/-! The law's rows: things drawn. -/
namespace K80
open PySem PySem.Spec PyProof.Rows L2
theorem But.put {b D : Addr} {H H' : Hp} {o : HO} (n : H D = none) (s : But b H H') : But b H (L2.upd H' D o) := fun c x h e => by rw [upd_ne (ne_of_none e n)]; exact s c x h e
theorem But.free {b D : Addr} {H H' : Hp} (s : But b H H') (hb : ∃ o, H' b = some o) (n : H' D = none) : H D = none := by
  cases e : H D with
  | none => rfl
  | some o =>
    by_cases h : D = b
    · obtain ⟨o2, e2⟩ := hb
      rw [h, e2] at n
      cases n
    · rw [s D o h e] at n
      cases n
theorem BoxAt.ex {H : Hp} {b : Addr} (h : BoxAt H b) : ∃ o, H b = some o := let ⟨_, _, _, e⟩ := h; ⟨_, e⟩
theorem BoxAt.put {H : Hp} {b D : Addr} {o : HO} (h : BoxAt H b) (n : b ≠ D) : BoxAt (upd H D o) b := let ⟨x, y, z, e⟩ := h; ⟨x, y, z, by rw [upd_ne n]; exact e⟩
theorem sub_len {α : Type} : ∀ {a b : List α}, a.Nodup → (∀ x, x ∈ a → x ∈ b) → a.length ≤ b.length
  | [], b, _, _ => Nat.zero_le _
  | x :: a, b, hn, hs => by
    obtain ⟨h1, h2⟩ := List.nodup_cons.mp hn
    obtain ⟨l, r, e⟩ := List.append_of_mem (hs x List.mem_cons_self)
    have : a.length ≤ (l ++ r).length := sub_len h2 fun y hy => by
      have q := hs y (List.mem_cons_of_mem _ hy)
      rw [e] at q
      rcases List.mem_append.mp q with z | z
      · exact List.mem_append_left _ z
      · rcases List.mem_cons.mp z with z | z
        · exact absurd (z ▸ hy) h1
        · exact List.mem_append_right _ z
    rw [e]
    simp only [List.length_append, List.length_cons] at this ⊢
    omega
/-- fewer things than there are: one is not among them -/
theorem one_out {n : Int} {L : List Int} (h : (L.length : Int) < n) : ∃ x, 0 ≤ x ∧ x < n ∧ ¬ x ∈ L := by
  refine Classical.byContradiction fun hx => ?_
  have all : ∀ x : Int, 0 ≤ x → x < n → x ∈ L := fun x h0 h1 => Classical.byContradiction fun z => hx ⟨x, h0, h1, z⟩
  have nd : ((List.range n.toNat).map fun i : Nat => (i : Int)).Nodup := by
    refine List.Pairwise.map _ (fun a b hab e => hab ?_) List.nodup_range
    omega
  have := sub_len nd fun x hx => by
    obtain ⟨i, hi, rfl⟩ := List.mem_map.mp hx
    have := List.mem_range.mp hi
    exact all _ (by omega) (by omega)
  rw [List.length_map, List.length_range] at this
  omega
theorem step_less {x t n : Int} (x0 : 0 ≤ x) (x1 : x < n) (t0 : 0 ≤ t) (t1 : t < n) (ne : t ≠ x) : ((x - (t + 1) % n) % n).toNat < ((x - t) % n).toNat := by
  have neg : ∀ a : Int, -n ≤ a → a < 0 → a % n = a + n := fun a h1 h2 => by
    have e : (a + n) % n = a % n := by simp
    rw [← e]
    exact Int.emod_eq_of_lt (by omega) (by omega)
  have pos : ∀ a : Int, 0 ≤ a → a < n → a % n = a := fun a h1 h2 => Int.emod_eq_of_lt h1 h2
  by_cases h : t + 1 < n
  · rw [pos (t + 1) (by omega) h]
    by_cases g : t < x
    · rw [pos (x - (t + 1)) (by omega) (by omega), pos (x - t) (by omega) (by omega)]
      omega
    · rw [neg (x - (t + 1)) (by omega) (by omega), neg (x - t) (by omega) (by omega)]
      omega
  · have e : t + 1 = n := by omega
    rw [e, Int.emod_self, neg (x - t) (by omega) (by omega), pos (x - 0) (by omega) (by omega)]
    omega
theorem inV_int {x : Int} {xs : List Int} : inV (.int x) (xs.map V.int) = decide (x ∈ xs) := by
  unfold inV
  induction xs with
  | nil => rfl
  | cons y xs ih =>
    rw [List.map_cons, List.any_cons, ih]
    show ((y == x) || decide (x ∈ xs)) = decide (x ∈ y :: xs)
    rw [Bool.eq_iff_iff, Bool.or_eq_true, beq_iff_eq, decide_eq_true_iff, decide_eq_true_iff, List.mem_cons]
    exact ⟨fun h => h.imp Eq.symm id, fun h => h.imp Eq.symm id⟩
theorem flat_ints (xs : List Int) : (xs.map V.int).all flatV = true := by
  rw [List.all_eq_true]
  intro v hv
  obtain ⟨i, _, rfl⟩ := List.mem_map.mp hv
  rfl

section
variable {P : Program} {w : World} {K : PySem.W.Frag} {mg : Str → Option Value} {base : Heap} {C : Addr}
abbrev sThings : Stmt := topS 34
abbrev NThings : List Str := ["_law_box_here", "_law_n_here", "_law_most", "_law_way", "_law_size_here", "_law_k_here", "_law_block", "_law_row_here", "_law_begin", "_law_shift", "_law_thing", "_law_wide"]
theorem scThings : FnScope NThings ["_law_box_here", "_law_n_here", "_law_most"] (defScope sThings) := ⟨rfl, rfl, rfl, by decide +kernel, rfl, by decide +kernel, by decide +kernel⟩
def spThings : Sp := fun vs H Q _ => ∃ (b : Addr) (n m : Int), vs = [.ref b, .int n, .int m] ∧ BoxAt H b ∧ 1 ≤ n ∧ n ≤ 26 ∧ 1 ≤ m ∧ m ≤ 300 ∧
  ∀ (ns : List Int) H' p, 1 ≤ ns.length → ns.length ≤ 300 → (∀ x ∈ ns, 0 ≤ x ∧ x < n) → BoxAt H' b → But b H H' → H p = none → H' p = some (.lst (ns.map V.int)) → Q (.ref p) H'
set_option maxHeartbeats 16000000 in
theorem ok_things (T : Txt K mg C) {f : Addr} {fd : FuncData} (F : Fun K "_law_things" "_law_things" sThings f fd) (GT : Gd P w K mg base "_law_take" 1 ["_law_box_here", "_law_many"] spTake)
    (GS : Gd P w K mg base "_law_size" 2 ["_law_box_here", "_law_most"] spSize) (GM : Gd P w K mg base "_law_made" 2 ["_law_n_here"] spMade) : FnOk P w K mg base CX0 3 f fd ["_law_box_here", "_law_n_here", "_law_most"] spThings := by
  refine F.ok scThings (fun vs H Q E h => ?_) (fun cdv A outer s H vs Q E hr h => ?_)
  · obtain ⟨b, n, m, rfl, _⟩ := h
    rfl
  · obtain ⟨b, n, m, rfl, hb, n1, n2, m1, m2, q⟩ := h
    have nd := scThings.nd
    refine ⟨_, pss_cons (ps_par (i := 3) (j := 4) rfl nd rfl rfl (by decide) rfl rfl (pa_cons (pe_g GT hr (by rfl) (pa_cons (pv 0) (pa_cons pe_int pa_nil))) (pa_cons (pe_g GS hr (by rfl) (pa_cons (pv 0) (pa_cons (pv 2) pa_nil))) pa_nil)) (by rfl))
      (pss_cons (ps_if (pt_cmpR op_eq (pv 3) pe_int (nomark _)) (pss_one (ps_ret
        (pe_lc (own := [("_law_k_here", 5)]) (g := gName 5) (tt := tYes) rfl nd (pi_range1 (by rfl) T.range (pa_cons (pv 4) pa_nil)) (blkOk_by (N := NThings) (sc := defScope sThings) (by decide +kernel)) (fun _ _ _ _ _ => pg_name (i := 5) nd rfl (Or.inl rfl)) (fun _ _ _ _ _ => pts_nil)
          (fun _ _ _ _ _ => pe_g GT hr (by rfl) (pa_cons (pv 0) (pa_cons (pv 1) pa_nil)))))) pss_nil)
      (pss_cons (ps_if (pt_cmpR op_eq (pv 3) pe_int (nomark _))
        (pss_cons (ps_setLc (i := 6) (own := [("_law_k_here", 5)]) (g := gName 5) (tt := tYes) rfl nd rfl rfl (sw_true rfl rfl rfl (by decide +kernel)) (pi_range1 (by rfl) T.range (pa_cons (pe_op op_add pe_int (pe_g GT hr (by rfl) (pa_cons (pv 0) (pa_cons pe_int pa_nil)))) pa_nil))
          (blkOk_by (N := NThings) (sc := defScope sThings) (by decide +kernel)) (fun _ _ _ _ _ => pg_name (i := 5) nd rfl (Or.inl rfl)) (fun _ _ _ _ _ => pts_nil) (fun _ _ _ _ _ => pe_g GT hr (by rfl) (pa_cons (pv 0) (pa_cons (pv 1) pa_nil))))
        (pss_one (ps_ret (pe_slice sl_list (pe_op op_rep (pv 6) (pv 4)) po_none (po_some (pv 4)))))) pss_nil)
      (pss_cons (ps_if (pt_cmpR op_eq (pv 3) pe_int (nomark _))
        (pss_cons (ps_set (i := 7) nd rfl (.inl rfl) (pe_g GM hr (by rfl) (pa_cons (pe_callB (call_min2 rfl) (by rfl) T.min (by decide +kernel) (pa_cons (pv 1) (pa_cons (pe_op op_add pe_int (pe_g GT hr (by rfl) (pa_cons (pv 0) (pa_cons pe_int pa_nil)))) pa_nil))) pa_nil)))
        (pss_cons (ps_asg (pe_tup (pa_cons (pe_g GT hr (by rfl) (pa_cons (pv 0) (pa_cons (pe_callB call_len_seq (by rfl) T.len PySem.boot_len (pa_cons (pv 7) pa_nil)) pa_nil))) (pa_cons (pe_g GT hr (by rfl) (pa_cons (pv 0) (pa_cons (pv 1) pa_nil))) pa_nil)))
          (pg_tup rfl (pgs_cons (pg_name (i := 8) nd rfl (.inl rfl)) (pgs_cons (pg_name (i := 9) nd rfl (.inr rfl)) pgs_nil))))
        (pss_one (ps_ret (pe_lc (own := [("_law_thing", 10)]) (g := gName 10) (tt := tYes) rfl nd (pi_list (pe_slice sl_list (pv 7) (po_some (pv 8)) (po_some (pe_op op_add (pv 8) (pv 4))))) (blkOk_by (N := NThings) (sc := defScope sThings) (by decide +kernel)) (fun _ _ _ _ _ => pg_name (i := 10) nd rfl (Or.inl rfl)) (fun _ _ _ _ _ => pts_nil)
          (fun _ _ _ _ _ => pe_op op_mod (pe_op op_add (pv 10) (pv 9)) (pv 1))))))) pss_nil)
      (pss_cons (ps_par (i := 11) (j := 7) rfl nd rfl rfl (by decide) rfl rfl (pa_cons (pe_g GT hr (by rfl) (pa_cons (pv 0) (pa_cons (pv 1) pa_nil))) (pa_cons (pe_lst pa_nil) pa_nil)) (by rfl))
      (pss_cons (ps_for PassesOwn.never rfl (pi_range1 (by rfl) T.range (pa_cons (pv 4) pa_nil)) (pg_name (i := 5) nd rfl (.inl rfl))
        (pss_cons (ps_set (i := 10) nd rfl (.inl rfl) (pe_g GT hr (by rfl) (pa_cons (pv 0) (pa_cons (pv 1) pa_nil))))
        (pss_cons (ps_while PassesOwn.never (pt_cmpR op_in_seq (pv 10) (pe_slice sl_list (pv 7) (po_some (pe_callB (call_max2 rfl) (by rfl) T.max (by decide +kernel) (pa_cons pe_int (pa_cons (pe_op op_sub (pe_callB call_len_seq (by rfl) T.len PySem.boot_len (pa_cons (pv 7) pa_nil)) (pv 11)) pa_nil)))) po_none) (by rfl))
          (pss_one (ps_set (i := 10) nd rfl (.inl rfl) (pe_op op_mod (pe_op op_add (pv 10) pe_int) (pv 1)))))
        (pss_one (ps_expr (pe_bm PySem.F.plainAttrs_list PySem.F.slot_list_append PySem.F.type_list_append mt_append (pv 7) (pa_cons (pv 10) pa_nil)))))))
      (pss_one (ps_ret (pv 7)))))))), ?_⟩
    -- way, size
    refine ⟨_, rfl, b, 5, rfl, hb, by decide, by decide, fun way H1 w0 w1 hb1 s1 => ?_⟩
    refine ⟨_, rfl, _, rfl, b, m, rfl, hb1, m1, m2, fun z H2 z1 z2 hb2 s2 => ?_⟩
    have s12 := s1.trans s2
    refine ⟨_, _, rfl, _, rfl, rfl, _, rfl, ite2 (fun _ => ?_) (fun _ => ?_)⟩
    · -- [take(box, n) for k in range(size)]
      refine ⟨_, rfl, _, rfl, by omega, by omega, fun D hD => ?_⟩
      rw [Int.toNat_natCast]
      have nD : H D = none := s12.free hb2.ex hD
      have nbD : b ≠ D := let ⟨_, e⟩ := hb2.ex; ne_of_none e hD
      refine lc_range (lo := 0) (n := z) (fun i H' => ∃ acc : List Int, H' D = some (.lst (acc.map V.int)) ∧ acc.length = i ∧ (∀ x ∈ acc, 0 ≤ x ∧ x < n) ∧ BoxAt H' b ∧ But b H H')
        ⟨[], upd_same, rfl, (fun _ hx => (nomatch hx)), hb2.put nbD, s12.put nD⟩ (fun i H3 hi hP => ?_) (fun H3 hP => ?_)
      · obtain ⟨acc, h1, h2, h3, h4, h5⟩ := hP
        refine ⟨rfl, ?_⟩
        refine ⟨_, rfl, _, rfl, b, n, rfl, h4, by omega, by omega, fun r H4 r0 r1 h4' s4 => ?_⟩
        have hD4 := s4 _ _ (Ne.symm nbD) h1
        refine ⟨_, hD4, line_lt (by rw [List.length_map]; omega), acc ++ [r], by rw [upd_same, List.map_append]; rfl, by rw [List.length_append, h2]; rfl, fun x hx => ?_, h4'.put nbD, (h5.trans s4).put nD⟩
        rcases List.mem_append.mp hx with y | y
        · exact h3 x y
        · have e : x = r := by simpa using y
          omega
      · obtain ⟨acc, h1, h2, h3, h4, h5⟩ := hP
        exact q acc H3 D (by omega) (by omega) h3 h4 h5 nD h1
    · refine ⟨_, rfl, rfl, _, rfl, ite2 (fun _ => ?_) (fun _ => ?_)⟩
      · -- block = [..]
        refine ⟨_, rfl, b, 7, rfl, hb2, by decide, by decide, fun r H3 r0 r1 hb3 s3 => ?_⟩
        have s13 := s12.trans s3
        obtain ⟨c, hc⟩ : ∃ c : Nat, (1 : Int) + r = (c : Int) := ⟨(1 + r).toNat, by omega⟩
        refine ⟨_, _, rfl, rfl, _, rfl, by omega, by omega, ?_⟩
        rw [hc, Int.toNat_natCast]
        intro D hD
        have nD : H D = none := s13.free hb3.ex hD
        have nbD : b ≠ D := let ⟨_, e⟩ := hb3.ex; ne_of_none e hD
        refine lc_range (lo := 0) (n := c) (fun i H' => ∃ acc : List Int, H' D = some (.lst (acc.map V.int)) ∧ acc.length = i ∧ (∀ x ∈ acc, 0 ≤ x ∧ x < n) ∧ BoxAt H' b ∧ But b H H')
          ⟨[], upd_same, rfl, (fun _ hx => (nomatch hx)), hb3.put nbD, s13.put nD⟩ (fun i H3 hi hP => ?_) (fun H3 hP => ?_)
        · obtain ⟨acc, h1, h2, h3, h4, h5⟩ := hP
          refine ⟨rfl, ?_⟩
          refine ⟨_, rfl, _, rfl, b, n, rfl, h4, by omega, by omega, fun r H4 r0 r1 h4' s4 => ?_⟩
          have hD4 := s4 _ _ (Ne.symm nbD) h1
          refine ⟨_, hD4, line_lt (by rw [List.length_map]; omega), acc ++ [r], by rw [upd_same, List.map_append]; rfl, by rw [List.length_append, h2]; rfl, fun x hx => ?_, h4'.put nbD, (h5.trans s4).put nD⟩
          rcases List.mem_append.mp hx with y | y
          · exact h3 x y
          · have e : x = r := by simpa using y
            omega
        · -- return (block * size)[:size]
          obtain ⟨acc, h1, h2, h3, h4, h5⟩ := hP
          refine ⟨_, rfl, _, rfl, D, _, _, rfl, rfl, h1, by omega, by omega, line_le ?_, fun p1 np1 => ?_⟩
          · rw [List.length_map, Int.toNat_natCast]
            exact Nat.le_trans (Nat.mul_le_mul (show acc.length ≤ 7 by omega) z2) (by decide)
          · rw [Int.toNat_natCast, ← List.map_replicate, ← List.map_flatten]
            have t1 := same_upd (o := .lst (((List.replicate z acc).flatten).map V.int)) np1
            refine ⟨_, rfl, _, rfl, p1, _, rfl, SqL.of upd_same, fun p np => ?_⟩
            rw [cut_to rfl]
            have lf : (List.replicate z acc).flatten.length = z * c := by
              rw [List.length_flatten, List.map_replicate, List.sum_replicate_nat, h2]
            have lz : z ≤ z * c := Nat.le_mul_of_pos_right z (by omega)
            refine q ((List.replicate z acc).flatten.take z) _ p (by rw [List.length_take, lf]; omega) (by rw [List.length_take]; omega) (fun x hx => ?_) ((h4.same t1).same (same_upd np)) ((h5.trans (same_but t1)).trans (same_but (same_upd np))) ?_ upd_same
            · obtain ⟨l, hl, hx2⟩ := List.mem_flatten.mp (List.mem_of_mem_take hx)
              rw [List.eq_of_mem_replicate hl] at hx2
              exact h3 x hx2
            · exact (h5.trans (same_but t1)).free (h4.same t1).ex np
      · refine ⟨_, rfl, rfl, _, rfl, ite2 (fun _ => ?_) (fun _ => ?_)⟩
        · -- row = made(min(n, 2 + take(box, 4)))
          refine ⟨_, rfl, _, rfl, b, 4, rfl, hb2, by decide, by decide, fun r H3 r0 r1 hb3 s3 => ?_⟩
          have s13 := s12.trans s3
          refine ⟨_, _, rfl, rfl, _, _, rfl, _, rfl, by split <;> omega, by split <;> omega, fun ms H4 p4 l1 l2 _ s4 np4 hp4 => ?_⟩
          have hb4 := hb3.same s4
          have s14 := s13.trans (same_but s4)
          refine ⟨_, rfl, _, rfl, p4, _, rfl, .inl (SqL.of hp4), b, _, rfl, hb4, by rw [List.length_map]; omega, by rw [List.length_map]; omega, fun bg H5 bg0 bg1 hb5 s5 => ?_⟩
          rw [List.length_map] at bg1
          have nb4 : p4 ≠ b := fun e => by
            obtain ⟨_, e2⟩ := hb3.ex
            rw [e, e2] at np4
            cases np4
          have hp5 := s5 _ _ nb4 hp4
          refine ⟨_, rfl, _, rfl, b, n, rfl, hb5, by omega, by omega, fun sh H6 _ _ hb6 s6 => ?_⟩
          have hp6 := s6 _ _ nb4 hp5
          have s16 := (s14.trans s5).trans s6
          refine ⟨line_le (by show 2 ≤ 1000000; decide), fun T1 nT1 => ?_⟩
          refine ⟨T1, [.int bg, .int sh], rfl, SqT.of upd_same, rfl, _, [.int sh], rfl, _, [], rfl, rfl, ?_⟩
          have t1 := same_upd (o := .tup [V.int bg, V.int sh]) nT1
          have hp7 := t1 _ _ hp6
          have hb7 := hb6.same t1
          have s17 := s16.trans (same_but t1)
          obtain ⟨g, rfl⟩ : ∃ g : Nat, bg = (g : Int) := ⟨bg.toNat, by omega⟩
          refine ⟨_, rfl, _, rfl, _, rfl, _, rfl, _, rfl, _, _, rfl, rfl, _, rfl, p4, _, rfl, SqL.of hp7, fun p8 np8 => ?_⟩
          rw [cut_mid (i := g) (j := g + z) rfl (by omega), show g + z - g = z by omega]
          have t2 := same_upd (o := .lst (((ms.drop g).take z).map V.int)) np8
          have hb8 := hb7.same t2
          have s18 := s17.trans (same_but t2)
          obtain ⟨xs, hxs⟩ : ∃ xs, xs = (ms.drop g).take z := ⟨_, rfl⟩
          rw [← hxs] at t2 hb8 s18 ⊢
          have lx : xs.length = min z (ms.length - g) := by rw [hxs, List.length_take, List.length_drop]
          refine ⟨p8, rfl, ⟨_, SqL.of upd_same⟩, fun D hD => ?_⟩
          have nD : H D = none := s18.free hb8.ex hD
          have nbD : b ≠ D := let ⟨_, e⟩ := hb8.ex; ne_of_none e hD
          have n8D : p8 ≠ D := ne_of_none upd_same hD
          generalize hH8 : upd (upd H6 T1 (.tup [V.int (g : Int), V.int sh])) p8 (.lst (xs.map V.int)) = H8 at hb8 s18 hD n8D
          have hp8 : H8 p8 = some (.lst (xs.map V.int)) := by rw [← hH8]; exact upd_same
          refine lc_list (K := K) (a := p8) (xs := xs.map V.int) (fun i H' => ∃ acc : List Int, H' D = some (.lst (acc.map V.int)) ∧ acc.length = i ∧ (∀ x ∈ acc, 0 ≤ x ∧ x < n) ∧ H' p8 = some (.lst (xs.map V.int)) ∧ BoxAt H' b ∧ But b H H')
            ⟨[], upd_same, rfl, (fun _ hx => (nomatch hx)), by rw [upd_ne n8D]; exact hp8, hb8.put nbD, s18.put nD⟩ (fun i H' _ hP => let ⟨_, _, _, _, e, _⟩ := hP; SqL.of e) (fun i x H' hx hP => ?_) (fun H' hP => ?_)
          · obtain ⟨acc, h1, h2, h3, h4, h5, h6⟩ := hP
            obtain ⟨v, hv, rfl⟩ := map_int_get hx
            refine ⟨rfl, ?_⟩
            have hi : i < xs.length := (List.getElem?_eq_some_iff.mp hv).1
            refine ⟨_, rfl, _, rfl, _, _, rfl, rfl, _, rfl, _, _, rfl, rfl, (by show (0 : Int) < n; omega), _, h1, line_lt (by rw [List.length_map]; omega), acc ++ [(v + sh) % n], by rw [upd_same, List.map_append]; rfl, by rw [List.length_append, h2]; rfl, fun x hx => ?_, by rw [upd_ne n8D]; exact h4, h5.put nbD, h6.put nD⟩
            rcases List.mem_append.mp hx with y | y
            · exact h3 x y
            · have e : x = (v + sh) % n := by simpa using y
              have e1 := Int.emod_nonneg (v + sh) (show n ≠ 0 by omega)
              have e2 := Int.emod_lt_of_pos (v + sh) (show 0 < n by omega)
              omega
          · obtain ⟨acc, h1, h2, h3, h4, h5, h6⟩ := hP
            rw [List.length_map] at h2
            exact q acc H' D (by omega) (by omega) h3 h5 h6 nD h1
        · -- wide, row = take(box, n), []
          refine ⟨_, rfl, _, rfl, b, n, rfl, hb2, by omega, by omega, fun wide H3 wd0 wd1 hb3 s3 => ?_⟩
          have s13 := s12.trans s3
          refine ⟨Nat.zero_le _, fun r nr => ⟨_, _, rfl, ?_⟩⟩
          have nrH : H r = none := s13.free hb3.ex nr
          have nbr : b ≠ r := let ⟨_, e⟩ := hb3.ex; ne_of_none e nr
          refine ⟨_, rfl, _, rfl, by omega, by omega, ?_⟩
          rw [Int.toNat_natCast]
          refine for_range (lo := 0) (n := z) (fun i σ H' => ∃ acc y5 y10, σ = [some (.ref b), some (.int n), some (.int m), some (.int way), some (.int z), y5, none, some (.ref r), none, none, y10, some (.int wide)] ∧
              H' r = some (.lst (acc.map V.int)) ∧ acc.length = i ∧ (∀ x ∈ acc, 0 ≤ x ∧ x < n) ∧ BoxAt H' b ∧ But b H H')
            ⟨[], none, none, rfl, upd_same, rfl, (fun _ hx => (nomatch hx)), hb3.put nbr, s13.put nrH⟩ (fun i σ H4 hi hP => ?_) (fun σ H4 hP => ?_)
          · obtain ⟨acc, y5, y10, rfl, h1, h2, h3, h4, h5⟩ := hP
            refine ⟨_, rfl, _, rfl, b, n, rfl, h4, by omega, by omega, fun t H5 t0 t1 hb5 s5 => ?_⟩
            have hr5 := s5 _ _ (Ne.symm nbr) h1
            have s15 := h5.trans s5
            -- while thing in row[max(0, len(row) - wide):]
            obtain ⟨x0, x00, x01, x0n⟩ := one_out (n := n) (L := acc.drop (acc.length - wide.toNat)) (by rw [List.length_drop]; omega)
            refine ⟨fun mm σ H' => ∃ t : Int, σ = [some (.ref b), some (.int n), some (.int m), some (.int way), some (.int z), some (.int (0 + (i : Int))), none, some (.ref r), none, none, some (.int t), some (.int wide)] ∧ 0 ≤ t ∧ t < n ∧ mm = ((x0 - t) % n).toNat ∧ Same H5 H',
              ⟨_, t, rfl, t0, t1, rfl, Same.refl _⟩, fun mm σ H6 hW => ?_⟩
            obtain ⟨t_old, rfl, t0, t1, rfl, s6⟩ := hW
            have hr6 := s6 _ _ hr5
            have em : ∃ k : Nat, (if (((acc.map V.int).length : Int) - wide) > 0 then (((acc.map V.int).length : Int) - wide) else 0) = (k : Int) ∧ k = acc.length - wide.toNat := by
              rw [List.length_map]
              refine ⟨acc.length - wide.toNat, ?_, rfl⟩
              split <;> omega
            obtain ⟨k, ek, rfl⟩ := em
            refine ⟨_, rfl, _, rfl, _, rfl, r, _, rfl, .inl (SqL.of hr6), _, rfl, _, _, rfl, rfl, _, _, rfl, _, rfl, r, _, rfl, SqL.of hr6, fun p7 np7 => ?_⟩
            rw [ek, cut_from rfl]
            have s7 := s6.trans (same_upd (o := .lst ((acc.drop (acc.length - wide.toNat)).map V.int)) np7)
            refine ⟨p7, _, rfl, .inl (SqL.of upd_same), rfl, flat_ints _, _, rfl, ?_⟩
            show if (inV (V.int t_old) ((acc.drop (acc.length - wide.toNat)).map V.int)) = true then _ else _
            rw [inV_int]
            refine ite2 (fun hin => ?_) (fun hin => ?_)
            · have tin := of_decide_eq_true hin
              refine ⟨fun σ H' => ∃ t : Int, σ = [some (.ref b), some (.int n), some (.int m), some (.int way), some (.int z), some (.int (0 + (i : Int))), none, some (.ref r), none, none, some (.int t), some (.int wide)] ∧ 0 ≤ t ∧ t < n ∧ ((x0 - t) % n).toNat < ((x0 - t_old) % n).toNat ∧ Same H5 H', ?_, ?_⟩
              · rintro σ' H' ⟨t', rfl, a0, a1, a2, a3⟩
                exact ⟨_, a2, t', rfl, a0, a1, rfl, a3⟩
              · refine ⟨_, rfl, _, _, rfl, rfl, _, rfl, _, _, rfl, rfl, (by show (0 : Int) < n; omega), ?_⟩
                exact ⟨(t_old + 1) % n, rfl, Int.emod_nonneg _ (by omega), Int.emod_lt_of_pos _ (by omega), step_less x00 x01 t0 t1 (fun e => x0n (e ▸ tin)), s7⟩
            · -- row.append(thing)
              have hr7 := s7 _ _ hr5
              refine ⟨_, rfl, .inl ⟨rfl, _, SqL.of hr7⟩, _, rfl, r, _, _, rfl, rfl, hr7, line_lt (by rw [List.length_map]; omega), ?_⟩
              refine ⟨acc ++ [t_old], _, _, rfl, by rw [upd_same, List.map_append]; rfl, by rw [List.length_append, h2]; rfl, fun x hx => ?_, (hb5.same s7).put nbr, (s15.trans (same_but s7)).put nrH⟩
              rcases List.mem_append.mp hx with y | y
              · exact h3 x y
              · have e : x = t_old := by simpa using y
                omega
          · obtain ⟨acc, y5, y10, rfl, h1, h2, h3, h4, h5⟩ := hP
            refine ⟨_, rfl, ?_⟩
            exact q acc H4 r (by omega) (by omega) h3 h4 h5 nrH h1
theorem gd_things (T : Txt K mg C) (D : Df K mg "_law_things" sThings) (GT : Gd P w K mg base "_law_take" 1 ["_law_box_here", "_law_many"] spTake)
    (GS : Gd P w K mg base "_law_size" 2 ["_law_box_here", "_law_most"] spSize) (GM : Gd P w K mg base "_law_made" 2 ["_law_n_here"] spMade) : Gd P w K mg base "_law_things" 3 ["_law_box_here", "_law_n_here", "_law_most"] spThings :=
  Gd.mk D (fun _ _ F => ok_things T F GT GS GM) fun _ _ _ _ _ _ us hl => match us, hl with | [_, _, _], _ => rfl
end
end K80
/-! The law's rows: n and things, other rows. -/
namespace K80
open PySem PySem.Spec PyProof.Rows L2
/-! ### slices and sums of tuples, the same object or a new one -/
theorem slA {K : PySem.W.Frag} {H : Hp} {a : Addr} {ns ms : List Int} {lo hi : Option Int} {Q : VK} (ha : TupI H a ns) (e : cutV (ns.map V.int) lo hi = ms.map V.int) (k : ∀ p H', Same H H' → TupI H' p ms → Q (.ref p) H') : rSlA K (.ref a) lo hi H Q := by
  refine ⟨a, _, rfl, SqT.of ha, fun hw => ?_, fun hw p np => k p _ (same_upd np) (by show _ = _; rw [upd_same, e])⟩
  have e2 : ns.map V.int = ms.map V.int := by
    rw [← e]
    unfold cutV
    rw [hw.1, hw.2, List.drop_zero, Nat.sub_zero, List.take_length]
  exact k a H (Same.refl H) (by show H a = _; rw [← e2]; exact ha)
theorem catA {K : PySem.W.Frag} {H : Hp} {a b : Addr} {xs ys : List Int} {Q : VK} (ha : TupI H a xs) (hb : TupI H b ys) (hl : xs.length + ys.length ≤ 1000000) (k : ∀ p H', Same H H' → TupI H' p (xs ++ ys) → Q (.ref p) H') : rCatA K (.ref a) (.ref b) H Q := by
  refine ⟨a, b, _, _, rfl, rfl, SqT.of ha, SqT.of hb, line_le (by rw [List.length_map, List.length_map]; exact hl), fun e => ?_, fun _ e => ?_, fun _ _ p np => k p _ (same_upd np) (by show _ = _; rw [upd_same, List.map_append])⟩
  · have e2 : xs = [] := List.map_eq_nil_iff.mp e
    exact k b H (Same.refl H) (by rw [e2]; exact hb)
  · have e2 : ys = [] := List.map_eq_nil_iff.mp e
    exact k a H (Same.refl H) (by rw [e2, List.append_nil]; exact ha)
theorem po_no {X : Cx} : PO X none (fun _ H Q => Q none H) := po_none
theorem ixN_nat {n j : Nat} (h : j < n) : ixN n (j : Int) = some j := by
  unfold ixN
  rw [if_pos (by omega), if_pos (by omega)]
  rfl

section
variable {P : Program} {w : World} {K : PySem.W.Frag} {mg : Str → Option Value} {base : Heap} {C : Addr}
/-! ### _law_row -/
abbrev sRow : Stmt := topS 35
theorem scRow : FnScope ["_law_box_here", "_law_most", "_law_n_here", "_law_things_here", "_law_k_here"] ["_law_box_here", "_law_most"] (defScope sRow) := ⟨rfl, rfl, rfl, by decide +kernel, rfl, by decide +kernel, by decide +kernel⟩
def spRow : Sp := fun vs H Q _ => ∃ (b : Addr) (m : Int), vs = [.ref b, .int m] ∧ BoxAt H b ∧ 1 ≤ m ∧ m ≤ 300 ∧
  ∀ (n : Int) (ns : List Int) H' t a, 1 ≤ n → n ≤ 26 → 1 ≤ ns.length → ns.length ≤ 300 → (∀ x ∈ ns, 0 ≤ x ∧ x < n) → BoxAt H' b → But b H H' → H' t = some (.tup [.int n, .ref a]) → TupI H' a ns → Q (.ref t) H'
theorem menu4b {e : Int} (h0 : 0 ≤ e) (h1 : e < 4) : ∃ v : Nat, atI [V.int 0, V.int 0, V.int 1, V.int 3] e = some (.int (v : Int)) ∧ v ≤ 3 := by
  have : e = 0 ∨ e = 1 ∨ e = 2 ∨ e = 3 := by omega
  rcases this with rfl | rfl | rfl | rfl
  · exact ⟨0, rfl, by decide⟩
  · exact ⟨0, rfl, by decide⟩
  · exact ⟨1, rfl, by decide⟩
  · exact ⟨3, rfl, by decide⟩
theorem ok_row (T : Txt K mg C) {f : Addr} {fd : FuncData} (F : Fun K "_law_row" "_law_row" sRow f fd) (GT : Gd P w K mg base "_law_take" 1 ["_law_box_here", "_law_many"] spTake) (GN : Gd P w K mg base "_law_n" 2 ["_law_box_here"] spN)
    (GTh : Gd P w K mg base "_law_things" 3 ["_law_box_here", "_law_n_here", "_law_most"] spThings) : FnOk P w K mg base CX0 4 f fd ["_law_box_here", "_law_most"] spRow := by
  refine F.ok scRow (fun vs H Q E h => ?_) (fun cdv A outer s H vs Q E hr h => ?_)
  · obtain ⟨b, m, rfl, _⟩ := h
    rfl
  · obtain ⟨b, m, rfl, hb, m1, m2, q⟩ := h
    have nd := scRow.nd
    refine ⟨_, pss_cons (ps_set (i := 2) nd rfl (.inl rfl) (pe_g GN hr (by rfl) (pa_cons (pv 0) pa_nil)))
      (pss_cons (ps_set (i := 3) nd rfl (.inl rfl) (pe_g GTh hr (by rfl) (pa_cons (pv 0) (pa_cons (pv 2) (pa_cons (pv 1) pa_nil)))))
      (pss_cons (ps_for PassesOwn.never rfl (pi_range1 (by rfl) T.range (pa_cons (pe_ix ix_list (pe_lst (pa_cons pe_int (pa_cons pe_int (pa_cons pe_int (pa_cons pe_int pa_nil))))) (pe_g GT hr (by rfl) (pa_cons (pv 0) (pa_cons pe_int pa_nil))) (fun _ _ => rfl)) pa_nil)) (pg_name (i := 4) nd rfl (.inl rfl))
        (pss_one (ps_asg (pe_g GT hr (by rfl) (pa_cons (pv 0) (pa_cons (pv 2) pa_nil))) (pg_sub (pv 3) (pe_g GT hr (by rfl) (pa_cons (pv 0) (pa_cons (pe_callB call_len_seq (by rfl) T.len PySem.boot_len (pa_cons (pv 3) pa_nil)) pa_nil))) set_list))))
      (pss_one (ps_ret (pe_tup (pa_cons (pv 2) (pa_cons (pe_callTy call_tuple_of (by rfl) T.tuple (by decide +kernel) (pa_cons (pv 3) pa_nil)) pa_nil))))))), ?_⟩
    refine ⟨_, rfl, b, rfl, hb, fun n H1 n1 n2 hb1 s1 => ?_⟩
    refine ⟨_, rfl, _, rfl, _, rfl, b, n, m, rfl, hb1, n1, n2, m1, m2, fun ns H2 p l1 l2 al hb2 s2 np hp => ?_⟩
    have s12 := s1.trans s2
    refine ⟨line_le (by show 4 ≤ 1000000; decide), fun l nl => ?_⟩
    have nbl : b ≠ l := let ⟨_, e⟩ := hb2.ex; ne_of_none e nl
    have nbp : b ≠ p := let ⟨_, e⟩ := hb1.ex; ne_of_none e np
    have t1 := same_upd (o := .lst [V.int 0, V.int 0, V.int 1, V.int 3]) nl
    refine ⟨_, rfl, b, 4, rfl, hb2.same t1, by decide, by decide, fun r H3 r0 r1 hb3 s3 => ?_⟩
    have s13 := s12.trans ((same_but t1).trans s3)
    have hp3 := s3 _ _ (Ne.symm nbp) (t1 _ _ hp)
    have hl3 := s3 _ _ (Ne.symm nbl) upd_same
    obtain ⟨v, ev, v3⟩ := menu4b r0 r1
    refine ⟨l, _, _, .int (v : Int), rfl, rfl, SqL.of hl3, ev, _, rfl, by omega, by omega, ?_⟩
    rw [Int.toNat_natCast]
    have npH : H p = none := s1.free hb1.ex np
    refine for_range (lo := 0) (n := v) (fun i σ H' => ∃ (ns : List Int) (y4 : Option V), σ = [some (.ref b), some (.int m), some (.int n), some (.ref p), y4] ∧ H' p = some (.lst (ns.map V.int)) ∧ 1 ≤ ns.length ∧ ns.length ≤ 300 ∧ (∀ x ∈ ns, 0 ≤ x ∧ x < n) ∧ BoxAt H' b ∧ But b H H')
      ⟨ns, none, rfl, hp3, l1, l2, al, hb3, s13⟩ (fun i σ H4 hi hP => ?_) (fun σ H4 hP => ?_)
    · obtain ⟨ns, y4, rfl, h1, h2, h3, h4, h5, h6⟩ := hP
      refine ⟨_, rfl, _, rfl, b, n, rfl, h5, by omega, by omega, fun x H5 x0 x1 hb5 s5 => ?_⟩
      have h15 := s5 _ _ (Ne.symm nbp) h1
      refine ⟨_, rfl, _, rfl, _, rfl, p, _, rfl, .inl (SqL.of h15), b, _, rfl, hb5, by rw [List.length_map]; omega, by rw [List.length_map]; omega, fun j H6 j0 j1 hb6 s6 => ?_⟩
      have h16 := s6 _ _ (Ne.symm nbp) h15
      rw [List.length_map] at j1
      obtain ⟨jn, rfl⟩ : ∃ jn : Nat, j = (jn : Int) := ⟨j.toNat, by omega⟩
      refine ⟨p, _, _, jn, rfl, rfl, h16, ixN_nat (by rw [List.length_map]; omega), ?_⟩
      refine ⟨ns.set jn x, _, rfl, by rw [upd_same, List.map_set], by rw [List.length_set]; exact h2, by rw [List.length_set]; exact h3, fun y hy => ?_, hb6.put nbp, ((h6.trans s5).trans s6).put npH⟩
      rcases List.mem_or_eq_of_mem_set hy with z | z
      · exact h4 y z
      · omega
    · obtain ⟨ns, y4, rfl, h1, h2, h3, h4, h5, h6⟩ := hP
      refine ⟨_, rfl, _, rfl, p, _, rfl, .inl ⟨SqL.of h1, fun a na => ?_⟩⟩
      have t2 := same_upd (o := .tup (ns.map V.int)) na
      refine ⟨line_le (by show 2 ≤ 1000000; decide), fun t nt => ?_⟩
      have t3 := same_upd (o := .tup [V.int n, V.ref a]) nt
      exact q n ns _ t a n1 n2 h2 h3 h4 ((h5.same t2).same t3) ((h6.trans (same_but t2)).trans (same_but t3)) upd_same (t3 _ _ upd_same)
theorem gd_row (T : Txt K mg C) (D : Df K mg "_law_row" sRow) (GT : Gd P w K mg base "_law_take" 1 ["_law_box_here", "_law_many"] spTake) (GN : Gd P w K mg base "_law_n" 2 ["_law_box_here"] spN)
    (GTh : Gd P w K mg base "_law_things" 3 ["_law_box_here", "_law_n_here", "_law_most"] spThings) : Gd P w K mg base "_law_row" 4 ["_law_box_here", "_law_most"] spRow :=
  Gd.mk D (fun _ _ F => ok_row T F GT GN GTh) fun _ _ _ _ _ _ us hl => match us, hl with | [_, _], _ => rfl

/-! ### _law_other -/
abbrev sOther : Stmt := topS 38
theorem scOther : FnScope ["_law_box_here", "_law_n_here", "_law_things_here", "_law_way", "_law_at", "_law_more", "_law_many"] ["_law_box_here", "_law_n_here", "_law_things_here"] (defScope sOther) := ⟨rfl, rfl, rfl, by decide +kernel, rfl, by decide +kernel, by decide +kernel⟩
def spOther : Sp := fun vs H Q _ => ∃ (b a : Addr) (n : Int) (ns : List Int), vs = [.ref b, .int n, .ref a] ∧ BoxAt H b ∧ 1 ≤ n ∧ n ≤ 26 ∧ TupI H a ns ∧ 1 ≤ ns.length ∧ ns.length ≤ 10000 ∧ (∀ x ∈ ns, 0 ≤ x ∧ x < n) ∧
  ∀ (ms : List Int) H' p, 1 ≤ ms.length → ms.length ≤ 900 → (∀ x ∈ ms, 0 ≤ x ∧ x < n) → BoxAt H' b → But b H H' → TupI H' p ms → Q (.ref p) H'
theorem ok_other (T : Txt K mg C) {f : Addr} {fd : FuncData} (F : Fun K "_law_other" "_law_other" sOther f fd) (GT : Gd P w K mg base "_law_take" 1 ["_law_box_here", "_law_many"] spTake)
    (GTh : Gd P w K mg base "_law_things" 3 ["_law_box_here", "_law_n_here", "_law_most"] spThings) : FnOk P w K mg base CX0 4 f fd ["_law_box_here", "_law_n_here", "_law_things_here"] spOther := by
  refine F.ok scOther (fun vs H Q E h => ?_) (fun cdv A outer s H vs Q E hr h => ?_)
  · obtain ⟨b, a, n, ns, rfl, _⟩ := h
    rfl
  · obtain ⟨b, a, n, ns, rfl, hb, n1, n2, ha, l1, l2, al, q⟩ := h
    have nd := scOther.nd
    refine ⟨_, pss_cons (ps_par (i := 3) (j := 4) rfl nd rfl rfl (by decide) rfl rfl (pa_cons (pe_g GT hr (by rfl) (pa_cons (pv 0) (pa_cons pe_int pa_nil))) (pa_cons (pe_g GT hr (by rfl) (pa_cons (pv 0) (pa_cons (pe_callB call_len_seq (by rfl) T.len PySem.boot_len (pa_cons (pv 2) pa_nil)) pa_nil))) pa_nil)) (by rfl))
      (pss_cons (ps_set (i := 5) nd rfl (.inl rfl) (pe_callTy call_tuple_of (by rfl) T.tuple (by decide +kernel) (pa_cons (pe_g GTh hr (by rfl) (pa_cons (pv 0) (pa_cons (pv 1) (pa_cons pe_int pa_nil)))) pa_nil)))
      (pss_cons (ps_if (pt_cmpR op_lt (pv 3) pe_int (nomark _)) (pss_one (ps_ret (pv 5))) pss_nil)
      (pss_cons (ps_set (i := 6) nd rfl (.inl rfl) (pe_op op_add pe_int (pe_g GT hr (by rfl) (pa_cons (pv 0) (pa_cons (pe_callB call_len_seq (by rfl) T.len PySem.boot_len (pa_cons (pv 2) pa_nil)) pa_nil)))))
      (pss_cons (ps_if (pt_cmpR op_eq (pv 3) pe_int (nomark _)) (pss_one (ps_ret (pe_slice sl_tupA (pv 2) (po_some (pv 4)) (po_some (pe_op op_add (pv 4) (pe_callB (call_min2 rfl) (by rfl) T.min (by decide +kernel) (pa_cons (pv 6) (pa_cons pe_int pa_nil)))))))) pss_nil)
      (pss_cons (ps_if (pt_cmpR op_eq (pv 3) pe_int (nomark _)) (pss_one (ps_ret (pe_slice sl_tupA (pe_op op_catA (pe_slice sl_tupA (pv 2) (po_some (pv 4)) po_no) (pv 5)) po_no (po_some pe_int)))) pss_nil)
      (pss_cons (ps_if (pt_cmpR op_eq (pv 3) pe_int (nomark _)) (pss_one (ps_ret (pe_slice sl_tupA (pe_op op_catA (pv 5) (pe_slice sl_tupA (pv 2) po_no (po_some (pv 6)))) po_no (po_some pe_int)))) pss_nil)
      (pss_one (ps_ret (pe_slice sl_tupA (pe_op op_catA (pe_op op_catA (pe_slice sl_tupA (pv 5) po_no (po_some (pe_g GT hr (by rfl) (pa_cons (pv 0) (pa_cons pe_int pa_nil))))) (pv 2))
        (pe_slice sl_tupA (pv 5) po_no (po_some (pe_g GT hr (by rfl) (pa_cons (pv 0) (pa_cons pe_int pa_nil)))))) po_no (po_some pe_int)))))))))), ?_⟩
    -- way, at
    have nba : a ≠ b := by
      obtain ⟨x, y, z, e⟩ := hb
      exact ne_of ha e (by intro z; cases z)
    refine ⟨_, rfl, b, 6, rfl, hb, by decide, by decide, fun way H1 w0 w1 hb1 s1 => ?_⟩
    have ha1 := s1 _ _ nba ha
    refine ⟨_, rfl, _, rfl, a, _, rfl, .inr (SqT.of ha1), b, _, rfl, hb1, by rw [List.length_map]; omega, by rw [List.length_map]; omega, fun at_ H2 a0 a1 hb2 s2 => ?_⟩
    rw [List.length_map] at a1
    have ha2 := s2 _ _ nba ha1
    have s12 := s1.trans s2
    obtain ⟨g, rfl⟩ : ∃ g : Nat, at_ = (g : Int) := ⟨at_.toNat, by omega⟩
    refine ⟨_, _, rfl, ?_⟩
    -- more
    refine ⟨_, rfl, _, rfl, b, n, 40, rfl, hb2, n1, n2, by decide, by decide, fun ms H3 p k1 k2 am hb3 s3 np hp => ?_⟩
    have ha3 := s3 _ _ nba ha2
    have s13 := s12.trans s3
    refine ⟨p, _, rfl, .inl ⟨SqL.of hp, fun t nt => ?_⟩⟩
    have t1 := same_upd (o := .tup (ms.map V.int)) nt
    have ha4 := t1 _ _ ha3
    have hb4 := hb3.same t1
    have s14 := s13.trans (same_but t1)
    have ht4 : TupI (upd H3 t (.tup (ms.map V.int))) t ms := upd_same
    generalize upd H3 t (.tup (ms.map V.int)) = H4 at ha4 hb4 s14 ht4
    have nbt : t ≠ b := by
      obtain ⟨x, y, z, e⟩ := hb4
      exact ne_of ht4 e (by intro z; cases z)
    refine ⟨_, rfl, _, _, rfl, rfl, _, rfl, ite2 (fun _ => ?_) (fun _ => ?_)⟩
    · refine ⟨_, rfl, ?_⟩
      exact q ms H4 t k1 (by omega) am hb4 s14 ht4
    · -- many
      refine ⟨_, rfl, _, rfl, a, _, rfl, .inr (SqT.of ha4), b, _, rfl, hb4, by rw [List.length_map]; omega, by rw [List.length_map]; omega, fun mn H5 mn0 mn1 hb5 s5 => ?_⟩
      rw [List.length_map] at mn1
      have ha5 := s5 _ _ nba ha4
      have ht5 := s5 _ _ nbt ht4
      have s15 := s14.trans s5
      obtain ⟨c, ec⟩ : ∃ c : Nat, (1 : Int) + mn = (c : Int) := ⟨(1 + mn).toNat, by omega⟩
      refine ⟨_, _, rfl, rfl, ?_⟩
      refine ⟨_, rfl, rfl, _, rfl, ite2 (fun _ => ?_) (fun _ => ?_)⟩
      · -- things[at:at + min(many, 900)]
        obtain ⟨e, he, e1, e2⟩ : ∃ e : Nat, (if (900 : Int) < 1 + mn then (900 : Int) else 1 + mn) = (e : Int) ∧ 1 ≤ e ∧ e ≤ 900 := by
          split
          · exact ⟨900, rfl, by decide, by decide⟩
          · exact ⟨c, ec, by omega, by omega⟩
        refine ⟨_, rfl, _, rfl, _, rfl, _, rfl, _, rfl, _, _, rfl, _, _, rfl, rfl, _, rfl, ?_⟩
        refine slA ha5 (cut_mid (i := g) (j := g + e) rfl (by rw [he]; omega)) fun p' H6 s6 hp6 => ?_
        rw [show g + e - g = e by omega] at hp6
        exact q _ H6 p' (by rw [List.length_take, List.length_drop]; omega) (by rw [List.length_take]; omega) (fun x hx => al x (List.mem_of_mem_drop (List.mem_of_mem_take hx))) (hb5.same s6) (s15.trans (same_but s6)) hp6
      · refine ⟨_, rfl, rfl, _, rfl, ite2 (fun _ => ?_) (fun _ => ?_)⟩
        · -- (things[at:] + more)[:900]
          refine ⟨_, rfl, _, rfl, _, rfl, ?_⟩
          refine slA ha5 (cut_from (i := g) rfl) fun p1 H6 s6 hp6 => ?_
          refine ⟨_, rfl, ?_⟩
          refine catA hp6 (s6 _ _ ht5) (by rw [List.length_drop]; omega) fun p2 H7 s7 hp7 => ?_
          refine ⟨_, rfl, ?_⟩
          refine slA hp7 (cut_to (j := 900) rfl) fun p3 H8 s8 hp8 => ?_
          have s58 := (s6.trans s7).trans s8
          refine q _ H8 p3 (by rw [List.length_take, List.length_append]; omega) (by rw [List.length_take]; omega) (fun x hx => ?_) (hb5.same s58) (s15.trans (same_but s58)) hp8
          rcases List.mem_append.mp (List.mem_of_mem_take hx) with z | z
          · exact al x (List.mem_of_mem_drop z)
          · exact am x z
        · refine ⟨_, rfl, rfl, _, rfl, ite2 (fun _ => ?_) (fun _ => ?_)⟩
          · -- (more + things[:many])[:900]
            refine ⟨_, rfl, _, rfl, _, rfl, _, rfl, ?_⟩
            refine slA ha5 (cut_to (j := c) ec) fun p1 H6 s6 hp6 => ?_
            refine catA (s6 _ _ ht5) hp6 (by rw [List.length_take]; omega) fun p2 H7 s7 hp7 => ?_
            refine ⟨_, rfl, ?_⟩
            refine slA hp7 (cut_to (j := 900) rfl) fun p3 H8 s8 hp8 => ?_
            have s58 := (s6.trans s7).trans s8
            refine q _ H8 p3 (by rw [List.length_take, List.length_append]; omega) (by rw [List.length_take]; omega) (fun x hx => ?_) (hb5.same s58) (s15.trans (same_but s58)) hp8
            rcases List.mem_append.mp (List.mem_of_mem_take hx) with z | z
            · exact am x z
            · exact al x (List.mem_of_mem_take z)
          · -- (more[:take(box, 9)] + things + more[:take(box, 9)])[:900]
            refine ⟨_, rfl, _, rfl, b, 9, rfl, hb5, by decide, by decide, fun d1 H6 d10 d11 hb6 s6 => ?_⟩
            have ha6 := s6 _ _ nba ha5
            have ht6 := s6 _ _ nbt ht5
            obtain ⟨e1, rfl⟩ : ∃ e : Nat, d1 = (e : Int) := ⟨d1.toNat, by omega⟩
            refine ⟨_, rfl, ?_⟩
            refine slA ht6 (cut_to (j := e1) rfl) fun p1 H7 s7 hp7 => ?_
            have ha7 := s7 _ _ ha6
            refine ⟨_, rfl, ?_⟩
            refine catA hp7 ha7 (by rw [List.length_take]; omega) fun p2 H8 s8 hp8 => ?_
            have hb8 := (hb6.same s7).same s8
            have ht8 := s8 _ _ (s7 _ _ ht6)
            have nb2 : p2 ≠ b := by
              obtain ⟨x, y, z, e⟩ := hb8
              exact ne_of hp8 e (by intro z; cases z)
            refine ⟨_, rfl, _, rfl, b, 9, rfl, hb8, by decide, by decide, fun d2 H9 d20 d21 hb9 s9 => ?_⟩
            have ht9 := s9 _ _ nbt ht8
            have hp9 := s9 _ _ nb2 hp8
            obtain ⟨e2, rfl⟩ : ∃ e : Nat, d2 = (e : Int) := ⟨d2.toNat, by omega⟩
            refine ⟨_, rfl, ?_⟩
            refine slA ht9 (cut_to (j := e2) rfl) fun p3 H10 s10 hp10 => ?_
            refine catA (s10 _ _ hp9) hp10 (by rw [List.length_append, List.length_take, List.length_take]; omega) fun p4 H11 s11 hp11 => ?_
            refine ⟨_, rfl, ?_⟩
            refine slA hp11 (cut_to (j := 900) rfl) fun p5 H12 s12' hp12 => ?_
            have sb := (s10.trans s11).trans s12'
            refine q _ H12 p5 (by rw [List.length_take, List.length_append, List.length_append]; omega) (by rw [List.length_take]; omega) (fun x hx => ?_) (hb9.same sb)
              ((((s15.trans s6).trans (same_but (s7.trans s8))).trans s9).trans (same_but sb)) hp12
            rcases List.mem_append.mp (List.mem_of_mem_take hx) with z | z
            · rcases List.mem_append.mp z with y | y
              · exact am x (List.mem_of_mem_take y)
              · exact al x y
            · exact am x (List.mem_of_mem_take z)
theorem gd_other (T : Txt K mg C) (D : Df K mg "_law_other" sOther) (GT : Gd P w K mg base "_law_take" 1 ["_law_box_here", "_law_many"] spTake)
    (GTh : Gd P w K mg base "_law_things" 3 ["_law_box_here", "_law_n_here", "_law_most"] spThings) : Gd P w K mg base "_law_other" 4 ["_law_box_here", "_law_n_here", "_law_things_here"] spOther :=
  Gd.mk D (fun _ _ F => ok_other T F GT GTh) fun _ _ _ _ _ _ us hl => match us, hl with | [_, _, _], _ => rfl
end
end K80
/-! The program: what is a row, its windows. -/
namespace K80
open PySem PySem.Spec PyProof.Rows L2
/-! ### a method by its name -/
def Mf (K : PySem.W.Frag) (C : Addr) (m qual : Str) (st : Stmt) : Prop := ∃ f fd, Meth K C m f ∧ Fun K m qual st f fd
def MfD (K : PySem.W.Frag) (C : Addr) (m qual : Str) (st : Stmt) (dvs : List V) : Prop := ∃ f fd, Meth K C m f ∧ FunD K m qual (defArgs st) (defBody st) (defScope st) dvs [] f fd
/-- all tuples stay -/
def Tk (H H' : Hp) : Prop := ∀ b xs, H b = some (.tup xs) → H' b = some (.tup xs)
theorem tk_same {H H' : Hp} (s : Same H H') : Tk H H' := fun b xs e => s b _ e
theorem tk_but {b : Addr} {H H' : Hp} {o : HO} (hb : H b = some o) (ho : ∀ xs, o ≠ .tup xs) (s : But b H H') : Tk H H' := fun c xs e => s c _ (fun z => by
  rw [z, hb] at e
  exact ho xs (Option.some.inj e)) e
theorem Tk.trans {H H1 H2 : Hp} (a : Tk H H1) (b : Tk H1 H2) : Tk H H2 := fun c xs e => b c xs (a c xs e)
theorem TupsAt.tk {H H' : Hp} {as : List Addr} {ws : List (List Int)} (k : Tk H H') (t : TupsAt H as ws) : TupsAt H' as ws := ⟨t.1, fun i a w h1 h2 => k _ _ (t.2 i a w h1 h2)⟩
theorem PairsAt.tk {H H' : Hp} {as : List Addr} {ws : List (List Int)} (k : Tk H H') (t : PairsAt H as ws) : PairsAt H' as ws := ⟨t.1, fun i a w h1 h2 => let ⟨b, v, e1, e2⟩ := t.2 i a w h1 h2; ⟨b, v, k _ _ e1, k _ _ e2⟩⟩

section
variable {P : Program} {w : World} {K : PySem.W.Frag} {mg : Str → Option Value} {base : Heap} {C : Addr}
theorem Gm.mk {m qual : Str} {st : Stmt} {k : Nat} {ps : List Str} {sp : Sp} (D : Mf K C m qual st) (ok : ∀ f fd, Fun K m qual st f fd → FnOk P w K mg base CX0 k f fd ps sp)
    (h : ∀ (kV doc pm : Value) (an : Option Addr) (cdv ct : Value) (us : List Value), us.length = ps.length → bindArgs (PySem.W.fnOf m qual (defArgs st) (defBody st) (defScope st) .none kV doc pm an cdv ct) ⟨us, []⟩ = pure (ps.zip us)) : Gm P w K mg base C m k ps sp := by
  obtain ⟨f, fd, M, F⟩ := D
  exact ⟨f, fd, M, ok f fd F, F.binds h⟩

/-! ### is_whole, is_below -/
abbrev sWhole : Stmt := topS 13
theorem scWhole : FnScope ["thing"] ["thing"] (defScope sWhole) := ⟨rfl, rfl, rfl, by decide +kernel, rfl, by decide +kernel, by decide +kernel⟩
def spWhole : Sp := fun vs H Q _ => ∃ i : Int, vs = [.int i] ∧ Q (.bl true) H
theorem ok_whole (T : Txt K mg C) {f : Addr} {fd : FuncData} (F : Fun K "is_whole" "is_whole" sWhole f fd) : FnOk P w K mg base CX0 1 f fd ["thing"] spWhole := by
  refine F.ok scWhole (fun vs H Q E h => ?_) (fun cdv A outer s H vs Q E hr h => ?_)
  · obtain ⟨i, rfl, _⟩ := h
    rfl
  · obtain ⟨i, rfl, q⟩ := h
    refine ⟨_, pss_one (ps_ret (pe_and (pe_callB call_isi (by rfl) T.isinstance (by decide +kernel) (pa_cons (pv 0) (pa_cons (pe_bltn (v := .ty "int") (by rfl) T.int (by decide +kernel) rfl) pa_nil)))
      (pe_one (pe_not (pe_callB call_isi (by rfl) T.isinstance (by decide +kernel) (pa_cons (pv 0) (pa_cons (pe_bltn (v := .ty "bool") (by rfl) T.bool (by decide +kernel) rfl) pa_nil))))))), ?_⟩
    refine ⟨_, rfl, _, _, _, _, true, rfl, .ty "int", .base (.int i), kit_ty (by decide +kernel), _, rfl, iteT ?_⟩
    exact ⟨_, rfl, _, _, _, _, false, rfl, .ty "bool", .base (.int i), kit_ty (by decide +kernel), _, rfl, q⟩
theorem gd_whole (T : Txt K mg C) (D : Df K mg "is_whole" sWhole) : Gd P w K mg base "is_whole" 1 ["thing"] spWhole :=
  Gd.mk D (fun _ _ F => ok_whole T F) fun _ _ _ _ _ _ us hl => match us, hl with | [_], _ => rfl

abbrev sBelow : Stmt := topS 14
theorem scBelow : FnScope ["thing", "many"] ["thing", "many"] (defScope sBelow) := ⟨rfl, rfl, rfl, by decide +kernel, rfl, by decide +kernel, by decide +kernel⟩
def spBelow : Sp := fun vs H Q _ => ∃ i n : Int, vs = [.int i, .int n] ∧ 0 ≤ i ∧ i < n ∧ Q (.bl true) H
theorem ok_below {f : Addr} {fd : FuncData} (F : Fun K "is_below" "is_below" sBelow f fd) (GW : Gd P w K mg base "is_whole" 1 ["thing"] spWhole) : FnOk P w K mg base CX0 2 f fd ["thing", "many"] spBelow := by
  refine F.ok scBelow (fun vs H Q E h => ?_) (fun cdv A outer s H vs Q E hr h => ?_)
  · obtain ⟨i, n, rfl, _⟩ := h
    rfl
  · obtain ⟨i, n, rfl, h0, h1, q⟩ := h
    refine ⟨_, pss_one (ps_ret (pe_and (pe_g GW hr (by rfl) (pa_cons (pv 0) pa_nil)) (pe_one (pe_chain op_le op_lt pe_int (pv 0) (pv 1))))), ?_⟩
    refine ⟨_, rfl, i, rfl, _, rfl, iteT ?_⟩
    refine ⟨_, rfl, _, _, rfl, rfl, _, rfl, ?_⟩
    rw [if_pos (decide_eq_true h0)]
    refine ⟨_, rfl, _, _, rfl, rfl, ?_⟩
    show Q (.bl (decide (i < n))) H
    rw [decide_eq_true h1]
    exact q
theorem gd_below (D : Df K mg "is_below" sBelow) (GW : Gd P w K mg base "is_whole" 1 ["thing"] spWhole) : Gd P w K mg base "is_below" 2 ["thing", "many"] spBelow :=
  Gd.mk D (fun _ _ F => ok_below F GW) fun _ _ _ _ _ _ us hl => match us, hl with | [_, _], _ => rfl

/-! ### can_be_row -/
abbrev sCan : Stmt := topS 15
abbrev NCan : List Str := ["n", "things", "thing"]
theorem scCan : FnScope NCan ["n", "things"] (defScope sCan) := ⟨rfl, rfl, rfl, by decide +kernel, rfl, by decide +kernel, by decide +kernel⟩
def spCan : Sp := fun vs H Q _ => ∃ (n : Int) (a : Addr) (ns : List Int), vs = [.int n, .ref a] ∧ RowOk n ns ∧ TupI H a ns ∧ ∀ H', Same H H' → Q (.bl true) H'
theorem ok_can (T : Txt K mg C) {f : Addr} {fd : FuncData} (F : Fun K "can_be_row" "can_be_row" sCan f fd) (GW : Gd P w K mg base "is_whole" 1 ["thing"] spWhole) (GB : Gd P w K mg base "is_below" 2 ["thing", "many"] spBelow) : FnOk P w K mg base CX0 3 f fd ["n", "things"] spCan := by
  refine F.ok scCan (fun vs H Q E h => ?_) (fun cdv A outer s H vs Q E hr h => ?_)
  · obtain ⟨n, a, ns, rfl, _⟩ := h
    rfl
  · obtain ⟨n, a, ns, rfl, R, ha, q⟩ := h
    have nd := scCan.nd
    obtain ⟨tm, hm⟩ := T.most
    refine ⟨_, pss_cons (ps_if (PW.pt (pw_or (pt_not (pt_val (pe_g GW hr (by rfl) (pa_cons (pv 0) pa_nil)))) (pw_or (pt_not (pt_chain op_le op_le pe_int (pv 0) (pe_glob (v := .int 26) (by rfl) hm ⟨tm, rfl⟩)))
        (pw_or1 (pt_not (pt_val (pe_callB call_isi (by rfl) T.isinstance (by decide +kernel) (pa_cons (pv 1) (pa_cons (pe_bltn (v := .ty "tuple") (by rfl) T.tuple (by decide +kernel) rfl) pa_nil)))))))))
        (pss_one (ps_ret pe_bl)) pss_nil)
      (pss_one (ps_ret (pe_and (pe_cmpR op_gt (pe_callB call_len_seq (by rfl) T.len PySem.boot_len (pa_cons (pv 1) pa_nil)) pe_int (nomark _))
        (pe_one (pe_callB (cr_all rfl) (by rfl) T.all (by decide +kernel) (pa_cons (pe_lc (own := [("thing", 2)]) (g := gName 2) (tt := tYes) rfl nd (pi_tup (pv 1)) (blkOk_by (N := NCan) (sc := defScope sCan) (by decide +kernel)) (fun _ _ _ _ _ => pg_name (i := 2) nd rfl (Or.inl rfl)) (fun _ _ _ _ _ => pts_nil)
          (fun _ _ _ _ _ => pe_g GB hr (by rfl) (pa_cons (pv 2) (pa_cons (pv 0) pa_nil)))) pa_nil)))))), ?_⟩
    refine ⟨_, rfl, n, rfl, _, rfl, iteF ?_⟩
    refine ⟨_, rfl, _, _, rfl, rfl, _, rfl, ?_⟩
    rw [if_pos (decide_eq_true R.n1)]
    refine ⟨_, _, rfl, rfl, _, rfl, ?_⟩
    rw [decide_eq_true R.n2]
    refine iteF ?_
    refine ⟨_, rfl, _, _, _, _, true, rfl, .ty "tuple", .base (.tup ha), kit_ty (by decide +kernel), _, rfl, ?_⟩
    refine iteF ?_
    have l1 := R.len1
    refine ⟨_, rfl, a, _, rfl, .inr (SqT.of ha), _, _, rfl, rfl, _, rfl, ?_⟩
    rw [if_pos (decide_eq_true (by rw [List.length_map]; omega))]
    refine ⟨_, rfl, a, rfl, ⟨_, SqT.of ha⟩, fun D hD => ?_⟩
    refine lc_tup (K := K) (a := a) (xs := ns.map V.int) (fun i H' => H' D = some (.lst ((List.replicate i true).map V.bl)) ∧ Same H H') ⟨upd_same, same_upd hD⟩ (fun i H' _ hP => SqT.of (hP.2 _ _ ha)) (fun i x H' hx hP => ?_) (fun H' hP => ?_)
    · obtain ⟨h1, h2⟩ := hP
      obtain ⟨v, hv, rfl⟩ := map_int_get hx
      have hi : i < ns.length := (List.getElem?_eq_some_iff.mp hv).1
      have l2 := R.len2
      have hb := R.all v (List.mem_of_getElem? hv)
      refine ⟨rfl, ?_⟩
      refine ⟨_, rfl, _, rfl, v, n, rfl, hb.1, hb.2, _, h1, line_lt (by rw [List.length_map, List.length_replicate]; omega), ?_, fun b o e => ?_⟩
      · rw [upd_same, List.replicate_succ', List.map_append]
        rfl
      · rw [upd_ne (ne_of_none e hD)]
        exact h2 b o e
    · obtain ⟨h1, h2⟩ := hP
      refine ⟨D, _, rfl, SqL.of h1, ?_⟩
      rw [show (List.replicate (ns.map V.int).length true).all id = true by rw [List.all_eq_true]; intro x hx; exact List.eq_of_mem_replicate hx]
      exact q H' h2
theorem gd_can (T : Txt K mg C) (D : Df K mg "can_be_row" sCan) (GW : Gd P w K mg base "is_whole" 1 ["thing"] spWhole) (GB : Gd P w K mg base "is_below" 2 ["thing", "many"] spBelow) : Gd P w K mg base "can_be_row" 3 ["n", "things"] spCan :=
  Gd.mk D (fun _ _ F => ok_can T F GW GB) fun _ _ _ _ _ _ us hl => match us, hl with | [_, _], _ => rfl

/-! ### are_unlike -/
abbrev sUnlike : Stmt := topS 16
theorem scUnlike : FnScope ["window"] ["window"] (defScope sUnlike) := ⟨rfl, rfl, rfl, by decide +kernel, rfl, by decide +kernel, by decide +kernel⟩
def spUnlike : Sp := fun vs H Q _ => ∃ (a : Addr) (ns : List Int), vs = [.ref a] ∧ TupI H a ns ∧ ns.length ≤ 4000 ∧ Q (.bl (decide ns.Nodup)) H
theorem ok_unlike (T : Txt K mg C) {f : Addr} {fd : FuncData} (F : Fun K "are_unlike" "are_unlike" sUnlike f fd) : FnOk P w K mg base CX0 1 f fd ["window"] spUnlike := by
  refine F.ok scUnlike (fun vs H Q E h => ?_) (fun cdv A outer s H vs Q E hr h => ?_)
  · obtain ⟨a, ns, rfl, _⟩ := h
    rfl
  · obtain ⟨a, ns, rfl, ha, hl, q⟩ := h
    refine ⟨_, pss_one (ps_ret (pe_cmpR op_eq (pe_lenSetT (by rfl) T.len (by rfl) T.set (pv 0)) (pe_callB call_len_seq (by rfl) T.len PySem.boot_len (pa_cons (pv 0) pa_nil)) (nomark _))), ?_⟩
    refine ⟨_, rfl, a, ns, rfl, SqT.of ha, hl, fun c c1 c2 => ?_⟩
    refine ⟨_, rfl, a, _, rfl, .inr (SqT.of ha), rfl, ?_⟩
    have e : decide (V.int (c : Int) = V.int ((ns.map V.int).length : Int)) = decide ns.Nodup := by
      rw [Bool.eq_iff_iff, decide_eq_true_iff, decide_eq_true_iff, ← c2, List.length_map, V.int.injEq]
      omega
    rw [e]
    exact q
theorem gd_unlike (T : Txt K mg C) (D : Df K mg "are_unlike" sUnlike) : Gd P w K mg base "are_unlike" 1 ["window"] spUnlike :=
  Gd.mk D (fun _ _ F => ok_unlike T F) fun _ _ _ _ _ _ us hl => match us, hl with | [_], _ => rfl

/-! ### Plain(n, things) -/
abbrev sInit : Stmt := inClass (topS 17) 0
theorem scInit : FnScope ["self", "n", "things"] ["self", "n", "things"] (defScope sInit) := ⟨rfl, rfl, rfl, by decide +kernel, rfl, by decide +kernel, by decide +kernel⟩
def spInit (C : Addr) : Sp := fun vs H Q _ => ∃ (p dx a : Addr) (n : Int) (ns : List Int), vs = [.ref p, .int n, .ref a] ∧ H p = some (.ins C dx []) ∧ RowOk n ns ∧ TupI H a ns ∧ ∀ H', RowAt C H' p n a ns → But p H H' → Q .non H'
theorem ok_init (T : Txt K mg C) {f : Addr} {fd : FuncData} (F : Fun K "__init__" "Row.__init__" sInit f fd) (GC : Gd P w K mg base "can_be_row" 3 ["n", "things"] spCan) : FnOk P w K mg base CX0 4 f fd ["self", "n", "things"] (spInit C) := by
  refine F.ok scInit (fun vs H Q E h => ?_) (fun cdv A outer s H vs Q E hr h => ?_)
  · obtain ⟨p, dx, a, n, ns, rfl, _⟩ := h
    rfl
  · obtain ⟨p, dx, a, n, ns, rfl, hp, R, ha, q⟩ := h
    refine ⟨_, pss_cons (ps_if (pt_not (pt_val (pe_g GC hr (by rfl) (pa_cons (pv 1) (pa_cons (pv 2) pa_nil))))) (pss_one ps_never) pss_nil)
      (pss_cons (ps_fld (pv 0) (pv 1) rfl) (pss_one (ps_fld (pv 0) (pv 2) rfl))), ?_⟩
    refine ⟨_, rfl, _, rfl, n, a, ns, rfl, R, ha, fun H1 s1 => ⟨_, rfl, iteF ?_⟩⟩
    have hp1 := s1 _ _ hp
    have ha1 := s1 _ _ ha
    have nap : a ≠ p := ne_of ha1 hp1 (by intro z; cases z)
    refine ⟨_, rfl, _, rfl, p, C, dx, [], rfl, hp1, T.cl, T.nN, (by show 0 < 1000; decide), ?_⟩
    refine ⟨_, rfl, _, rfl, p, C, dx, _, rfl, upd_same, T.cl, T.nT, (by show 1 < 1000; decide), ?_⟩
    refine q _ ⟨⟨dx, upd_same⟩, ?_⟩ fun c o hc e => ?_
    · show _ = _
      rw [upd_ne nap, upd_ne nap]
      exact ha1
    · rw [upd_ne hc, upd_ne hc]
      exact s1 _ _ e
/-- how Plain stands behind the top -/
structure PlainOk (P : Program) (w : World) (K : PySem.W.Frag) (mg : Str → Option Value) (base : Heap) (C : Addr) : Prop where
  ex : ∃ f fd, Mk K C f ∧ FnOk P w K mg base CX0 4 f fd ["self", "n", "things"] (spInit C) ∧ Binds K fd ["self", "n", "things"] []
theorem plain_ok (T : Txt K mg C) (GC : Gd P w K mg base "can_be_row" 3 ["n", "things"] spCan) (h : ∃ f fd, Mk K C f ∧ Fun K "__init__" "Row.__init__" sInit f fd) : PlainOk P w K mg base C := by
  obtain ⟨f, fd, M, F⟩ := h
  exact ⟨f, fd, M, ok_init T F GC, F.binds fun _ _ _ _ _ _ us hl => match us, hl with | [_, _, _], _ => rfl⟩
theorem pe_plain {X : Cx} {j : Nat} {p pos : Pos} {e : Expr} {es : List Expr} {t : TA} (G : PlainOk X.prog X.w X.K X.mg X.base C) (T : Txt X.K X.mg C) (hr : Room j X.A) (hg : Gl X "Plain") (ha : PA X (e :: es) t) (hj : 5 ≤ j := by decide)
    (he : starEach (e :: es) X.env = (false, eval e X.env) :: starEach es X.env := by rfl) (hpl : (backTo pos (starEach es X.env)).any (·.1) = false := by rfl) :
    PE X (.Call (.Name "Plain" p) (e :: es) [] pos) (tMake C (spInit C) [] E0 t) := by
  obtain ⟨f, fd, M, F, b⟩ := G.ex
  exact pe_make M F (hr.mono hj) hg T.gC b .nil pass0 ha (by decide) he hpl
/-- the reading of Plain(n, things) -/
theorem mk_plain {H : Hp} {Q : VK} {E : XK} {n : Int} {a : Addr} {ns : List Int} (R : RowOk n ns) (ha : TupI H a ns) (k : ∀ p H', Same H H' → H p = none → RowAt C H' p n a ns → Q (.ref p) H') :
    ∀ x dx, H x = none → H dx = none → dx ≠ x → spInit C [.ref x, .int n, .ref a] (upd (upd H dx (.own x)) x (.ins C dx [])) (fun v H2 => v = .non ∧ Q (.ref x) H2) E := by
  intro x dx nx ndx nex
  have s0 : Same H (upd (upd H dx (.own x)) x (.ins C dx [])) := fun b o e => by
    rw [upd_ne (ne_of_none e nx), upd_ne (ne_of_none e ndx)]
    exact e
  exact ⟨x, dx, a, n, ns, rfl, upd_same, R, s0 _ _ ha, fun H' r b => ⟨rfl, k x H' (fun c o e => b c o (ne_of_none e nx) (s0 c o e)) nx r⟩⟩

/-! ### wide, goes_round, how_many, window_at -/
abbrev sWide : Stmt := inClass (topS 17) 2
theorem scWide : FnScope ["self", "k"] ["self", "k"] (defScope sWide) := ⟨rfl, rfl, rfl, by decide +kernel, rfl, by decide +kernel, by decide +kernel⟩
def spWide : Sp := fun vs H Q _ => ∃ (p : Addr) (k : Int), vs = [.ref p, .int k] ∧ Q (.int k) H
theorem ok_wide {f : Addr} {fd : FuncData} (F : Fun K "wide" "Row.wide" sWide f fd) : FnOk P w K mg base CX0 1 f fd ["self", "k"] spWide := by
  refine F.ok scWide (fun vs H Q E h => ?_) (fun cdv A outer s H vs Q E hr h => ?_)
  · obtain ⟨p, k, rfl, _⟩ := h
    rfl
  · obtain ⟨p, k, rfl, q⟩ := h
    refine ⟨_, pss_cons (ps_if (pt_cmpR op_isN (pv 1) pe_non (nomark _)) (pss_one ps_never) pss_nil) (pss_one (ps_ret (pv 1))), ?_⟩
    refine ⟨_, rfl, rfl, _, rfl, ite2 (fun h => ?_) (fun _ => ?_)⟩
    · exact nomatch (show V.int k = V.non from of_decide_eq_true h)
    · exact ⟨_, rfl, q⟩
theorem gm_wide (D : Mf K C "wide" "Row.wide" sWide) : Gm P w K mg base C "wide" 1 ["self", "k"] spWide :=
  Gm.mk D (fun _ _ F => ok_wide F) fun _ _ _ _ _ _ us hl => match us, hl with | [_, _], _ => rfl
abbrev sRound : Stmt := inClass (topS 18) 1
theorem scRound : FnScope ["self"] ["self"] (defScope sRound) := ⟨rfl, rfl, rfl, by decide +kernel, rfl, by decide +kernel, by decide +kernel⟩
def spRound : Sp := fun vs H Q _ => ∃ p : Addr, vs = [.ref p] ∧ Q (.bl false) H
theorem ok_round {f : Addr} {fd : FuncData} (F : Fun K "goes_round" "Plain.goes_round" sRound f fd) : FnOk P w K mg base CX0 1 f fd ["self"] spRound := by
  refine F.ok scRound (fun vs H Q E h => ?_) (fun cdv A outer s H vs Q E hr h => ?_)
  · obtain ⟨p, rfl, _⟩ := h
    rfl
  · obtain ⟨p, rfl, q⟩ := h
    exact ⟨_, pss_one (ps_ret pe_bl), q⟩
theorem gm_round (D : Mf K C "goes_round" "Plain.goes_round" sRound) : Gm P w K mg base C "goes_round" 1 ["self"] spRound :=
  Gm.mk D (fun _ _ F => ok_round F) fun _ _ _ _ _ _ us hl => match us, hl with | [_], _ => rfl
abbrev sMany : Stmt := inClass (topS 17) 4
theorem scMany : FnScope ["self", "k"] ["self", "k"] (defScope sMany) := ⟨rfl, rfl, rfl, by decide +kernel, rfl, by decide +kernel, by decide +kernel⟩
def spMany (C : Addr) : Sp := fun vs H Q _ => ∃ (p a : Addr) (n : Int) (ns : List Int) (k : Nat), vs = [.ref p, .int k] ∧ RowAt C H p n a ns ∧ Q (.int ((ns.length + 1 - k : Nat) : Int)) H
theorem ok_many (T : Txt K mg C) {f : Addr} {fd : FuncData} (F : Fun K "how_many" "Row.how_many" sMany f fd) (GR : Gm P w K mg base C "goes_round" 1 ["self"] spRound) : FnOk P w K mg base CX0 2 f fd ["self", "k"] (spMany C) := by
  refine F.ok scMany (fun vs H Q E h => ?_) (fun cdv A outer s H vs Q E hr h => ?_)
  · obtain ⟨p, a, n, ns, k, rfl, _⟩ := h
    rfl
  · obtain ⟨p, a, n, ns, k, rfl, ⟨⟨dx, hp⟩, ha⟩, q⟩ := h
    refine ⟨_, pss_cons (ps_if (pt_val (pe_gm0 GR hr (pv 0) T.cl)) (pss_one ps_never) pss_nil)
      (pss_one (ps_ret (pe_callB (call_max2 rfl) (by rfl) T.max (by decide +kernel) (pa_cons pe_int (pa_cons (pe_op op_add (pe_op op_sub (pe_callB call_len_seq (by rfl) T.len PySem.boot_len (pa_cons (pe_fld (pv 0) rfl) pa_nil)) (pv 1)) pe_int) pa_nil))))), ?_⟩
    refine ⟨_, rfl, p, dx, _, rfl, hp, rowF_no n a (by decide +kernel) (by decide +kernel), p, rfl, _, rfl, iteF ?_⟩
    refine ⟨_, rfl, p, C, dx, _, _, rfl, hp, T.cl, T.nT, rowF_things n a, a, _, rfl, .inr (SqT.of ha), _, rfl, _, _, rfl, rfl, _, _, rfl, rfl, _, _, rfl, ?_⟩
    have e : (if (((ns.map V.int).length : Int) - (k : Int) + 1) > 0 then (((ns.map V.int).length : Int) - (k : Int) + 1) else 0) = ((ns.length + 1 - k : Nat) : Int) := by
      rw [List.length_map]
      split <;> omega
    rw [e]
    exact q
theorem gm_many (T : Txt K mg C) (D : Mf K C "how_many" "Row.how_many" sMany) (GR : Gm P w K mg base C "goes_round" 1 ["self"] spRound) : Gm P w K mg base C "how_many" 2 ["self", "k"] (spMany C) :=
  Gm.mk D (fun _ _ F => ok_many T F GR) fun _ _ _ _ _ _ us hl => match us, hl with | [_, _], _ => rfl
abbrev sWinAt : Stmt := inClass (topS 17) 5
theorem scWinAt : FnScope ["self", "place", "k", "many"] ["self", "place", "k"] (defScope sWinAt) := ⟨rfl, rfl, rfl, by decide +kernel, rfl, by decide +kernel, by decide +kernel⟩
def spWinAt (C : Addr) : Sp := fun vs H Q _ => ∃ (p a : Addr) (n : Int) (ns : List Int) (i k : Nat), vs = [.ref p, .int i, .int k] ∧ RowAt C H p n a ns ∧ i + k ≤ ns.length ∧ ∀ H' t, Same H H' → TupI H' t ((ns.drop i).take k) → Q (.ref t) H'
theorem ok_winAt (T : Txt K mg C) {f : Addr} {fd : FuncData} (F : Fun K "window_at" "Row.window_at" sWinAt f fd) : FnOk P w K mg base CX0 1 f fd ["self", "place", "k"] (spWinAt C) := by
  refine F.ok scWinAt (fun vs H Q E h => ?_) (fun cdv A outer s H vs Q E hr h => ?_)
  · obtain ⟨p, a, n, ns, i, k, rfl, _⟩ := h
    rfl
  · obtain ⟨p, a, n, ns, i, k, rfl, ⟨⟨dx, hp⟩, ha⟩, hik, q⟩ := h
    have nd := scWinAt.nd
    refine ⟨_, pss_cons (ps_set (i := 3) nd rfl (.inr rfl) (pe_callB call_len_seq (by rfl) T.len PySem.boot_len (pa_cons (pe_fld (pv 0) rfl) pa_nil)))
      (pss_cons (ps_if (pt_cmpR op_le (pe_op op_add (pv 1) (pv 2)) (pv 3) (nomark _)) (pss_one (ps_ret (pe_slice sl_tupA (pe_fld (pv 0) rfl) (po_some (pv 1)) (po_some (pe_op op_add (pv 1) (pv 2)))))) pss_nil)
      (pss_one ps_never)), ?_⟩
    refine ⟨_, rfl, p, C, dx, _, _, rfl, hp, T.cl, T.nT, rowF_things n a, a, _, rfl, .inr (SqT.of ha), ?_⟩
    refine ⟨_, rfl, _, rfl, _, _, rfl, rfl, _, rfl, _, _, rfl, rfl, _, rfl, ite2 (fun _ => ?_) (fun h => ?_)⟩
    · refine ⟨_, rfl, p, C, dx, _, _, rfl, hp, T.cl, T.nT, rowF_things n a, _, rfl, _, rfl, _, rfl, _, rfl, _, _, rfl, rfl, _, rfl, ?_⟩
      refine slA ha (cut_mid (i := i) (j := i + k) rfl (by omega)) fun t H' s1 ht => ?_
      rw [show i + k - i = k by omega] at ht
      exact q H' t s1 ht
    · refine absurd (decide_eq_true ?_) h
      rw [List.length_map]
      omega
theorem gm_winAt (T : Txt K mg C) (D : Mf K C "window_at" "Row.window_at" sWinAt) : Gm P w K mg base C "window_at" 1 ["self", "place", "k"] (spWinAt C) :=
  Gm.mk D (fun _ _ F => ok_winAt T F) fun _ _ _ _ _ _ us hl => match us, hl with | [_, _, _], _ => rfl
end
end K80
/-! windows and stands of a plain row; rows inside rows, laid over one another. -/
namespace K80
open PySem PySem.Spec PyProof.Rows L2
theorem tup_keep {P : Hp → Prop} : True := trivial
section
variable {P : Program} {w : World} {K : PySem.W.Frag} {mg : Str → Option Value} {base : Heap} {C : Addr}
theorem Gm.mkD {m qual : Str} {st : Stmt} {k : Nat} {ps : List Str} {sp : Sp} (D : MfD K C m qual st [.non]) (ok : ∀ f fd, FunD K m qual (defArgs st) (defBody st) (defScope st) [.non] [] f fd → FnOk P w K mg base CX0 k f fd ps sp)
    (h : ∀ (T : Addr) (kV doc pm : Value) (an : Option Addr) (cdv ct : Value) (us its : List Value), us.length = ps.length → its.length = 1 →
      ∃ k, bindArgs (PySem.W.fnOf m qual (defArgs st) (defBody st) (defScope st) (.ref T) kV doc pm an cdv ct) ⟨us, []⟩ = seqItems? (.ref T) >>= k ∧ k (some its.toArray) = pure (ps.zip (us ++ its.drop 1))) : Gm P w K mg base C m k ps sp := by
  obtain ⟨f, fd, M, F⟩ := D
  obtain ⟨ds, hd, b⟩ := F.binds1 (ps := ps) ps.length 1 (by simp) (by simp) (fun T kV doc pm an cdv ct us its h1 h2 => h T kV doc pm an cdv ct us its h1 (by simpa using h2))
  cases hd
  exact ⟨f, fd, M, ok f fd F, b⟩

/-! ### windows -/
abbrev sWindows : Stmt := inClass (topS 17) 6
abbrev NWindows : List Str := ["self", "k", "size", "place"]
theorem scWindows : FnScope NWindows ["self", "k"] (defScope sWindows) := ⟨rfl, rfl, rfl, by decide +kernel, rfl, by decide +kernel, by decide +kernel⟩
def spWindows (C : Addr) : Sp := fun vs H Q _ => ∃ (p a : Addr) (n : Int) (ns : List Int) (k : Nat), vs = [.ref p, .int k] ∧ RowAt C H p n a ns ∧ ns.length ≤ 100000 ∧ 1 ≤ k ∧
  ∀ H' t as, Same H H' → H t = none → H' t = some (.tup (as.map V.ref)) → TupsAt H' as (wins k ns) → Q (.ref t) H'
theorem ok_windows (T : Txt K mg C) {f : Addr} {fd : FuncData} (F : FunD K "windows" "Row.windows" (defArgs sWindows) (defBody sWindows) (defScope sWindows) [.non] [] f fd) (GW : Gm P w K mg base C "wide" 1 ["self", "k"] spWide)
    (GM : Gm P w K mg base C "how_many" 2 ["self", "k"] (spMany C)) (GA : Gm P w K mg base C "window_at" 1 ["self", "place", "k"] (spWinAt C)) : FnOk P w K mg base CX0 3 f fd ["self", "k"] (spWindows C) := by
  refine F.ok scWindows (fun vs H Q E h => ?_) (fun cdv A outer s H vs Q E hr h => ?_)
  · obtain ⟨p, a, n, ns, k, rfl, _⟩ := h
    rfl
  · obtain ⟨p, a, n, ns, k, rfl, R, hl, hk, q⟩ := h
    have nd := scWindows.nd
    obtain ⟨⟨dx, hp⟩, ha⟩ := id R
    refine ⟨_, PSs.nox (pss_cons (ps_set (i := 2) nd rfl (.inr rfl) (pe_gm GW hr (pv 0) T.cl (pa_cons (pv 1) pa_nil)))
      (pss_one (ps_ret (pe_callTy call_tuple_of (by rfl) T.tuple (by decide +kernel) (pa_cons (pe_lc (own := [("place", 3)]) (g := gName 3) (tt := tYes) rfl nd (pi_range1 (by rfl) T.range (pa_cons (pe_gm GM hr (pv 0) T.cl (pa_cons (pv 2) pa_nil)) pa_nil))
        (blkOk_by (N := NWindows) (sc := defScope sWindows) (by decide +kernel)) (fun _ _ _ _ _ => pg_name (i := 3) nd rfl (Or.inl rfl)) (fun _ _ _ _ _ => pts_nil)
        (fun _ _ _ _ _ => pe_gm GA hr (pv 0) T.cl (pa_cons (pv 3) (pa_cons (pv 2) pa_nil)))) pa_nil))))), ?_⟩
    refine ⟨_, rfl, p, dx, _, rfl, hp, rowF_no n a (by decide +kernel) (by decide +kernel), _, rfl, p, (k : Int), rfl, ?_⟩
    refine ⟨_, rfl, p, dx, _, rfl, hp, rowF_no n a (by decide +kernel) (by decide +kernel), _, rfl, p, a, n, ns, k, rfl, R, _, rfl, by omega, by omega, ?_⟩
    rw [Int.toNat_natCast]
    intro D hD
    refine lc_range (lo := 0) (n := ns.length + 1 - k) (fun i H' => ∃ as : List Addr, H' D = some (.lst (as.map V.ref)) ∧ Same H H' ∧ TupsAt H' as ((wins k ns).take i))
      ⟨[], upd_same, same_upd hD, TupsAt.nil _⟩ (fun i H1 hi hP => ?_) (fun H1 hP => ?_)
    · obtain ⟨as, h1, s1, t1⟩ := hP
      refine ⟨rfl, ?_⟩
      have hp1 := s1 _ _ hp
      refine ⟨_, rfl, p, dx, _, rfl, hp1, rowF_no n a (by decide +kernel) (by decide +kernel), _, rfl, _, rfl, p, a, n, ns, i, k, by rw [Int.zero_add]; rfl, R.same s1, by omega, fun H2 t s2 ht => ?_⟩
      have hD2 := s2 _ _ h1
      have la : as.length = i := by rw [t1.1, List.length_take, wins_length]; omega
      have kt : Tk H2 (upd H2 D (.lst (as.map V.ref ++ [V.ref t]))) := tk_but hD2 (fun _ z => nomatch z) (But.upd _)
      refine ⟨_, hD2, line_lt (by rw [List.length_map]; omega), as ++ [t], by rw [upd_same, List.map_append]; rfl, But.same hD (s1.trans s2) (But.upd _), ?_⟩
      rw [List.take_add_one, wins_get hi]
      exact ((t1.same s2).snoc ht).tk kt
    · obtain ⟨as, h1, s1, t1⟩ := hP
      rw [List.take_of_length_le (by rw [wins_length]; exact Nat.le_refl _)] at t1
      refine ⟨D, _, rfl, .inl ⟨SqL.of h1, fun t nt => ?_⟩⟩
      exact q _ t as (s1.trans (same_upd nt)) (s1.free nt) upd_same (t1.same (same_upd nt))
theorem gm_windows (T : Txt K mg C) (D : MfD K C "windows" "Row.windows" sWindows [.non]) (GW : Gm P w K mg base C "wide" 1 ["self", "k"] spWide)
    (GM : Gm P w K mg base C "how_many" 2 ["self", "k"] (spMany C)) (GA : Gm P w K mg base C "window_at" 1 ["self", "place", "k"] (spWinAt C)) : Gm P w K mg base C "windows" 3 ["self", "k"] (spWindows C) :=
  Gm.mkD D (fun _ _ F => ok_windows T F GW GM GA) fun _ _ _ _ _ _ _ us its h1 h2 => match us, its, h1, h2 with | [_, _], [_], _, _ => ⟨_, rfl, rfl⟩

/-! ### stands -/
abbrev sStands : Stmt := inClass (topS 17) 7
theorem scStands : FnScope ["self", "k", "found", "known", "place", "window"] ["self", "k"] (defScope sStands) := ⟨rfl, rfl, rfl, by decide +kernel, rfl, by decide +kernel, by decide +kernel⟩
def spStands (C : Addr) : Sp := fun vs H Q _ => ∃ (p a : Addr) (n : Int) (ns : List Int) (k : Nat), vs = [.ref p, .int k] ∧ RowAt C H p n a ns ∧ ns.length ≤ 100000 ∧ 1 ≤ k ∧ k ≤ 26 ∧
  ∀ H' t ps, Same H H' → H t = none → H' t = some (.tup (ps.map V.ref)) → PairsAt H' ps (SS (wins k ns)) → Q (.ref t) H'
theorem trues_put {us : List (List Int)} {w : List Int} (h : ¬ w ∈ us) : putK (trues us) (key w) (.bl true) = trues (us ++ [w]) := by
  rw [putK_new]
  · unfold trues
    rw [List.map_append]
    rfl
  · have := trues_get us w
    rw [decide_eq_false h] at this
    cases e : valV (trues us) (key w) with
    | none => rfl
    | some v => rw [e] at this; cases this
theorem ok_stands (T : Txt K mg C) {f : Addr} {fd : FuncData} (F : FunD K "stands" "Row.stands" (defArgs sStands) (defBody sStands) (defScope sStands) [.non] [] f fd) (GW : Gm P w K mg base C "windows" 3 ["self", "k"] (spWindows C))
    (GU : Gd P w K mg base "are_unlike" 1 ["window"] spUnlike) : FnOk P w K mg base CX0 4 f fd ["self", "k"] (spStands C) := by
  refine F.ok scStands (fun vs H Q E h => ?_) (fun cdv A outer s H vs Q E hr h => ?_)
  · obtain ⟨p, a, n, ns, k, rfl, _⟩ := h
    rfl
  · obtain ⟨p, a, n, ns, k, rfl, R, hl, hk, hk2, q⟩ := h
    have nd := scStands.nd
    have hu := hu_of hr
    obtain ⟨⟨dx, hp⟩, ha⟩ := id R
    refine ⟨_, PSs.nox (pss_cons (ps_set (i := 2) nd rfl (.inl rfl) (pe_lst pa_nil))
      (pss_cons (ps_set (i := 3) nd rfl (.inl rfl) pe_dnewT)
      (pss_cons (ps_for PassesOwn.never rfl (pi_enumT (by rfl) T.enumerate (pa_cons (pe_gm GW hr (pv 0) T.cl (pa_cons (pv 1) pa_nil)) pa_nil)) (pg_tup rfl (pgs_cons (pg_name (i := 4) nd rfl (.inl rfl)) (pgs_cons (pg_name (i := 5) nd rfl (.inl rfl)) pgs_nil)))
        (pss_one (ps_if (PW.pt (pw_and (pt_cmp (pc_dnotin hu (pv 5) (pv 3))) (pw_and1 (pt_val (pe_g GU hr (by rfl) (pa_cons (pv 5) pa_nil))))))
          (pss_cons (ps_dput hu (pv 3) (pv 5) pe_bl rfl)
          (pss_one (ps_expr (pe_bm PySem.F.plainAttrs_list PySem.F.slot_list_append PySem.F.type_list_append mt_append (pv 2) (pa_cons (pe_tup (pa_cons (pv 5) (pa_cons (pv 4) pa_nil))) pa_nil))))) pss_nil)))
      (pss_one (ps_ret (pe_callTy call_tuple_of (by rfl) T.tuple (by decide +kernel) (pa_cons (pv 2) pa_nil))))))), ?_⟩
    refine ⟨Nat.zero_le _, fun r nr => ?_⟩
    intro d hd
    have s1 := (same_upd (o := .lst []) nr)
    have ndH : H d = none := s1.free hd
    have s2 := s1.trans (same_upd (o := .dT []) hd)
    have nrd : r ≠ d := ne_of_none upd_same hd
    have hr2 : (upd (upd H r (.lst [])) d (.dT [])) r = some (.lst []) := by rw [upd_ne nrd, upd_same]
    have hd2 : (upd (upd H r (.lst [])) d (.dT [])) d = some (.dT []) := upd_same
    generalize upd (upd H r (.lst [])) d (.dT []) = H2 at s2 hr2 hd2
    refine ⟨_, rfl, p, dx, _, rfl, s2 _ _ hp, rowF_no n a (by decide +kernel) (by decide +kernel), _, rfl, p, a, n, ns, k, rfl, R.same s2, hl, hk, fun H3 t as s3 nt ht hT => ?_⟩
    refine ⟨t, _, rfl, SqT.of ht, ?_⟩
    have lW : (as.map V.ref).length = (wins k ns).length := by rw [List.length_map, hT.1]
    refine for_it walk_enumT (fun i σ H' => ∃ (fs : List Addr) (y4 y5 : Option V), σ = [some (.ref p), some (.int k), some (.ref r), some (.ref d), y4, y5] ∧ Same H H' ∧ Tk H3 H' ∧ H' r = some (.lst (fs.map V.ref)) ∧ PairsAt H' fs (SS ((wins k ns).take i)) ∧ H' d = some (.dT (trues (SS ((wins k ns).take i)))))
      ⟨[], none, none, rfl, s2.trans s3, fun _ _ e => e, s3 _ _ hr2, PairsAt.nil _, s3 _ _ hd2⟩ (fun i σ H' _ hP => let ⟨_, _, _, _, _, tk, _⟩ := hP; SqT.of (tk _ _ ht)) (fun i x σ H4 H5 hi hP hY => ?_) (fun σ H4 hP => ?_)
    · obtain ⟨fs, y4, y5, rfl, s4, tk4, hr4, hf4, hd4⟩ := hP
      obtain ⟨T1, x1, x2, rfl, nT1, rfl, e1, e2⟩ := hY
      cases e1
      obtain ⟨b, hb, rfl⟩ := map_ref_get e2
      obtain ⟨wd, hw, hbw⟩ := hT.get hb
      have s5 := same_upd (o := .tup [V.int ((i : Nat) : Int), V.ref b]) nT1
      have hb5 : TupI _ b wd := s5 _ _ (tk4 _ _ hbw)
      have hr5 := s5 _ _ hr4
      have hd5 := s5 _ _ hd4
      have hf5 := hf4.same s5
      have tk5 := tk4.trans (tk_same s5)
      have s45 := s4.trans s5
      have hT5 : (upd H4 T1 (.tup [V.int ((i : Nat) : Int), V.ref b])) T1 = some (.tup [V.int ((i : Nat) : Int), V.ref b]) := upd_same
      generalize upd H4 T1 (.tup [V.int ((i : Nat) : Int), V.ref b]) = H5 at s5 hb5 hr5 hd5 hf5 tk5 s45 hT5
      have hwW : wd ∈ wins k ns := List.mem_of_getElem? hw
      have lw : wd.length = k := wins_len hk hwW
      rw [SS_take hw]
      refine ⟨T1, _, rfl, SqT.of hT5, rfl, _, [V.ref b], rfl, _, [], rfl, rfl, ?_⟩
      refine ⟨_, rfl, _, rfl, d, _, rfl, DGet.t (k := key wd) hd5 (by rw [key_tup]; exact hb5), _, rfl, ?_⟩
      rw [trues_get]
      by_cases hin : wd ∈ SS ((wins k ns).take i)
      · rw [decide_eq_true hin]
        have e : stp (SS ((wins k ns).take i)) wd = SS ((wins k ns).take i) := by unfold stp; rw [if_pos (.inl hin)]
        rw [e]
        refine iteF ?_
        exact ⟨fs, _, _, rfl, s45, tk5, hr5, hf5, hd5⟩
      · rw [decide_eq_false hin]
        refine iteT ?_
        refine ⟨_, rfl, b, wd, rfl, hb5, by omega, _, rfl, ite2 (fun h => ?_) (fun h => ?_)⟩
        · have hn : wd.Nodup := of_decide_eq_true h
          have e : stp (SS ((wins k ns).take i)) wd = SS ((wins k ns).take i) ++ [wd] := by
            unfold stp
            rw [if_neg]
            rintro (z | z)
            · exact hin z
            · exact z hn
          rw [e]
          have lS : (SS ((wins k ns).take i)).length ≤ 1000000 - 1 := by
            have a1 := SS_length ((wins k ns).take i)
            rw [List.length_take, wins_length] at a1
            omega
          refine ⟨_, rfl, _, rfl, d, _, rfl, DPut.t (k := key wd) hd5 (by rw [key_tup]; exact hb5) (line_lt (by rw [trues_len]; omega)), ?_⟩
          rw [trues_put hin]
          have b6 : But d H5 (upd H5 d (.dT (trues (SS ((wins k ns).take i) ++ [wd])))) := But.upd _
          have tk6 := tk_but hd5 (fun _ z => nomatch z) b6
          have hd6 : (upd H5 d (.dT (trues (SS ((wins k ns).take i) ++ [wd])))) d = some (.dT (trues (SS ((wins k ns).take i) ++ [wd]))) := upd_same
          have hr6 := b6 _ _ (ne_of hr5 hd5 (by intro z; cases z)) hr5
          have s6 := But.same ndH s45 b6
          generalize upd H5 d (.dT (trues (SS ((wins k ns).take i) ++ [wd]))) = H6 at b6 tk6 hd6 hr6 s6
          refine ⟨_, rfl, .inl ⟨rfl, _, SqL.of hr6⟩, _, rfl, _, rfl, line_le (by show 2 ≤ 1000000; decide), fun g ng => ?_⟩
          have s7 := same_upd (o := .tup [V.ref b, V.int ((i : Nat) : Int)]) ng
          have hr7 := s7 _ _ hr6
          have lf : fs.length = (SS ((wins k ns).take i)).length := hf4.1
          refine ⟨r, _, _, rfl, rfl, hr7, line_lt (by rw [List.length_map]; omega), ?_⟩
          have tk7 := tk6.trans (tk_same s7)
          have hg7 : (upd H6 g (.tup [V.ref b, V.int ((i : Nat) : Int)])) g = some (.tup [V.ref b, V.int ((i : Nat) : Int)]) := upd_same
          have b8 : But r (upd H6 g (.tup [V.ref b, V.int ((i : Nat) : Int)])) (upd (upd H6 g (.tup [V.ref b, V.int ((i : Nat) : Int)])) r (.lst (fs.map V.ref ++ [V.ref g]))) := But.upd _
          have tk8 := tk_but hr7 (fun _ z => nomatch z) b8
          refine ⟨fs ++ [g], _, _, rfl, But.same nr (s6.trans s7) b8, (tk5.trans tk7).trans tk8, by rw [upd_same, List.map_append]; rfl, ?_, ?_⟩
          · exact ((hf5.tk (tk7)).snoc hg7 (tk7 _ _ hb5)).tk tk8
          · exact b8 _ _ (ne_of (s7 _ _ hd6) hr7 (by intro z; cases z)) (s7 _ _ hd6)
        · have e : stp (SS ((wins k ns).take i)) wd = SS ((wins k ns).take i) := by
            unfold stp
            rw [if_pos (.inr fun z => h (decide_eq_true z))]
          rw [e]
          exact ⟨fs, _, _, rfl, s45, tk5, hr5, hf5, hd5⟩
    · obtain ⟨fs, y4, y5, rfl, s4, tk4, hr4, hf4, hd4⟩ := hP
      rw [lW, List.take_length] at hf4
      refine ⟨_, rfl, r, _, rfl, .inl ⟨SqL.of hr4, fun g ng => ?_⟩⟩
      exact q _ g fs (s4.trans (same_upd ng)) (s4.free ng) upd_same (hf4.same (same_upd ng))
theorem gm_stands (T : Txt K mg C) (D : MfD K C "stands" "Row.stands" sStands [.non]) (GW : Gm P w K mg base C "windows" 3 ["self", "k"] (spWindows C))
    (GU : Gd P w K mg base "are_unlike" 1 ["window"] spUnlike) : Gm P w K mg base C "stands" 4 ["self", "k"] (spStands C) :=
  Gm.mkD D (fun _ _ F => ok_stands T F GW GU) fun _ _ _ _ _ _ _ us its h1 h2 => match us, its, h1, h2 with | [_, _], [_], _, _ => ⟨_, rfl, rfl⟩
end
end K80
/-! Rows inside rows, laid over one another. -/
namespace K80
open PySem PySem.Spec PyProof.Rows L2
section
variable {P : Program} {w : World} {K : PySem.W.Frag} {mg : Str → Option Value} {base : Heap} {C : Addr}
/-! ### inside_at -/
def natI (l : List Nat) : List Int := l.map Int.ofNat
theorem natI_nil (l : List Nat) : natI l = [] ↔ l = [] := List.map_eq_nil_iff
abbrev sInside : Stmt := topS 23
abbrev NInside : List Str := ["one", "other", "many", "far", "place"]
theorem scInside : FnScope NInside ["one", "other"] (defScope sInside) := ⟨rfl, rfl, rfl, by decide +kernel, rfl, by decide +kernel, by decide +kernel⟩
def spInside (C : Addr) : Sp := fun vs H Q _ => ∃ (p q a b : Addr) (n m : Int) (xs ys : List Int), vs = [.ref p, .ref q] ∧ RowAt C H p n a xs ∧ RowAt C H q m b ys ∧ xs.length ≤ 100000 ∧ ys.length ≤ 100000 ∧
  ∀ H' t, Same H H' → TupI H' t (natI (inside xs ys)) → Q (.ref t) H'
def insTo (xs ys : List Int) (i : Nat) : List Nat := (List.range i).filter fun p => decide ((xs.drop p).take ys.length = ys)
theorem insTo_succ (xs ys : List Int) (i : Nat) : insTo xs ys (i + 1) = insTo xs ys i ++ if (xs.drop i).take ys.length = ys then [i] else [] := by
  unfold insTo
  rw [List.range_succ, List.filter_append, List.filter_cons, List.filter_nil]
  by_cases h : (xs.drop i).take ys.length = ys
  · rw [if_pos h, decide_eq_true h, if_pos rfl]
  · rw [if_neg h, decide_eq_false h, if_neg Bool.false_ne_true]
theorem ok_inside (T : Txt K mg C) {f : Addr} {fd : FuncData} (F : Fun K "inside_at" "inside_at" sInside f fd) : FnOk P w K mg base CX0 1 f fd ["one", "other"] (spInside C) := by
  refine F.ok scInside (fun vs H Q E h => ?_) (fun cdv A outer s H vs Q E hr h => ?_)
  · obtain ⟨p, q', a, b, n, m, xs, ys, rfl, _⟩ := h
    rfl
  · obtain ⟨p, q', a, b, n, m, xs, ys, rfl, ⟨⟨dx, hp⟩, ha⟩, ⟨⟨dy, hq⟩, hb⟩, lx, ly, q⟩ := h
    have nd := scInside.nd
    refine ⟨_, pss_cons (ps_set (i := 2) nd rfl (.inr rfl) (pe_callB call_len_seq (by rfl) T.len PySem.boot_len (pa_cons (pe_fld (pv 1) rfl) pa_nil)))
      (pss_cons (ps_set (i := 3) nd rfl (.inl rfl) (pe_op op_add (pe_op op_sub (pe_callB call_len_seq (by rfl) T.len PySem.boot_len (pa_cons (pe_fld (pv 0) rfl) pa_nil)) (pv 2)) pe_int))
      (pss_one (ps_ret (pe_callTy call_tuple_of (by rfl) T.tuple (by decide +kernel) (pa_cons (pe_lc (own := [("place", 4)]) (g := gName 4) (tt := tTest (tOp (rEqD K) (tSl (rSlA K) (tFld K (tVar 0) "things") (tPart (tVar 4)) (tPart (tOp (rI0 fun i j => .int (i + j)) (tVar 4) (tVar 2)))) (tFld K (tVar 1) "things"))) rfl nd (pi_range1 (by rfl) T.range (pa_cons (pv 3) pa_nil)) (blkOk_by (N := NInside) (sc := defScope sInside) (by decide +kernel)) (fun _ _ _ _ _ => pg_name (i := 4) nd rfl (Or.inl rfl))
        (fun _ _ _ _ _ => pts_one (pt_cmpR (op_eqD hr.units) (pe_slice sl_tupA (pe_fld (pv 0) rfl) (po_some (pv 4)) (po_some (pe_op op_add (pv 4) (pv 2)))) (pe_fld (pv 1) rfl) (nomark _))) (fun _ _ _ _ _ => pv 4)) pa_nil))))), ?_⟩
    refine ⟨_, rfl, q', C, dy, _, _, rfl, hq, T.cl, T.nT, rowF_things m b, b, _, rfl, .inr (SqT.of hb), ?_⟩
    refine ⟨_, rfl, p, C, dx, _, _, rfl, hp, T.cl, T.nT, rowF_things n a, a, _, rfl, .inr (SqT.of ha), _, rfl, _, _, rfl, rfl, _, _, rfl, rfl, ?_⟩
    have ej : (((xs.map V.int).length : Int) - ((ys.map V.int).length : Int) + 1).toNat = xs.length + 1 - ys.length := by
      rw [List.length_map, List.length_map]
      omega
    refine ⟨_, rfl, _, rfl, by rw [List.length_map, List.length_map]; omega, by rw [List.length_map, List.length_map]; omega, ?_⟩
    rw [ej]
    intro D hD
    refine lc_range (lo := 0) (n := xs.length + 1 - ys.length) (fun i H' => H' D = some (.lst ((natI (insTo xs ys i)).map V.int)) ∧ Same H H') ⟨upd_same, same_upd hD⟩ (fun i H1 hi hP => ?_) (fun H1 hP => ?_)
    · obtain ⟨h1, s1⟩ := hP
      refine ⟨rfl, ?_⟩
      refine ⟨_, rfl, p, C, dx, _, _, rfl, s1 _ _ hp, T.cl, T.nT, rowF_things n a, _, rfl, _, rfl, _, rfl, _, rfl, _, _, rfl, rfl, _, rfl, ?_⟩
      refine slA (s1 _ _ ha) (cut_mid (i := i) (j := i + ys.length) (by omega) (by rw [List.length_map]; omega)) fun t H2 s2 ht => ?_
      rw [show i + ys.length - i = ys.length by omega] at ht
      have s12 := s1.trans s2
      have hD2 := s2 _ _ h1
      refine ⟨_, rfl, q', C, dy, _, _, rfl, s12 _ _ hq, T.cl, T.nT, rowF_things m b, ?_⟩
      refine eqD_tup (SqT.of ht) (SqT.of (s12 _ _ hb)) ⟨_, rfl, ite2 (fun h => ?_) (fun h => ?_)⟩
      · have e := of_decide_eq_true h
        refine ⟨_, rfl, _, hD2, line_lt ?_, ?_, But.same hD s12 (But.upd _)⟩
        · rw [List.length_map, natI, List.length_map]
          have : (insTo xs ys i).length ≤ i := by
            unfold insTo
            have := List.length_filter_le (fun p => decide ((xs.drop p).take ys.length = ys)) (List.range i)
            rwa [List.length_range] at this
          omega
        · rw [upd_same, insTo_succ, if_pos e, show natI (insTo xs ys i ++ [i]) = natI (insTo xs ys i) ++ [(i : Int)] from List.map_append, List.map_append, Int.zero_add]
          rfl
      · have e : ¬ (xs.drop i).take ys.length = ys := fun z => h (decide_eq_true z)
        refine ⟨?_, s12⟩
        rw [insTo_succ, if_neg e, List.append_nil]
        exact hD2
    · obtain ⟨h1, s1⟩ := hP
      refine ⟨D, _, rfl, .inl ⟨SqL.of h1, fun t nt => ?_⟩⟩
      exact q _ t (s1.trans (same_upd nt)) upd_same
theorem gd_inside (T : Txt K mg C) (D : Df K mg "inside_at" sInside) : Gd P w K mg base "inside_at" 1 ["one", "other"] (spInside C) :=
  Gd.mk D (fun _ _ F => ok_inside T F) fun _ _ _ _ _ _ us hl => match us, hl with | [_, _], _ => rfl

/-! ### common_end -/
abbrev sEnd : Stmt := topS 24
theorem scEnd : FnScope ["one", "other", "many"] ["one", "other"] (defScope sEnd) := ⟨rfl, rfl, rfl, by decide +kernel, rfl, by decide +kernel, by decide +kernel⟩
def spEnd (C : Addr) : Sp := fun vs H Q _ => ∃ (p q a b : Addr) (n m : Int) (xs ys : List Int), vs = [.ref p, .ref q] ∧ RowAt C H p n a xs ∧ RowAt C H q m b ys ∧ xs.length ≤ 100000 ∧ ys.length ≤ 100000 ∧
  ∀ (t : Nat) H', Same H H' → t ≤ xs.length → t ≤ ys.length → xs.drop (xs.length - t) = ys.take t → Q (.int t) H'
theorem ok_end (T : Txt K mg C) {f : Addr} {fd : FuncData} (F : Fun K "common_end" "common_end" sEnd f fd) : FnOk P w K mg base CX0 1 f fd ["one", "other"] (spEnd C) := by
  refine F.ok scEnd (fun vs H Q E h => ?_) (fun cdv A outer s H vs Q E hr h => ?_)
  · obtain ⟨p, q', a, b, n, m, xs, ys, rfl, _⟩ := h
    rfl
  · obtain ⟨p, q', a, b, n, m, xs, ys, rfl, ⟨⟨dx, hp⟩, ha⟩, ⟨⟨dy, hq⟩, hb⟩, lx, ly, q⟩ := h
    have nd := scEnd.nd
    refine ⟨_, pss_cons (ps_for PassesOwn.never rfl (pi_range3 (by rfl) T.range (pa_cons (pe_callB (call_min2 rfl) (by rfl) T.min (by decide +kernel)
          (pa_cons (pe_callB call_len_seq (by rfl) T.len PySem.boot_len (pa_cons (pe_fld (pv 0) rfl) pa_nil)) (pa_cons (pe_callB call_len_seq (by rfl) T.len PySem.boot_len (pa_cons (pe_fld (pv 1) rfl) pa_nil)) pa_nil))) (pa_cons pe_int (pa_cons (pe_un un_neg pe_int) pa_nil))))
        (pg_name (i := 2) nd rfl (.inl rfl))
        (pss_one (ps_if (pt_cmpR (op_eqD hr.units) (pe_slice sl_tupA (pe_fld (pv 0) rfl) (po_some (pe_op op_sub (pe_callB call_len_seq (by rfl) T.len PySem.boot_len (pa_cons (pe_fld (pv 0) rfl) pa_nil)) (pv 2))) po_no) (pe_slice sl_tupA (pe_fld (pv 1) rfl) po_no (po_some (pv 2))) (nomark _))
          (pss_one (ps_ret (pv 2))) pss_nil)))
      (pss_one (ps_ret pe_int)), ?_⟩
    have lxm : (xs.map V.int).length = xs.length := List.length_map _
    have lym : (ys.map V.int).length = ys.length := List.length_map _
    obtain ⟨mm, hm, m1, m2⟩ : ∃ m : Nat, (if ((ys.map V.int).length : Int) < ((xs.map V.int).length : Int) then ((ys.map V.int).length : Int) else ((xs.map V.int).length : Int)) = (m : Int) ∧ m ≤ xs.length ∧ m ≤ ys.length := by
      rw [lxm, lym]
      split
      · exact ⟨ys.length, rfl, by omega, Nat.le_refl _⟩
      · exact ⟨xs.length, rfl, Nat.le_refl _, by omega⟩
    refine ⟨_, rfl, p, C, dx, _, _, rfl, hp, T.cl, T.nT, rowF_things n a, a, _, rfl, .inr (SqT.of ha), _, rfl, q', C, dy, _, _, rfl, hq, T.cl, T.nT, rowF_things m b, b, _, rfl, .inr (SqT.of hb), _, _, rfl, 1, rfl, _, 0, -1, mm, rfl, ?_, ?_⟩
    · rw [hm]
      have := RgC.neg (i := (mm : Int)) (j := 0) (by omega) (by omega) (by omega) (by omega)
      rw [show ((mm : Int) - 0).toNat = mm by omega] at this
      exact this
    · rw [hm]
      refine for_rangeC (lo := (mm : Int)) (c := -1) (n := mm) (fun i σ H' => ∃ y2, σ = [some (.ref p), some (.ref q'), y2] ∧ Same H H') ⟨_, rfl, Same.refl H⟩ (fun i σ H1 hi hP => ?_) (fun σ H1 hP => ?_)
      · obtain ⟨y2, rfl, s1⟩ := hP
        have em : ((mm : Int) + (i : Int) * -1) = ((mm - i : Nat) : Int) := by omega
        rw [em]
        have e0 : ((xs.map V.int).length : Int) - ((mm - i : Nat) : Int) = ((xs.length - (mm - i) : Nat) : Int) := by rw [lxm]; omega
        refine ⟨_, rfl, p, C, dx, _, _, rfl, s1 _ _ hp, T.cl, T.nT, rowF_things n a, _, rfl, p, C, dx, _, _, rfl, s1 _ _ hp, T.cl, T.nT, rowF_things n a, a, _, rfl, .inr (SqT.of (s1 _ _ ha)), _, rfl, _, _, rfl, rfl, _, rfl, ?_⟩
        refine slA (s1 _ _ ha) (cut_from e0) fun t1 H2 s2 ht1 => ?_
        have s12 := s1.trans s2
        refine ⟨_, rfl, q', C, dy, _, _, rfl, s12 _ _ hq, T.cl, T.nT, rowF_things m b, _, rfl, _, rfl, ?_⟩
        refine slA (s12 _ _ hb) (cut_to (j := mm - i) rfl) fun t2 H3 s3 ht2 => ?_
        have s13 := s12.trans s3
        refine eqD_tup (SqT.of (s3 _ _ ht1)) (SqT.of ht2) ⟨_, rfl, ite2 (fun h => ?_) (fun h => ?_)⟩
        · refine ⟨_, rfl, ?_⟩
          exact q (mm - i) H3 s13 (by omega) (by omega) (of_decide_eq_true h)
        · exact ⟨_, rfl, s13⟩
      · obtain ⟨y2, rfl, s1⟩ := hP
        exact q 0 H1 s1 (by omega) (by omega) (by rw [Nat.sub_zero, List.drop_length, List.take_zero])
theorem gd_end (T : Txt K mg C) (D : Df K mg "common_end" sEnd) : Gd P w K mg base "common_end" 1 ["one", "other"] (spEnd C) :=
  Gd.mk D (fun _ _ F => ok_end T F) fun _ _ _ _ _ _ us hl => match us, hl with | [_, _], _ => rfl

/-! ### laid_over -/
abbrev sLaidO : Stmt := topS 25
theorem scLaidO : FnScope ["one", "other"] ["one", "other"] (defScope sLaidO) := ⟨rfl, rfl, rfl, by decide +kernel, rfl, by decide +kernel, by decide +kernel⟩
def spLaidO (C : Addr) : Sp := fun vs H Q _ => ∃ (p q a b : Addr) (n : Int) (xs ys : List Int), vs = [.ref p, .ref q] ∧ RowAt C H p n a xs ∧ RowAt C H q n b ys ∧ RowOk n xs ∧ RowOk n ys ∧ xs.length + ys.length ≤ 100000 ∧
  ∀ H' r c zs, Same H H' → RowAt C H' r n c zs → RowOk n zs → InsideOf zs xs → InsideOf zs ys → zs.length ≤ xs.length + ys.length → Q (.ref r) H'
theorem ok_laidO (T : Txt K mg C) {f : Addr} {fd : FuncData} (F : Fun K "laid_over" "laid_over" sLaidO f fd) (GI : Gd P w K mg base "inside_at" 1 ["one", "other"] (spInside C)) (GE : Gd P w K mg base "common_end" 1 ["one", "other"] (spEnd C)) (GP : PlainOk P w K mg base C) :
    FnOk P w K mg base CX0 6 f fd ["one", "other"] (spLaidO C) := by
  refine F.ok scLaidO (fun vs H Q E h => ?_) (fun cdv A outer s H vs Q E hr h => ?_)
  · obtain ⟨p, q', a, b, n, xs, ys, rfl, _⟩ := h
    rfl
  · obtain ⟨p, q', a, b, n, xs, ys, rfl, R1, R2, O1, O2, lz, q⟩ := h
    obtain ⟨⟨dx, hp⟩, ha⟩ := id R1
    obtain ⟨⟨dy, hq⟩, hb⟩ := id R2
    refine ⟨_, pss_cons (ps_if (pt_cmpR (op_neD hr.units) (pe_g GI hr (by rfl) (pa_cons (pv 0) (pa_cons (pv 1) pa_nil))) (pe_tup pa_nil) (nomark _)) (pss_one (ps_ret (pe_plain GP T hr (by rfl) (pa_cons (pe_fld (pv 0) rfl) (pa_cons (pe_fld (pv 0) rfl) pa_nil))))) pss_nil)
      (pss_cons (ps_if (pt_cmpR (op_neD hr.units) (pe_g GI hr (by rfl) (pa_cons (pv 1) (pa_cons (pv 0) pa_nil))) (pe_tup pa_nil) (nomark _)) (pss_one (ps_ret (pe_plain GP T hr (by rfl) (pa_cons (pe_fld (pv 0) rfl) (pa_cons (pe_fld (pv 1) rfl) pa_nil))))) pss_nil)
      (pss_one (ps_ret (pe_plain GP T hr (by rfl) (pa_cons (pe_fld (pv 0) rfl) (pa_cons (pe_op op_catA (pe_fld (pv 0) rfl) (pe_slice sl_tupA (pe_fld (pv 1) rfl) (po_some (pe_g GE hr (by rfl) (pa_cons (pv 0) (pa_cons (pv 1) pa_nil)))) po_no)) pa_nil)))))), ?_⟩
    have l1 := O1.len2
    have l2 := O2.len2
    refine ⟨_, rfl, _, rfl, p, q', a, b, n, n, xs, ys, rfl, R1, R2, l1, l2, fun H1 t1 s1 ht1 => ?_⟩
    refine ⟨Nat.zero_le _, fun e1 ne1 => ?_⟩
    have s2 := s1.trans (same_upd (o := .tup []) ne1)
    refine neD_tup (xs := natI (inside xs ys)) (ys := []) (SqT.of (same_upd ne1 _ _ ht1)) (SqT.of upd_same) ⟨_, rfl, ite2 (fun h => ?_) (fun h => ?_)⟩
    · -- the other is inside
      have hin : InsideOf xs ys := (inside_iff xs ys).mp fun z => by
        rw [decide_eq_true ((natI_nil _).mpr z)] at h
        cases h
      refine ⟨_, rfl, p, C, dx, _, _, rfl, s2 _ _ hp, T.cl, T.nN, rowF_n n a, _, rfl, p, C, dx, _, _, rfl, s2 _ _ hp, T.cl, T.nT, rowF_things n a, ?_⟩
      exact mk_plain O1 (s2 _ _ ha) fun r H3 s3 nr R3 => q H3 r a xs (s2.trans s3) R3 O1 (InsideOf.self xs) hin (by omega)
    · refine ⟨_, rfl, _, rfl, q', p, b, a, n, n, ys, xs, rfl, R2.same s2, R1.same s2, l2, l1, fun H3 t3 s3 ht3 => ?_⟩
      refine ⟨Nat.zero_le _, fun e2 ne2 => ?_⟩
      have s4 := (s2.trans s3).trans (same_upd (o := .tup []) ne2)
      refine neD_tup (xs := natI (inside ys xs)) (ys := []) (SqT.of (same_upd ne2 _ _ ht3)) (SqT.of upd_same) ⟨_, rfl, ite2 (fun h => ?_) (fun h => ?_)⟩
      · have hin : InsideOf ys xs := (inside_iff ys xs).mp fun z => by
          rw [decide_eq_true ((natI_nil _).mpr z)] at h
          cases h
        refine ⟨_, rfl, p, C, dx, _, _, rfl, s4 _ _ hp, T.cl, T.nN, rowF_n n a, _, rfl, q', C, dy, _, _, rfl, s4 _ _ hq, T.cl, T.nT, rowF_things n b, ?_⟩
        exact mk_plain O2 (s4 _ _ hb) fun r H5 s5 nr R5 => q H5 r b ys (s4.trans s5) R5 O2 hin (InsideOf.self ys) (by omega)
      · refine ⟨_, rfl, p, C, dx, _, _, rfl, s4 _ _ hp, T.cl, T.nN, rowF_n n a, _, rfl, p, C, dx, _, _, rfl, s4 _ _ hp, T.cl, T.nT, rowF_things n a, ?_⟩
        refine ⟨_, rfl, q', C, dy, _, _, rfl, s4 _ _ hq, T.cl, T.nT, rowF_things n b, _, rfl, _, rfl, p, q', a, b, n, n, xs, ys, rfl, R1.same s4, R2.same s4, l1, l2, fun t H5 s5 tx ty te => ⟨_, rfl, ?_⟩⟩
        have s45 := s4.trans s5
        refine slA (s45 _ _ hb) (cut_from (i := t) rfl) fun t6 H6 s6 ht6 => ?_
        have s46 := s45.trans s6
        refine catA (s46 _ _ ha) ht6 (by rw [List.length_drop]; omega) fun t7 H7 s7 ht7 => ?_
        have O3 : RowOk n (xs ++ ys.drop t) := ⟨O1.n1, O1.n2, by have := O1.len1; rw [List.length_append]; omega, by rw [List.length_append, List.length_drop]; omega, fun x hx => by
          rcases List.mem_append.mp hx with z | z
          · exact O1.all x z
          · exact O2.all x (List.mem_of_mem_drop z)⟩
        exact mk_plain O3 ht7 fun r H8 s8 nr R8 => q H8 r t7 _ ((s46.trans s7).trans s8) R8 O3 (InsideOf.left xs _) (InsideOf.laid tx ty te) (by rw [List.length_append, List.length_drop]; omega)
theorem gd_laidO (T : Txt K mg C) (D : Df K mg "laid_over" sLaidO) (GI : Gd P w K mg base "inside_at" 1 ["one", "other"] (spInside C)) (GE : Gd P w K mg base "common_end" 1 ["one", "other"] (spEnd C)) (GP : PlainOk P w K mg base C) :
    Gd P w K mg base "laid_over" 6 ["one", "other"] (spLaidO C) :=
  Gd.mk D (fun _ _ F => ok_laidO T F GI GE GP) fun _ _ _ _ _ _ us hl => match us, hl with | [_, _], _ => rfl
end
end K80
/-! The shortest stretch. -/
namespace K80
open PySem PySem.Spec PyProof.Rows L2
/-! ### a dict of counts -/
def cdict (S : List (List Int)) (c : List Int → Int) : List (List Key × V) := S.map fun w => (key w, .int (c w))
theorem cdict_len (S : List (List Int)) (c : List Int → Int) : (cdict S c).length = S.length := by unfold cdict; rw [List.length_map]
theorem cdict_congr {S : List (List Int)} {c c' : List Int → Int} (h : ∀ w ∈ S, c w = c' w) : cdict S c = cdict S c' := by
  unfold cdict
  exact List.map_congr_left fun w hw => by rw [h w hw]
theorem cdict_in : ∀ {S : List (List Int)} {c : List Int → Int} {w : List Int}, w ∈ S → valV (cdict S c) (key w) = some (.int (c w))
  | s :: S, c, w, h => by
    by_cases e : s = w
    · subst e
      show valV ((key s, V.int (c s)) :: cdict S c) (key s) = _
      rw [valV_pos rfl]
    · have h' : w ∈ S := by
        rcases List.mem_cons.mp h with z | z
        · exact absurd z.symm e
        · exact z
      show valV ((key s, V.int (c s)) :: cdict S c) (key w) = _
      rw [valV_neg (fun z => e (key_inj z))]
      exact cdict_in h'
theorem cdict_out : ∀ {S : List (List Int)} {c : List Int → Int} {w : List Int}, ¬ w ∈ S → valV (cdict S c) (key w) = none
  | [], c, w, _ => rfl
  | s :: S, c, w, h => by
    show valV ((key s, V.int (c s)) :: cdict S c) (key w) = _
    rw [valV_neg (fun z => h (by rw [key_inj z]; exact List.mem_cons_self))]
    exact cdict_out fun z => h (List.mem_cons_of_mem _ z)
theorem cdict_put {S : List (List Int)} {c : List Int → Int} {w : List Int} {v : Int} (h : w ∈ S) : putK (cdict S c) (key w) (.int v) = cdict S fun x => if x = w then v else c x := by
  unfold putK
  rw [valV_any, cdict_in h]
  rw [if_pos (show (some (V.int (c w))).isSome = true from rfl)]
  unfold cdict
  rw [List.map_map]
  refine List.map_congr_left fun x _ => ?_
  show (if key x = key w then (key x, V.int v) else (key x, V.int (c x))) = (key x, V.int (if x = w then v else c x))
  by_cases e : x = w
  · rw [if_pos e, if_pos (by rw [e])]
  · rw [if_neg e, if_neg fun z => e (key_inj z)]
theorem cdict_new {S : List (List Int)} {c : List Int → Int} {w : List Int} (h : ¬ w ∈ S) : putK (cdict S c) (key w) (.int (c w)) = cdict (S ++ [w]) c := by
  rw [putK_new _ (cdict_out h)]
  unfold cdict
  rw [List.map_append]
  rfl

section
variable {P : Program} {w : World} {K : PySem.W.Frag} {mg : Str → Option Value} {base : Heap} {C : Addr}
abbrev sLeast : Stmt := topS 20
theorem scLeast : FnScope ["row", "k", "windows", "had", "choice", "place", "lacking", "first", "best", "last", "window"] ["row", "k"] (defScope sLeast) := ⟨rfl, rfl, rfl, by decide +kernel, rfl, by decide +kernel, by decide +kernel⟩
def spLeast (C : Addr) : Sp := fun vs H Q _ => ∃ (p a : Addr) (n : Int) (ns : List Int) (k : Nat), vs = [.ref p, .int k] ∧ RowAt C H p n a ns ∧ ns.length ≤ 100000 ∧ 1 ≤ k ∧ k ≤ 26 ∧
  ∀ H' t (bf bm : Nat), Same H H' → H' t = some (.tup [.int bf, .int bm]) → LSpec k (wins k ns) bf bm → Q (.ref t) H'
set_option maxHeartbeats 16000000 in
theorem ok_least (T : Txt K mg C) {f : Addr} {fd : FuncData} (F : Fun K "least_stretch" "least_stretch" sLeast f fd) (GW : Gm P w K mg base C "windows" 3 ["self", "k"] (spWindows C)) (GS : Gm P w K mg base C "stands" 4 ["self", "k"] (spStands C)) :
    FnOk P w K mg base CX0 5 f fd ["row", "k"] (spLeast C) := by
  refine F.ok scLeast (fun vs H Q E h => ?_) (fun cdv A outer s H vs Q E hr h => ?_)
  · obtain ⟨p, a, n, ns, k, rfl, _⟩ := h
    rfl
  · obtain ⟨p, a, n, ns, k, rfl, R, hl, hk, hk2, q⟩ := h
    have nd := scLeast.nd
    have hu := hu_of hr
    obtain ⟨⟨dx, hp⟩, ha⟩ := id R
    refine ⟨_, pss_cons (ps_set (i := 2) nd rfl (.inl rfl) (pe_gm GW hr (pv 0) T.cl (pa_cons (pv 1) pa_nil)))
      (pss_cons (ps_set (i := 3) nd rfl (.inl rfl) pe_dnewT)
      (pss_cons (ps_for PassesOwn.never rfl (pi_tup (pe_gm GS hr (pv 0) T.cl (pa_cons (pv 1) pa_nil))) (pg_tup rfl (pgs_cons (pg_name (i := 4) nd rfl (.inl rfl)) (pgs_cons (pg_name (i := 5) nd rfl (.inl rfl)) pgs_nil))) (pss_one (ps_dput hu (pv 3) (pv 4) pe_int rfl)))
      (pss_cons (ps_set (i := 6) nd rfl (.inl rfl) (pe_callB call_len_dT (by rfl) T.len PySem.boot_len (pa_cons (pv 3) pa_nil)))
      (pss_cons (ps_set (i := 7) nd rfl (.inl rfl) pe_int)
      (pss_cons (ps_set (i := 8) nd rfl (.inl rfl) (pe_tup (pa_cons pe_int (pa_cons pe_int pa_nil))))
      (pss_cons (ps_for PassesOwn.never rfl (pi_enumT (by rfl) T.enumerate (pa_cons (pv 2) pa_nil)) (pg_tup rfl (pgs_cons (pg_name (i := 9) nd rfl (.inl rfl)) (pgs_cons (pg_name (i := 10) nd rfl (.inl rfl)) pgs_nil)))
        (pss_cons (ps_cut (ps_if (pt_cmp (pc_din hu (pv 10) (pv 3)))
          (pss_cons (ps_aug (i := 6) nd rfl (.inl rfl) (pe_callTy call_int1 (by rfl) T.int (by decide +kernel) (pa_cons (pe_cmpR op_eq (pe_dget hu (pv 3) (pv 10) (fun _ _ => rfl)) pe_int (nomark _)) pa_nil)) ip_sub)
          (pss_one (ps_daug hu (pv 3) (pv 10) pe_int in_add (fun _ _ _ => rfl)))) pss_nil))
        (pss_cons (ps_cut (ps_while PassesOwn.never (PW.pt (pw_and (pt_cmpR op_eq (pv 6) pe_int (nomark _)) (pw_and (pt_cmpR op_lt (pv 7) (pv 9) (nomark _)) (pw_and1 (pt_cmpR op_gt (pe_dget2 hu (pv 3) (pe_ix ix_tup (pv 2) (pv 7) (fun _ _ => rfl)) pe_int ⟨rfl, rfl, rfl, rfl⟩) pe_int (nomark _))))))
          (pss_cons (ps_if (pt_cmp (pc_din hu (pe_ix ix_tup (pv 2) (pv 7) (fun _ _ => rfl)) (pv 3))) (pss_one (ps_daug hu (pv 3) (pe_ix ix_tup (pv 2) (pv 7) (fun _ _ => rfl)) pe_int in_sub (fun _ _ _ => rfl))) pss_nil)
          (pss_one (ps_aug (i := 7) nd rfl (.inl rfl) pe_int ip_add)))))
        (pss_one (ps_if (PW.pt (pw_and (pt_cmpR op_eq (pv 6) pe_int (nomark _)) (pw_and (pt_cmpR op_gt (pe_callB call_len_dT (by rfl) T.len PySem.boot_len (pa_cons (pv 3) pa_nil)) pe_int (nomark _))
            (pw_and1 (PW.pt (pw_or (pt_cmpR op_eq (pe_ix ix_tup (pv 8) pe_int (fun _ _ => rfl)) pe_int (nomark _)) (pw_or1 (pt_cmpR op_lt (pe_op op_add (pe_op op_sub (pv 9) (pv 7)) (pv 1)) (pe_ix ix_tup (pv 8) pe_int (fun _ _ => rfl)) (nomark _)))))))))
          (pss_one (ps_set (i := 8) nd rfl (.inl rfl) (pe_tup (pa_cons (pv 7) (pa_cons (pe_op op_add (pe_op op_sub (pv 9) (pv 7)) (pv 1)) pa_nil))))) pss_nil)))))
      (pss_one (ps_ret (pv 8))))))))), ?_⟩
    -- windows
    refine ⟨_, rfl, p, dx, _, rfl, hp, rowF_no n a (by decide +kernel) (by decide +kernel), _, rfl, p, a, n, ns, k, rfl, R, hl, hk, fun H1 t as s1 nt ht hT => ?_⟩
    obtain ⟨W, hW⟩ : ∃ W, W = wins k ns := ⟨_, rfl⟩
    rw [← hW] at hT q
    have lW : W.length ≤ 100000 := by rw [hW, wins_length]; omega
    have lasW : as.length = W.length := hT.1
    -- had
    intro d hd
    have nd0 : H d = none := s1.free hd
    have s2 := s1.trans (same_upd (o := .dT []) hd)
    have ht2 := same_upd (o := .dT []) hd _ _ ht
    have hT2 := hT.same (same_upd (o := .dT []) hd)
    have hd2 : (upd H1 d (.dT [])) d = some (.dT []) := upd_same
    generalize upd H1 d (.dT []) = H2 at s2 ht2 hT2 hd2
    refine ⟨_, rfl, p, dx, _, rfl, s2 _ _ hp, rowF_no n a (by decide +kernel) (by decide +kernel), _, rfl, p, a, n, ns, k, rfl, R.same s2, hl, hk, hk2, fun H3 u ps s3 nu hu3 hP => ?_⟩
    rw [← hW] at hP
    obtain ⟨S, hS⟩ : ∃ S, S = SS W := ⟨_, rfl⟩
    rw [← hS] at hP
    have Snd : S.Nodup := by rw [hS]; exact SS_nodup W
    have lS : S.length ≤ 100000 := by rw [hS]; exact Nat.le_trans (SS_length W) lW
    refine ⟨u, rfl, ⟨_, SqT.of hu3⟩, ?_⟩
    refine for_tup (K := K) (a := u) (xs := ps.map V.ref) (fun i σ H' => ∃ y4 y5, σ = [some (.ref p), some (.int k), some (.ref t), some (.ref d), y4, y5, none, none, none, none, none] ∧ Same H H' ∧ Tk H3 H' ∧ H' d = some (.dT (cdict (S.take i) fun _ => 0)))
      ⟨none, none, rfl, s2.trans s3, fun _ _ e => e, s3 _ _ hd2⟩ (fun i σ H' _ hP => let ⟨_, _, _, _, tk, _⟩ := hP; SqT.of (tk _ _ hu3)) (fun i x σ H4 hx hQ => ?_) (fun σ H4 hQ => ?_)
    · obtain ⟨y4, y5, rfl, s4, tk4, hd4⟩ := hQ
      obtain ⟨pj, hpj, rfl⟩ := map_ref_get hx
      have hi : i < S.length := by rw [← hP.1]; exact (List.getElem?_eq_some_iff.mp hpj).1
      have hSi : S[i]? = some S[i] := List.getElem?_eq_getElem hi
      obtain ⟨b, v, e1, e2⟩ := hP.2 i pj _ hpj hSi
      have hb := tk4 _ _ e2
      refine ⟨pj, _, rfl, SqT.of (tk4 _ _ e1), rfl, _, [v], rfl, _, [], rfl, rfl, ?_⟩
      refine ⟨_, rfl, _, rfl, d, _, rfl, DPut.t (k := key S[i]) hd4 (by rw [key_tup]; exact hb) (line_lt (by rw [cdict_len, List.length_take]; omega)), ?_⟩
      have nin : ¬ S[i] ∈ S.take i := fun z => by
        obtain ⟨j, hj⟩ := List.mem_iff_getElem?.mp z
        rw [List.getElem?_take] at hj
        split at hj
        · have := (List.getElem?_inj (i := j) (j := i) (by omega) Snd).mp (hj.trans hSi.symm)
          omega
        · cases hj
      have en : putK (cdict (S.take i) fun _ => 0) (key S[i]) (V.int 0) = cdict (S.take (i + 1)) fun _ => 0 := by
        rw [List.take_add_one, hSi]
        exact cdict_new (c := fun _ => 0) nin
      have b5 : But d H4 (upd H4 d (.dT (putK (cdict (S.take i) fun _ => 0) (key S[i]) (V.int 0)))) := But.upd _
      exact ⟨_, _, rfl, But.same nd0 s4 b5, tk4.trans (tk_but hd4 (fun _ z => nomatch z) b5), by rw [upd_same, en]⟩
    · obtain ⟨y4, y5, rfl, s4, tk4, hd4⟩ := hQ
      rw [List.length_map, hP.1, List.take_length] at hd4
      have ht4 := tk4 _ _ (s3 _ _ ht2)
      have hT4 := (hT2.same s3).tk tk4
      -- lacking, first, best
      refine ⟨_, rfl, d, _, rfl, hd4, ?_⟩
      refine ⟨line_le (by show 2 ≤ 1000000; decide), fun bt nbt => ?_⟩
      have s5 := same_upd (o := .tup [V.int 0, V.int 0]) nbt
      have hd5 := s5 _ _ hd4
      have ht5 := s5 _ _ ht4
      have hT5 := hT4.same s5
      have s45 := s4.trans s5
      have hbt : (upd H4 bt (.tup [V.int 0, V.int 0])) bt = some (.tup [V.int ((0 : Nat) : Int), V.int ((0 : Nat) : Int)]) := upd_same
      generalize upd H4 bt (.tup [V.int 0, V.int 0]) = H5 at s5 hd5 ht5 hT5 s45 hbt
      refine ⟨_, rfl, t, _, rfl, SqT.of ht5, ?_⟩
      have lasm : (as.map V.ref).length = W.length := by rw [List.length_map]; exact lasW
      have e0 : cdict S (fun _ => 0) = cdict S fun x => (cnt W 0 0 x : Int) := cdict_congr fun x _ => by simp [cnt, seg]
      refine for_it walk_enumT (fun l σ H' => ∃ (f bf bm : Nat) (bt : Addr) (y9 y10 : Option V), σ = [some (.ref p), some (.int k), some (.ref t), some (.ref d), y4, y5, some (.int (lackN S W f l)), some (.int f), some (.ref bt), y9, y10] ∧
          Same H H' ∧ Tk H5 H' ∧ H' d = some (.dT (cdict S fun x => (cnt W f l x : Int))) ∧ H' bt = some (.tup [.int bf, .int bm]) ∧ Best S W k l bf bm ∧ (f = 0 ∨ (f < l ∧ covers S W f l)))
        ⟨0, 0, 0, bt, none, none, by rw [lack_start, cdict_len]; rfl, s45, fun _ _ e => e, by rw [← e0]; exact hd5, hbt, best_start S W k, .inl rfl⟩
        (fun i σ H' _ hP => let ⟨_, _, _, _, _, _, _, _, tk, _⟩ := hP; SqT.of (tk _ _ ht5)) (fun l x σ H6 H7 hl hQ hY => ?_) (fun σ H6 hQ => ?_)
      · obtain ⟨f, bf, bm, bt, y9, y10, rfl, s6, tk6, hd6, hb6, B, hf⟩ := hQ
        obtain ⟨T1, x1, x2, rfl, nT1, rfl, e1, e2⟩ := hY
        cases e1
        obtain ⟨b, hb, rfl⟩ := map_ref_get e2
        obtain ⟨wd, hw, hbw⟩ := hT5.get hb
        rw [lasm] at hl
        have hfl : f ≤ l := by omega
        have s7 := same_upd (o := .tup [V.int ((l : Nat) : Int), V.ref b]) nT1
        have hT7 : (upd H6 T1 (.tup [V.int ((l : Nat) : Int), V.ref b])) T1 = some (.tup [V.int ((l : Nat) : Int), V.ref b]) := upd_same
        have tk7 := tk6.trans (tk_same s7)
        have s67 := s6.trans s7
        have hd7 := s7 _ _ hd6
        have hb7 := s7 _ _ hb6
        generalize upd H6 T1 (.tup [V.int ((l : Nat) : Int), V.ref b]) = H7 at s7 hT7 tk7 s67 hd7 hb7
        refine ⟨T1, _, rfl, SqT.of hT7, rfl, _, [V.ref b], rfl, _, [], rfl, rfl, ?_⟩
        have key_b : H7 b = some (.tup ((key wd).map kV)) := by rw [key_tup]; exact tk7 _ _ hbw
        -- the window comes
        refine ⟨fun σ' H' => σ' = [some (.ref p), some (.int k), some (.ref t), some (.ref d), y4, y5, some (.int (lackN S W f (l + 1))), some (.int f), some (.ref bt), some (.int ((l : Nat) : Int)), some (.ref b)] ∧
          Same H H' ∧ Tk H7 H' ∧ H' d = some (.dT (cdict S fun x => (cnt W f (l + 1) x : Int))), ?_, ?_⟩
        · by_cases hin : wd ∈ S
          · refine ⟨_, rfl, _, rfl, d, _, rfl, DGet.t (k := key wd) hd7 key_b, _, rfl, ?_⟩
            rw [cdict_in hin]
            refine iteT ?_
            have g7 : DGet H7 d (.ref b) (some (.int (cnt W f l wd : Int))) := by rw [← cdict_in (c := fun x => (cnt W f l x : Int)) hin]; exact DGet.t (k := key wd) hd7 key_b
            refine ⟨_, rfl, _, rfl, _, rfl, d, _, rfl, g7, rfl, .inr ⟨_, rfl, _, _, rfl, rfl, ?_⟩⟩
            have el : (lackN S W f l : Int) - (if decide (V.int (cnt W f l wd : Int) = V.int 0) = true then 1 else 0) = (lackN S W f (l + 1) : Int) := by
              by_cases hz : cnt W f l wd = 0
              · rw [if_pos (decide_eq_true (by rw [hz]; rfl))]
                have := lack_add Snd hfl hw hin hz
                omega
              · rw [if_neg fun z => hz (by have := V.int.inj (of_decide_eq_true z); omega)]
                rw [lack_keep hfl hw fun _ => hz]
                omega
            refine ⟨_, rfl, _, rfl, d, _, rfl, g7, _, _, rfl, rfl, _, DPut.t (k := key wd) hd7 key_b (line_lt (by rw [cdict_len]; omega)), ?_⟩
            have ep : putK (cdict S fun x => (cnt W f l x : Int)) (key wd) (V.int ((cnt W f l wd : Int) + 1)) = cdict S fun x => (cnt W f (l + 1) x : Int) := by
              rw [cdict_put hin]
              refine cdict_congr fun x _ => ?_
              rw [cnt_succ hfl hw]
              split
              · rename_i e; rw [e]; omega
              · omega
            have b8 : But d H7 (upd H7 d (.dT (putK (cdict S fun x => (cnt W f l x : Int)) (key wd) (V.int ((cnt W f l wd : Int) + 1))))) := But.upd _
            refine ⟨?_, But.same nd0 s67 b8, tk_but hd7 (fun _ z => nomatch z) b8, by rw [upd_same]; exact congrArg (fun z => some (HO.dT z)) ep⟩
            rw [← el]
            rfl
          · refine ⟨_, rfl, _, rfl, d, _, rfl, DGet.t (k := key wd) hd7 key_b, _, rfl, ?_⟩
            rw [cdict_out hin]
            refine iteF ?_
            refine ⟨by rw [lack_keep hfl hw fun z => absurd z hin]; rfl, s67, fun _ _ e => e, ?_⟩
            rw [hd7]
            refine congrArg (fun z => some (HO.dT z)) (cdict_congr fun x hx => ?_)
            rw [cnt_succ hfl hw, if_neg (fun z : x = wd => hin (z ▸ hx)), Nat.add_zero]
        · rintro σ' H8 ⟨rfl, s8, tk8, hd8⟩
          -- the stretch's begin goes on
          refine ⟨fun σ' H' => ∃ g : Nat, σ' = [some (.ref p), some (.int k), some (.ref t), some (.ref d), y4, y5, some (.int (lackN S W g (l + 1))), some (.int g), some (.ref bt), some (.int ((l : Nat) : Int)), some (.ref b)] ∧
            Same H H' ∧ Tk H8 H' ∧ H' d = some (.dT (cdict S fun x => (cnt W g (l + 1) x : Int))) ∧ g ≤ l ∧ ((¬ covers S W g (l + 1) ∧ g = 0) ∨ (covers S W g (l + 1) ∧ ∀ f', f' ≤ l → covers S W f' (l + 1) → f' ≤ g)), ?_, ?_⟩
          · refine ⟨fun mm σ' H' => ∃ g : Nat, mm = l - g ∧ σ' = [some (.ref p), some (.int k), some (.ref t), some (.ref d), y4, y5, some (.int (lackN S W g (l + 1))), some (.int g), some (.ref bt), some (.int ((l : Nat) : Int)), some (.ref b)] ∧
              Same H H' ∧ Tk H8 H' ∧ H' d = some (.dT (cdict S fun x => (cnt W g (l + 1) x : Int))) ∧ g ≤ l ∧ (g = 0 ∨ covers S W g (l + 1)), ⟨_, f, rfl, rfl, s8, fun _ _ e => e, hd8, hfl, hf.imp id fun z => covers_grow z.2⟩, ?_⟩
            rintro mm σ' H9 ⟨g, rfl, rfl, s9, tk9, hd9, hg, hgc⟩
            refine ⟨_, rfl, rfl, _, rfl, ite2 (fun hz => ?_) (fun hz => ?_)⟩
            · have lz : lackN S W g (l + 1) = 0 := by have := V.int.inj (of_decide_eq_true hz); omega
              have cv : covers S W g (l + 1) := lack_zero.mp lz
              refine ⟨_, rfl, _, rfl, _, _, rfl, rfl, _, rfl, ite2 (fun hlt => ?_) (fun hlt => ?_)⟩
              · have hgl : g < l := by have := of_decide_eq_true hlt; omega
                -- windows[first]
                have hgW : g < W.length := by omega
                obtain ⟨c, hc, hcw⟩ := hT5.getW (List.getElem?_eq_getElem hgW)
                have ht9 := tk9 _ _ (tk8 _ _ (tk7 _ _ ht5))
                have hc9 : H9 c = some (.tup ((key W[g]).map kV)) := by rw [key_tup]; exact tk9 _ _ (tk8 _ _ (tk7 _ _ hcw))
                have hgw : W[g]? = some W[g] := List.getElem?_eq_getElem hgW
                have hix : atI (as.map V.ref) ((g : Nat) : Int) = some (.ref c) := atI_nat (by rw [List.getElem?_map, hc]; rfl)
                by_cases hin : W[g] ∈ S
                · refine ⟨_, rfl, d, rfl, .inr ⟨_, .inl hd9⟩, _, rfl, _, rfl, t, _, _, _, rfl, rfl, SqT.of ht9, hix, _, DGet.t (k := key W[g]) hd9 hc9, ?_⟩
                  rw [cdict_in hin]
                  refine ⟨_, _, rfl, rfl, _, rfl, ite2 (fun h2 => ?_) (fun h2 => ?_)⟩
                  · have h1 : 1 < cnt W g (l + 1) W[g] := by have := of_decide_eq_true h2; omega
                    refine ⟨fun σ' H' => ∃ g' : Nat, l - g' < l - g ∧ σ' = [some (.ref p), some (.int k), some (.ref t), some (.ref d), y4, y5, some (.int (lackN S W g' (l + 1))), some (.int g'), some (.ref bt), some (.int ((l : Nat) : Int)), some (.ref b)] ∧
                        Same H H' ∧ Tk H8 H' ∧ H' d = some (.dT (cdict S fun x => (cnt W g' (l + 1) x : Int))) ∧ g' ≤ l ∧ (g' = 0 ∨ covers S W g' (l + 1)), fun σ' H' hN => ?_, ?_⟩
                    · obtain ⟨g', a1, a2⟩ := hN
                      exact ⟨_, a1, g', rfl, a2⟩
                    · have g9 : DGet H9 d (.ref c) (some (.int (cnt W g (l + 1) W[g] : Int))) := by rw [← cdict_in (c := fun x => (cnt W g (l + 1) x : Int)) hin]; exact DGet.t (k := key W[g]) hd9 hc9
                      refine ⟨_, rfl, _, rfl, t, _, _, _, rfl, rfl, SqT.of ht9, hix, _, rfl, d, _, rfl, g9, _, rfl, ?_⟩
                      refine iteT ?_
                      refine ⟨_, rfl, _, rfl, _, rfl, t, _, _, _, rfl, rfl, SqT.of ht9, hix, d, _, rfl, g9, _, _, rfl, rfl, _, DPut.t (k := key W[g]) hd9 hc9 (line_lt (by rw [cdict_len]; omega)), ?_⟩
                      have ep : putK (cdict S fun x => (cnt W g (l + 1) x : Int)) (key W[g]) (V.int ((cnt W g (l + 1) W[g] : Int) - 1)) = cdict S fun x => (cnt W (g + 1) (l + 1) x : Int) := by
                        rw [cdict_put hin]
                        refine cdict_congr fun x _ => ?_
                        rw [cnt_tail (f := g) (by omega) hgw x, cnt_tail (f := g) (by omega) hgw W[g], if_pos rfl]
                        split
                        · rename_i e; rw [e]; omega
                        · omega
                      have b10 : But d H9 (upd H9 d (.dT (putK (cdict S fun x => (cnt W g (l + 1) x : Int)) (key W[g]) (V.int ((cnt W g (l + 1) W[g] : Int) - 1))))) := But.upd _
                      have cv2 : covers S W (g + 1) (l + 1) := covers_shrink (by omega) hgw cv fun _ => h1
                      refine ⟨_, rfl, _, _, rfl, rfl, g + 1, by omega, ?_, But.same nd0 s9 b10, tk9.trans (tk_but hd9 (fun _ z => nomatch z) b10), by rw [upd_same]; exact congrArg (fun z => some (HO.dT z)) ep, by omega, .inr cv2⟩
                      rw [lz, lack_zero.mpr cv2]
                      rfl
                  · have h1 : cnt W g (l + 1) W[g] ≤ 1 := by
                      refine Nat.le_of_not_lt fun z => h2 (decide_eq_true ?_)
                      omega
                    exact ⟨g, rfl, s9, tk9, hd9, hg, .inr ⟨cv, fun f' _ hc' => covers_stop (by omega) hgw hin h1 hc'⟩⟩
                · refine ⟨_, rfl, d, rfl, .inr ⟨_, .inl hd9⟩, _, rfl, _, rfl, t, _, _, _, rfl, rfl, SqT.of ht9, hix, _, DGet.t (k := key W[g]) hd9 hc9, ?_⟩
                  rw [cdict_out hin]
                  refine ⟨_, _, rfl, rfl, _, rfl, ?_⟩
                  refine iteT ?_
                  refine ⟨fun σ' H' => ∃ g' : Nat, l - g' < l - g ∧ σ' = [some (.ref p), some (.int k), some (.ref t), some (.ref d), y4, y5, some (.int (lackN S W g' (l + 1))), some (.int g'), some (.ref bt), some (.int ((l : Nat) : Int)), some (.ref b)] ∧
                      Same H H' ∧ Tk H8 H' ∧ H' d = some (.dT (cdict S fun x => (cnt W g' (l + 1) x : Int))) ∧ g' ≤ l ∧ (g' = 0 ∨ covers S W g' (l + 1)), fun σ' H' hN => ?_, ?_⟩
                  · obtain ⟨g', a1, a2⟩ := hN
                    exact ⟨_, a1, g', rfl, a2⟩
                  · refine ⟨_, rfl, _, rfl, t, _, _, _, rfl, rfl, SqT.of ht9, hix, _, rfl, d, _, rfl, DGet.t (k := key W[g]) hd9 hc9, _, rfl, ?_⟩
                    rw [cdict_out hin]
                    refine iteF ?_
                    have cv2 : covers S W (g + 1) (l + 1) := covers_shrink (by omega) hgw cv fun z => absurd z hin
                    refine ⟨_, rfl, _, _, rfl, rfl, g + 1, by omega, ?_, s9, tk9, ?_, by omega, .inr cv2⟩
                    · rw [lz, lack_zero.mpr cv2]
                      rfl
                    · rw [hd9]
                      refine congrArg (fun z => some (HO.dT z)) (cdict_congr fun x hx => ?_)
                      rw [cnt_tail (f := g) (by omega) hgw x, if_neg (fun z : x = W[g] => hin (z ▸ hx)), Nat.add_zero]
              · have hgl : g = l := by
                  have : ¬ (g : Int) < (l : Int) := fun z => hlt (decide_eq_true z)
                  omega
                exact ⟨g, rfl, s9, tk9, hd9, hg, .inr ⟨cv, fun f' hf' _ => by omega⟩⟩
            · have nz : lackN S W g (l + 1) ≠ 0 := fun z => hz (decide_eq_true (by rw [z]; rfl))
              have ncv : ¬ covers S W g (l + 1) := fun z => nz (lack_zero.mpr z)
              exact ⟨g, rfl, s9, tk9, hd9, hg, .inl ⟨ncv, hgc.resolve_right ncv⟩⟩
          · rintro σ' H9 ⟨g, rfl, s9, tk9, hd9, hg, hcase⟩
            have tk59 := (tk7.trans tk8).trans tk9
            have hb9 := tk9 _ _ (tk8 _ _ hb7)
            have fin : (g = 0 ∨ (g < l + 1 ∧ covers S W g (l + 1))) := hcase.imp (fun z => z.2) fun z => ⟨by omega, z.1⟩
            refine ⟨_, rfl, rfl, _, rfl, ite2 (fun hz => ?_) (fun hz => ?_)⟩
            · have lz : lackN S W g (l + 1) = 0 := by have := V.int.inj (of_decide_eq_true hz); omega
              have cv : covers S W g (l + 1) := lack_zero.mp lz
              have hmax : ∀ f', f' ≤ l → covers S W f' (l + 1) → f' ≤ g := (hcase.resolve_left fun z => z.1 cv).2
              refine ⟨_, rfl, d, _, rfl, hd9, _, _, rfl, rfl, _, rfl, ite2 (fun hl0 => ?_) (fun hl0 => ?_)⟩
              · have hS0 : S ≠ [] := fun z => by
                  have h0 := of_decide_eq_true hl0
                  rw [cdict_len, z] at h0
                  exact absurd h0 (by decide)
                refine ⟨_, rfl, bt, _, _, .int (bm : Int), rfl, rfl, SqT.of hb9, rfl, rfl, _, rfl, ite2 (fun hm0 => ?_) (fun hm0 => ?_)⟩
                · have bm0 : bm = 0 := by have := V.int.inj (of_decide_eq_true hm0); omega
                  refine iteT ?_
                  refine ⟨_, rfl, _, rfl, _, rfl, _, _, rfl, rfl, _, rfl, _, _, rfl, rfl, line_le (by show 2 ≤ 1000000; decide), fun bt2 nb2 => ?_⟩
                  have s10 := same_upd (o := .tup [V.int (g : Int), V.int ((l : Int) - (g : Int) + (k : Int))]) nb2
                  refine ⟨g, g, l - g + k, bt2, _, _, rfl, s9.trans s10, tk59.trans (tk_same s10), s10 _ _ hd9, ?_, best_new B hS0 cv hmax hg (.inl bm0) hk, fin⟩
                  rw [upd_same]
                  show some (HO.tup [V.int (g : Int), V.int ((l : Int) - (g : Int) + (k : Int))]) = _
                  rw [show ((l : Int) - (g : Int) + (k : Int)) = ((l - g + k : Nat) : Int) by omega]
                · have bm0 : bm ≠ 0 := fun z => hm0 (decide_eq_true (by rw [z]; rfl))
                  refine ⟨_, rfl, _, rfl, _, _, rfl, rfl, _, rfl, _, _, rfl, rfl, _, rfl, bt, _, _, .int (bm : Int), rfl, rfl, SqT.of hb9, rfl, _, _, rfl, rfl, _, rfl, ite2 (fun hlt => ?_) (fun hlt => ?_)⟩
                  · have hlt2 : l - g + k < bm := by have := of_decide_eq_true hlt; omega
                    refine ⟨_, rfl, _, rfl, _, rfl, _, _, rfl, rfl, _, rfl, _, _, rfl, rfl, line_le (by show 2 ≤ 1000000; decide), fun bt2 nb2 => ?_⟩
                    have s10 := same_upd (o := .tup [V.int (g : Int), V.int ((l : Int) - (g : Int) + (k : Int))]) nb2
                    refine ⟨g, g, l - g + k, bt2, _, _, rfl, s9.trans s10, tk59.trans (tk_same s10), s10 _ _ hd9, ?_, best_new B hS0 cv hmax hg (.inr hlt2) hk, fin⟩
                    rw [upd_same]
                    show some (HO.tup [V.int (g : Int), V.int ((l : Int) - (g : Int) + (k : Int))]) = _
                    rw [show ((l : Int) - (g : Int) + (k : Int)) = ((l - g + k : Nat) : Int) by omega]
                  · have hge : bm ≤ l - g + k := by
                      refine Nat.le_of_not_lt fun z => hlt (decide_eq_true ?_)
                      omega
                    exact ⟨g, bf, bm, bt, _, _, rfl, s9, tk59, hd9, hb9, best_same B hmax hg bm0 hge, fin⟩
              · have hS0 : S = [] := by
                  refine List.eq_nil_of_length_eq_zero ?_
                  refine Nat.eq_zero_of_not_pos fun z => hl0 (decide_eq_true ?_)
                  rw [cdict_len]
                  omega
                exact ⟨g, bf, bm, bt, _, _, rfl, s9, tk59, hd9, hb9, best_keep (f := g) B (.inl hS0) (.inl hS0), fin⟩
            · have nz : lackN S W g (l + 1) ≠ 0 := fun z => hz (decide_eq_true (by rw [z]; rfl))
              have ncv : ¬ covers S W g (l + 1) := fun z => nz (lack_zero.mpr z)
              have g0 : g = 0 := (hcase.resolve_right fun z => ncv z.1).2
              exact ⟨g, bf, bm, bt, _, _, rfl, s9, tk59, hd9, hb9, best_keep B (.inr ncv) (.inr g0), fin⟩
      · obtain ⟨f, bf, bm, bt, y9, y10, rfl, s6, tk6, hd6, hb6, B, hf⟩ := hQ
        rw [lasm, hS] at B
        exact ⟨_, rfl, q H6 bt bf bm s6 hb6 (best_end B)⟩
theorem gd_least (T : Txt K mg C) (D : Df K mg "least_stretch" sLeast) (GW : Gm P w K mg base C "windows" 3 ["self", "k"] (spWindows C)) (GS : Gm P w K mg base C "stands" 4 ["self", "k"] (spStands C)) :
    Gd P w K mg base "least_stretch" 5 ["row", "k"] (spLeast C) :=
  Gd.mk D (fun _ _ F => ok_least T F GW GS) fun _ _ _ _ _ _ us hl => match us, hl with | [_, _], _ => rfl
end
end K80
/-! stretched; the law's own windows, sameness, dicts of choices. -/
namespace K80
open PySem PySem.Spec PyProof.Rows L2
/-! ### readings told without the context -/
def rLenK (K : PySem.W.Frag) : List V → Hp → VK → Prop := fun xs H Q => ∃ (p : Addr) (ys : List V), xs = [.ref p] ∧ (SqL K H p ys ∨ SqT K H p ys) ∧ Q (.int ys.length) H
theorem call_lenK {X : Cx} : CallR X (.builtin "len") (rLenK X.K) := call_len_seq
def rTupK (K : PySem.W.Frag) : List V → Hp → VK → Prop := fun xs H Q => ∃ (p : Addr) (ys : List V), xs = [.ref p] ∧ ((SqL K H p ys ∧ ∀ l, H l = none → Q (.ref l) (upd H l (.tup ys))) ∨ (SqT K H p ys ∧ Q (.ref p) H))
theorem call_tupK {X : Cx} : CallR X (.type "tuple") (rTupK X.K) := call_tuple_of
def teFar (K : PySem.W.Frag) : TE := tOp (rIxT K) (tVar 0) (tOp (rI (fun _ j => 0 < j) fun i j => .int (i % j)) (tOp (rI0 fun i j => .int (i + j)) (tVar 4) (tVar 5)) (tCB (rLenK K) (tCons (tVar 0) tNil)))
def teAt (K : PySem.W.Frag) : TE := tCB (rTupK K) (tCons (tLc (iRng1 (tCons (tVar 2) tNil)) (gName 5) tYes (teFar K) [5]) tNil)
section
variable {P : Program} {w : World} {K : PySem.W.Frag} {mg : Str → Option Value} {base : Heap} {C : Addr}
/-! ### stretched -/
abbrev sStretched : Stmt := topS 21
theorem scStretched : FnScope ["row", "k", "place", "many"] ["row", "k"] (defScope sStretched) := ⟨rfl, rfl, rfl, by decide +kernel, rfl, by decide +kernel, by decide +kernel⟩
def spStretched (C : Addr) : Sp := fun vs H Q _ => ∃ (p a : Addr) (n : Int) (ns : List Int) (k : Nat), vs = [.ref p, .int k] ∧ RowAt C H p n a ns ∧ RowOk n ns ∧ 1 ≤ k ∧ k ≤ 26 ∧ SS (wins k ns) ≠ [] ∧
  ∀ H' r c (bf bm : Nat), Same H H' → LSpec k (wins k ns) bf bm → RowAt C H' r n c ((ns.drop bf).take bm) → RowOk n ((ns.drop bf).take bm) → Q (.ref r) H'
theorem ok_stretched (T : Txt K mg C) {f : Addr} {fd : FuncData} (F : Fun K "stretched" "stretched" sStretched f fd) (GL : Gd P w K mg base "least_stretch" 5 ["row", "k"] (spLeast C)) (GP : PlainOk P w K mg base C) : FnOk P w K mg base CX0 6 f fd ["row", "k"] (spStretched C) := by
  refine F.ok scStretched (fun vs H Q E h => ?_) (fun cdv A outer s H vs Q E hr h => ?_)
  · obtain ⟨p, a, n, ns, k, rfl, _⟩ := h
    rfl
  · obtain ⟨p, a, n, ns, k, rfl, R, O, hk, hk2, hS, q⟩ := h
    have nd := scStretched.nd
    obtain ⟨⟨dx, hp⟩, ha⟩ := id R
    refine ⟨_, pss_cons (ps_asg (pe_g GL hr (by rfl) (pa_cons (pv 0) (pa_cons (pv 1) pa_nil))) (pg_tup rfl (pgs_cons (pg_name (i := 2) nd rfl (.inl rfl)) (pgs_cons (pg_name (i := 3) nd rfl (.inl rfl)) pgs_nil))))
      (pss_cons (ps_if (pt_cmpR op_eq (pv 3) pe_int (nomark _)) (pss_one ps_never) pss_nil)
      (pss_one (ps_ret (pe_plain GP T hr (by rfl) (pa_cons (pe_fld (pv 0) rfl) (pa_cons (pe_slice sl_tupA (pe_fld (pv 0) rfl) (po_some (pv 2)) (po_some (pe_op op_add (pv 2) (pv 3)))) pa_nil)))))), ?_⟩
    refine ⟨_, rfl, _, rfl, p, a, n, ns, k, rfl, R, O.len2, hk, hk2, fun H1 t bf bm s1 ht L => ?_⟩
    refine ⟨t, _, rfl, SqT.of ht, rfl, _, [.int (bm : Int)], rfl, _, [], rfl, rfl, ?_⟩
    have bm0 : bm ≠ 0 := fun z => hS ((L.zero hk).mp z)
    refine ⟨_, rfl, rfl, _, rfl, ite2 (fun h => ?_) (fun _ => ?_)⟩
    · have := V.int.inj (of_decide_eq_true h)
      omega
    · refine ⟨_, rfl, p, C, dx, _, _, rfl, s1 _ _ hp, T.cl, T.nN, rowF_n n a, _, rfl, p, C, dx, _, _, rfl, s1 _ _ hp, T.cl, T.nT, rowF_things n a, _, rfl, _, rfl, _, rfl, _, rfl, _, _, rfl, rfl, _, rfl, ?_⟩
      refine slA (s1 _ _ ha) (cut_mid (i := bf) (j := bf + bm) rfl (by omega)) fun t2 H2 s2 ht2 => ?_
      rw [show bf + bm - bf = bm by omega] at ht2
      have room := L.room hk
      have O2 : RowOk n ((ns.drop bf).take bm) := ⟨O.n1, O.n2, by rw [List.length_take, List.length_drop]; omega, by have := O.len2; rw [List.length_take, List.length_drop]; omega, fun x hx => O.all x (List.mem_of_mem_drop (List.mem_of_mem_take hx))⟩
      exact mk_plain O2 ht2 fun r H3 s3 nr R3 => q H3 r t2 bf bm ((s1.trans s2).trans s3) L R3 O2
theorem gd_stretched (T : Txt K mg C) (D : Df K mg "stretched" sStretched) (GL : Gd P w K mg base "least_stretch" 5 ["row", "k"] (spLeast C)) (GP : PlainOk P w K mg base C) : Gd P w K mg base "stretched" 6 ["row", "k"] (spStretched C) :=
  Gd.mk D (fun _ _ F => ok_stretched T F GL GP) fun _ _ _ _ _ _ us hl => match us, hl with | [_, _], _ => rfl

/-! ### _law_windows -/
abbrev sWinL : Stmt := topS 36
def retE (st : Stmt) : Expr := match st with
  | .Return (some e) _ => e
  | _ => .Constant .none 0 ⟨0, 0, 0, 0⟩
def lcS (e : Expr) : Scope := match e with
  | .ListComp _ _ sc _ => sc
  | _ => { kind := .function, names := [], isGenerator := false, isCoroutine := false }
abbrev scAt : Scope := lcS (retE ((defBody sWinL).getD 1 (.Pass ⟨0, 0, 0, 0⟩)))
abbrev NWinL : List Str := ["_law_things_here", "_law_is_round", "_law_k_here", "_law_many", "_law_at", "_law_far"]
theorem scWinL : FnScope NWinL ["_law_things_here", "_law_is_round", "_law_k_here"] (defScope sWinL) := ⟨rfl, rfl, rfl, by decide +kernel, rfl, by decide +kernel, by decide +kernel⟩
def spWinL : Sp := fun vs H Q _ => ∃ (a : Addr) (ns : List Int) (k : Nat), vs = [.ref a, .bl false, .int k] ∧ TupI H a ns ∧ 1 ≤ ns.length ∧ ns.length ≤ 100000 ∧ 1 ≤ k ∧ k ≤ 26 ∧
  ∀ H' p as, Same H H' → H p = none → H' p = some (.lst (as.map V.ref)) → TupsAt H' as (wins k ns) → Q (.ref p) H'
theorem ok_winL (T : Txt K mg C) {f : Addr} {fd : FuncData} (F : Fun K "_law_windows" "_law_windows" sWinL f fd) : FnOk P w K mg base CX0 1 f fd ["_law_things_here", "_law_is_round", "_law_k_here"] spWinL := by
  refine F.ok scWinL (fun vs H Q E h => ?_) (fun cdv A outer s H vs Q E hr h => ?_)
  · obtain ⟨a, ns, k, rfl, _⟩ := h
    rfl
  · obtain ⟨a, ns, k, rfl, ha, l1, l2, hk, hk2, q⟩ := h
    have nd := scWinL.nd
    refine ⟨_, pss_cons (ps_set (i := 3) nd rfl (.inl rfl) (pe_ifExp (pt_val (pv 1)) (pe_callB call_len_seq (by rfl) T.len PySem.boot_len (pa_cons (pv 0) pa_nil))
        (pe_callB (call_max2 rfl) (by rfl) T.max (by decide +kernel) (pa_cons pe_int (pa_cons (pe_op op_add (pe_op op_sub (pe_callB call_len_seq (by rfl) T.len PySem.boot_len (pa_cons (pv 0) pa_nil)) (pv 2)) pe_int) pa_nil)))))
      (pss_one (ps_ret (pe_lc (own := [("_law_at", 4)]) (g := gName 4) (tt := tYes) (te := teAt K) rfl nd (pi_range1 (by rfl) T.range (pa_cons (pv 3) pa_nil)) (blkOk_by (N := NWinL) (sc := defScope sWinL) (by decide +kernel)) (fun _ _ _ _ _ => pg_name (i := 4) nd rfl (Or.inr rfl)) (fun _ _ _ _ _ => pts_nil)
        (fun _ _ _ _ _ => pe_callTy call_tupK (by rfl) T.tuple (by decide +kernel) (pa_cons (pe_lc (own := [("_law_far", 5)]) (g := gName 5) (tt := tYes) (te := teFar K) rfl nd (pi_range1 (by rfl) T.range (pa_cons (pv 2) pa_nil)) (blkOk_by (N := NWinL) (sc := relS scAt (defScope sWinL)) (by decide +kernel))
          (fun _ _ _ _ _ => pg_name (i := 5) nd rfl (Or.inl rfl)) (fun _ _ _ _ _ => pts_nil)
          (fun _ _ _ _ _ => pe_ix ix_tup (pv 0) (pe_op op_mod (pe_op op_add (pv 4) (pv 5)) (pe_callB call_lenK (by rfl) T.len PySem.boot_len (pa_cons (pv 0) pa_nil))) (fun _ _ => rfl))) pa_nil))))), ?_⟩
    refine ⟨_, rfl, _, rfl, iteF ?_⟩
    have e : (if (((ns.map V.int).length : Int) - (k : Int) + 1) > 0 then (((ns.map V.int).length : Int) - (k : Int) + 1) else 0) = ((ns.length + 1 - k : Nat) : Int) := by
      rw [List.length_map]
      split <;> omega
    refine ⟨_, rfl, a, _, rfl, .inr (SqT.of ha), _, rfl, _, _, rfl, rfl, _, _, rfl, rfl, _, _, rfl, ?_⟩
    rw [e]
    refine ⟨_, rfl, _, rfl, by omega, by omega, ?_⟩
    rw [Int.toNat_natCast]
    intro D hD
    refine lc_range (lo := 0) (n := ns.length + 1 - k) (fun i H' => ∃ as : List Addr, H' D = some (.lst (as.map V.ref)) ∧ Same H H' ∧ TupsAt H' as ((wins k ns).take i))
      ⟨[], upd_same, same_upd hD, TupsAt.nil _⟩ (fun i H1 hi hP => ?_) (fun H1 hP => ?_)
    · obtain ⟨as, h1, s1, t1⟩ := hP
      refine ⟨rfl, ?_⟩
      refine ⟨_, rfl, _, rfl, by omega, by omega, ?_⟩
      rw [Int.toNat_natCast]
      intro D2 hD2
      have n12 : D ≠ D2 := ne_of_none h1 hD2
      refine lc_range (lo := 0) (n := k) (fun j H' => H' D2 = some (.lst (((ns.drop i).take j).map V.int)) ∧ Same H1 H') ⟨upd_same, same_upd hD2⟩ (fun j H2 hj hP => ?_) (fun H2 hP => ?_)
      · obtain ⟨h2, s2⟩ := hP
        refine ⟨rfl, ?_⟩
        have ha2 := s2 _ _ (s1 _ _ ha)
        have hij : i + j < ns.length := by omega
        have ix : atI (ns.map V.int) (((0 : Int) + (i : Int) + (0 + (j : Int))) % ((ns.map V.int).length : Int)) = some (.int ns[i + j]) := by
          have e1 : ((0 : Int) + (i : Int) + (0 + (j : Int))) % ((ns.map V.int).length : Int) = ((i + j : Nat) : Int) := by
            rw [List.length_map]
            rw [Int.emod_eq_of_lt (by omega) (by omega)]
            omega
          rw [e1]
          refine atI_nat ?_
          rw [List.getElem?_map, List.getElem?_eq_getElem hij]
          rfl
        refine ⟨_, rfl, _, rfl, _, rfl, _, _, rfl, rfl, _, rfl, a, _, rfl, .inr (SqT.of ha2), _, _, rfl, rfl, (by show (0 : Int) < ((ns.map V.int).length : Int); rw [List.length_map]; omega), a, _, _, _, rfl, rfl, SqT.of ha2, ix, _, h2, line_lt (by rw [List.length_map, List.length_take, List.length_drop]; omega), ?_, But.same hD2 s2 (But.upd _)⟩
        rw [upd_same, List.take_add_one, List.getElem?_drop, List.getElem?_eq_getElem hij, List.map_append]
        rfl
      · obtain ⟨h2, s2⟩ := hP
        refine ⟨D2, _, rfl, .inl ⟨SqL.of h2, fun t nt => ?_⟩⟩
        have s3 := s2.trans (same_upd (o := .tup (((ns.drop i).take k).map V.int)) nt)
        have hD3 := s3 _ _ h1
        have la : as.length = i := by rw [t1.1, List.length_take, wins_length]; omega
        have kt : Tk _ (upd (upd H2 t (.tup (((ns.drop i).take k).map V.int))) D (.lst (as.map V.ref ++ [V.ref t]))) := tk_but hD3 (fun _ z => nomatch z) (But.upd _)
        refine ⟨_, hD3, line_lt (by rw [List.length_map]; omega), as ++ [t], by rw [upd_same, List.map_append]; rfl, But.same hD (s1.trans s3) (But.upd _), ?_⟩
        rw [List.take_add_one, wins_get hi]
        exact ((t1.same s3).snoc upd_same).tk kt
    · obtain ⟨as, h1, s1, t1⟩ := hP
      rw [List.take_of_length_le (by rw [wins_length]; exact Nat.le_refl _)] at t1
      exact q H1 D as s1 hD h1 t1
theorem gd_winL (T : Txt K mg C) (D : Df K mg "_law_windows" sWinL) : Gd P w K mg base "_law_windows" 1 ["_law_things_here", "_law_is_round", "_law_k_here"] spWinL :=
  Gd.mk D (fun _ _ F => ok_winL T F) fun _ _ _ _ _ _ us hl => match us, hl with | [_, _, _], _ => rfl
end
end K80
/-! The law's sameness, dicts of choices. -/
namespace K80
open PySem PySem.Spec PyProof.Rows L2
/-- a list of pairs (tuple, True), one by one -/
def TrueAt (H : Hp) (ts : List Addr) (ws : List (List Int)) : Prop := ts.length = ws.length ∧ ∃ ks : List Addr, ks.length = ws.length ∧ ∀ (i : Nat) (t k : Addr) (w : List Int), ts[i]? = some t → ks[i]? = some k → ws[i]? = some w → H t = some (.tup [.ref k, .bl true]) ∧ TupI H k w
theorem TrueAt.nil (H : Hp) : TrueAt H [] [] := ⟨rfl, [], rfl, fun i t k w h _ _ => by simp at h⟩
theorem TrueAt.tk {H H' : Hp} {ts : List Addr} {ws : List (List Int)} (k : Tk H H') (t : TrueAt H ts ws) : TrueAt H' ts ws := by
  obtain ⟨h1, ks, h2, h3⟩ := t
  exact ⟨h1, ks, h2, fun i t c w e1 e2 e3 => let ⟨a, b⟩ := h3 i t c w e1 e2 e3; ⟨k _ _ a, k _ _ b⟩⟩
theorem TrueAt.snoc {H : Hp} {ts : List Addr} {ws : List (List Int)} {t k : Addr} {w : List Int} (h : TrueAt H ts ws) (ht : H t = some (.tup [.ref k, .bl true])) (hk : TupI H k w) : TrueAt H (ts ++ [t]) (ws ++ [w]) := by
  obtain ⟨h1, ks, h2, h3⟩ := h
  refine ⟨by rw [List.length_append, List.length_append, h1]; rfl, ks ++ [k], by rw [List.length_append, List.length_append, h2]; rfl, fun i t' k' w' e1 e2 e3 => ?_⟩
  by_cases hi : i < ts.length
  · rw [List.getElem?_append_left hi] at e1
    rw [List.getElem?_append_left (by omega)] at e2 e3
    exact h3 i t' k' w' e1 e2 e3
  · rw [List.getElem?_append_right (by omega)] at e1 e2 e3
    rw [h2] at e2
    rw [h1] at e1
    cases e : i - ws.length with
    | zero =>
      rw [e] at e1 e2 e3
      cases e1
      cases e2
      cases e3
      exact ⟨ht, hk⟩
    | succ j => rw [e] at e1; simp at e1
/-- dict(..) of such a list -/
theorem dict_of {K : PySem.W.Frag} {H : Hp} {D : Addr} {ts : List Addr} {ws : List (List Int)} {Q : VK} (hD : H D = some (.lst (ts.map V.ref))) (h : TrueAt H ts ws) (q : ∀ (p : Addr) (us : List (List Int)), H p = none → us.Nodup → (∀ w, w ∈ us ↔ w ∈ ws) → Q (.ref p) (upd H p (.dT (trues us)))) :
    rDictT K [.ref D] H Q := by
  obtain ⟨h1, ks, h2, h3⟩ := h
  exact ⟨D, ts, ks, ws, rfl, SqL.of hD, h1, h2, fun i t k w e1 e2 e3 => let ⟨a, b⟩ := h3 i t k w e1 e2 e3; ⟨SqT.of a, b⟩, q⟩

section
variable {P : Program} {w : World} {K : PySem.W.Frag} {mg : Str → Option Value} {base : Heap} {C : Addr}
/-! ### _law_same -/
abbrev sSame : Stmt := topS 37
abbrev NSame : List Str := ["_law_found", "_law_due", "_law_one", "_law_other_here"]
theorem scSame : FnScope NSame ["_law_found", "_law_due"] (defScope sSame) := ⟨rfl, rfl, rfl, by decide +kernel, rfl, by decide +kernel, by decide +kernel⟩
def spSameI : Sp := fun vs H Q _ => ∃ i : Int, vs = [.int i, .int i] ∧ Q (.bl true) H
theorem ok_sameI (T : Txt K mg C) {f : Addr} {fd : FuncData} (F : Fun K "_law_same" "_law_same" sSame f fd) : FnOk P w K mg base CX0 1 f fd ["_law_found", "_law_due"] spSameI := by
  refine F.ok scSame (fun vs H Q E h => ?_) (fun cdv A outer s H vs Q E hr h => ?_)
  · obtain ⟨i, rfl, _⟩ := h
    rfl
  · obtain ⟨i, rfl, q⟩ := h
    refine ⟨_, pss_cons (ps_if (pt_val (pe_callB call_isi (by rfl) T.isinstance (by decide +kernel) (pa_cons (pv 1) (pa_cons (pe_bltn (v := .ty "tuple") (by rfl) T.tuple (by decide +kernel) rfl) pa_nil)))) pss_never pss_nil)
      (pss_cons (ps_if (PW.pt (pw_or (pt_val (pe_callB call_isi (by rfl) T.isinstance (by decide +kernel) (pa_cons (pv 0) (pa_cons (pe_bltn (v := .ty "bool") (by rfl) T.bool (by decide +kernel) rfl) pa_nil))))
          (pw_or1 (pt_val (pe_callB call_isi (by rfl) T.isinstance (by decide +kernel) (pa_cons (pv 1) (pa_cons (pe_bltn (v := .ty "bool") (by rfl) T.bool (by decide +kernel) rfl) pa_nil))))))) pss_never pss_nil)
      (pss_one (ps_ret (pe_and (pe_callB call_isi (by rfl) T.isinstance (by decide +kernel) (pa_cons (pv 0) (pa_cons (pe_bltn (v := .ty "int") (by rfl) T.int (by decide +kernel) rfl) pa_nil))) (pe_one (pe_cmpR op_eq (pv 0) (pv 1) (nomark _))))))), ?_⟩
    refine ⟨_, rfl, _, _, _, _, false, rfl, .ty "tuple", .base (.int i), kit_ty (by decide +kernel), _, rfl, iteF ?_⟩
    refine ⟨_, rfl, _, _, _, _, false, rfl, .ty "bool", .base (.int i), kit_ty (by decide +kernel), _, rfl, iteF ?_⟩
    refine ⟨_, rfl, _, _, _, _, false, rfl, .ty "bool", .base (.int i), kit_ty (by decide +kernel), _, rfl, iteF ?_⟩
    refine ⟨_, rfl, _, _, _, _, true, rfl, .ty "int", .base (.int i), kit_ty (by decide +kernel), _, rfl, iteT ?_⟩
    refine ⟨_, rfl, _, rfl, rfl, ?_⟩
    show Q (.bl (decide (V.int i = V.int i))) H
    rw [decide_eq_true rfl]
    exact q
theorem gd_sameI (T : Txt K mg C) (D : Df K mg "_law_same" sSame) : Gd P w K mg base "_law_same" 1 ["_law_found", "_law_due"] spSameI :=
  Gd.mk D (fun _ _ F => ok_sameI T F) fun _ _ _ _ _ _ us hl => match us, hl with | [_, _], _ => rfl
def spSameT : Sp := fun vs H Q _ => ∃ (a b : Addr) (ns : List Int), vs = [.ref a, .ref b] ∧ TupI H a ns ∧ TupI H b ns ∧ ns.length ≤ 100000 ∧ ∀ H', Same H H' → Q (.bl true) H'
theorem ok_sameT (T : Txt K mg C) {f : Addr} {fd : FuncData} (F : Fun K "_law_same" "_law_same" sSame f fd) (GI : Gd P w K mg base "_law_same" 1 ["_law_found", "_law_due"] spSameI) : FnOk P w K mg base CX0 2 f fd ["_law_found", "_law_due"] spSameT := by
  refine F.ok scSame (fun vs H Q E h => ?_) (fun cdv A outer s H vs Q E hr h => ?_)
  · obtain ⟨a, b, ns, rfl, _⟩ := h
    rfl
  · obtain ⟨a, b, ns, rfl, ha, hb, hl, q⟩ := h
    have nd := scSame.nd
    refine ⟨_, pss_cons (ps_if (pt_val (pe_callB call_isi (by rfl) T.isinstance (by decide +kernel) (pa_cons (pv 1) (pa_cons (pe_bltn (v := .ty "tuple") (by rfl) T.tuple (by decide +kernel) rfl) pa_nil))))
        (pss_cons (ps_if (PW.pt (pw_or (pt_not (pt_val (pe_callB call_isi (by rfl) T.isinstance (by decide +kernel) (pa_cons (pv 0) (pa_cons (pe_bltn (v := .ty "tuple") (by rfl) T.tuple (by decide +kernel) rfl) pa_nil)))))
            (pw_or1 (pt_cmpR op_ne (pe_callB call_len_seq (by rfl) T.len PySem.boot_len (pa_cons (pv 0) pa_nil)) (pe_callB call_len_seq (by rfl) T.len PySem.boot_len (pa_cons (pv 1) pa_nil)) (nomark _))))) pss_never pss_nil)
        (pss_one (ps_ret (pe_callB (cr_all rfl) (by rfl) T.all (by decide +kernel) (pa_cons (pe_lc (own := [("_law_one", 2), ("_law_other_here", 3)]) (g := gTup K 2 (gCons (gName 2) (gCons (gName 3) gNil))) (tt := tYes) rfl nd (RZ.pi_zipA (by rfl) T.zip (pa_cons (pv 0) (pa_cons (pv 1) pa_nil)))
          (blkOk_by (N := NSame) (sc := defScope sSame) (by decide +kernel)) (fun _ _ _ _ _ => pg_tup rfl (pgs_cons (pg_name (i := 2) nd rfl (Or.inl rfl)) (pgs_cons (pg_name (i := 3) nd rfl (Or.inl rfl)) pgs_nil))) (fun _ _ _ _ _ => pts_nil)
          (fun _ _ _ _ _ => pe_g GI hr (by rfl) (pa_cons (pv 2) (pa_cons (pv 3) pa_nil)))) pa_nil))))) pss_nil)
      pss_never, ?_⟩
    refine ⟨_, rfl, _, _, _, _, true, rfl, .ty "tuple", .base (.tup hb), kit_ty (by decide +kernel), _, rfl, iteT ?_⟩
    refine ⟨_, rfl, _, _, _, _, true, rfl, .ty "tuple", .base (.tup ha), kit_ty (by decide +kernel), _, rfl, iteF ?_⟩
    refine ⟨_, rfl, a, _, rfl, .inr (SqT.of ha), _, rfl, b, _, rfl, .inr (SqT.of hb), rfl, _, rfl, ?_⟩
    rw [decide_eq_true rfl]
    refine iteF ?_
    refine ⟨_, rfl, _, rfl, a, b, _, _, rfl, .inr ⟨SqT.of ha, SqT.of hb, fun D hD => ?_⟩⟩
    have lm : (ns.map V.int).length = ns.length := List.length_map _
    refine lc_it (walk_zipT (K := K) (a := a) (b := b) (xs := ns.map V.int) (ys := ns.map V.int) (n := ns.length) (by rw [lm]; omega)) (fun i H' => H' D = some (.lst ((List.replicate i true).map V.bl)) ∧ Same H H') ⟨upd_same, same_upd hD⟩ (fun i H' _ hP => ⟨SqT.of (hP.2 _ _ ha), SqT.of (hP.2 _ _ hb)⟩) (fun i x H1 H2 hi hP hY => ?_) (fun H1 hP => ?_)
    · obtain ⟨h1, s1⟩ := hP
      obtain ⟨T1, x1, x2, rfl, nT1, rfl, e1, e2⟩ := hY
      obtain ⟨v, hv, rfl⟩ := map_int_get e1
      have ex : x2 = .int v := Option.some.inj (e2.symm.trans e1)
      subst ex
      have s2 := s1.trans (same_upd (o := .tup [V.int v, V.int v]) nT1)
      have hD2 := same_upd (o := .tup [V.int v, V.int v]) nT1 _ _ h1
      refine ⟨T1, _, rfl, SqT.of upd_same, rfl, _, [.int v], rfl, _, [], rfl, rfl, ?_⟩
      refine ⟨rfl, ?_⟩
      refine ⟨_, rfl, _, rfl, v, rfl, _, hD2, line_lt (by rw [List.length_map, List.length_replicate]; omega), ?_, But.same hD s2 (But.upd _)⟩
      rw [upd_same, List.replicate_succ', List.map_append]
      rfl
    · obtain ⟨h1, s1⟩ := hP
      refine ⟨D, _, rfl, SqL.of h1, ?_⟩
      rw [show (List.replicate ns.length true).all id = true by rw [List.all_eq_true]; intro x hx; exact List.eq_of_mem_replicate hx]
      exact q H1 s1
theorem gd_sameT (T : Txt K mg C) (D : Df K mg "_law_same" sSame) (GI : Gd P w K mg base "_law_same" 1 ["_law_found", "_law_due"] spSameI) : Gd P w K mg base "_law_same" 2 ["_law_found", "_law_due"] spSameT :=
  Gd.mk D (fun _ _ F => ok_sameT T F GI) fun _ _ _ _ _ _ us hl => match us, hl with | [_, _], _ => rfl

/-! ### _law_had -/
abbrev sHad : Stmt := topS 39
abbrev NHad : List Str := ["_law_windows_here", "_law_k_here", "_law_window"]
theorem scHad : FnScope NHad ["_law_windows_here", "_law_k_here"] (defScope sHad) := ⟨rfl, rfl, rfl, by decide +kernel, rfl, by decide +kernel, by decide +kernel⟩
def spHad : Sp := fun vs H Q _ => ∃ (p : Addr) (k : Nat) (as : List Addr) (W : List (List Int)), vs = [.ref p, .int k] ∧ H p = some (.lst (as.map V.ref)) ∧ TupsAt H as W ∧ W.length ≤ 200000 ∧ (∀ w ∈ W, w.length = k) ∧ k ≤ 26 ∧
  ∀ H' d us, Same H H' → H d = none → H' d = some (.dT (trues us)) → us.Nodup → (∀ w, w ∈ us ↔ w ∈ SS W) → Q (.ref d) H'
theorem ok_had (T : Txt K mg C) {f : Addr} {fd : FuncData} (F : Fun K "_law_had" "_law_had" sHad f fd) : FnOk P w K mg base CX0 1 f fd ["_law_windows_here", "_law_k_here"] spHad := by
  refine F.ok scHad (fun vs H Q E h => ?_) (fun cdv A outer s H vs Q E hr h => ?_)
  · obtain ⟨p, k, as, W, rfl, _⟩ := h
    rfl
  · obtain ⟨p, k, as, W, rfl, hp, hT, lW, hlen, hk, q⟩ := h
    have nd := scHad.nd
    have hu2 : (A.deeper (envOfC "_law_had" (defScope sHad) s.heap.objs.size f cdv)).units + 2 < cLine := by have := hr.units; omega
    refine ⟨_, pss_one (ps_ret (pe_callTy (call_dictT rfl hu2) (by rfl) T.dict (by decide +kernel) (pa_cons (pe_lc (own := [("_law_window", 2)]) (g := gName 2) (tt := tTest (tOp rEq (tLenSetT K (tVar 2)) (tVar 1))) rfl nd (pi_list (pv 0)) (blkOk_by (N := NHad) (sc := defScope sHad) (by decide +kernel))
      (fun _ _ _ _ _ => pg_name (i := 2) nd rfl (Or.inl rfl)) (fun _ _ _ _ _ => pts_one (pt_cmpR op_eq (pe_lenSetT (by rfl) T.len (by rfl) T.set (pv 2)) (pv 1) (nomark _))) (fun _ _ _ _ _ => pe_tup (pa_cons (pv 2) (pa_cons pe_bl pa_nil)))) pa_nil))), ?_⟩
    refine ⟨_, rfl, p, rfl, ⟨_, SqL.of hp⟩, fun D hD => ?_⟩
    have lasm : (as.map V.ref).length = W.length := by rw [List.length_map]; exact hT.1
    refine lc_list (K := K) (a := p) (xs := as.map V.ref) (fun i H' => ∃ (ts : List Addr) (ws : List (List Int)), H' D = some (.lst (ts.map V.ref)) ∧ Same H H' ∧ TrueAt H' ts ws ∧ ts.length ≤ i ∧ ∀ w, w ∈ ws ↔ w ∈ W.take i ∧ w.Nodup)
      ⟨[], [], upd_same, same_upd hD, TrueAt.nil _, Nat.le_refl _, fun w => by simp⟩ (fun i H' _ hP => let ⟨_, _, _, s1, _⟩ := hP; SqL.of (s1 _ _ hp)) (fun i x H1 hx hP => ?_) (fun H1 hP => ?_)
    · obtain ⟨ts, ws, h1, s1, t1, lt, hw⟩ := hP
      obtain ⟨b, hb, rfl⟩ := map_ref_get hx
      obtain ⟨wd, hwd, hbw⟩ := hT.get hb
      have hb1 := s1 _ _ hbw
      have lw := hlen wd (List.mem_of_getElem? hwd)
      have hi : i < W.length := (List.getElem?_eq_some_iff.mp hwd).1
      refine ⟨rfl, ?_⟩
      refine ⟨_, rfl, b, wd, rfl, SqT.of hb1, by omega, fun c c1 c2 => ?_⟩
      refine ⟨_, rfl, rfl, _, rfl, ite2 (fun h => ?_) (fun h => ?_)⟩
      · have hn : wd.Nodup := c2.mp (by have := V.int.inj (of_decide_eq_true h); omega)
        refine ⟨_, rfl, line_le (by show 2 ≤ 1000000; decide), fun t nt => ?_⟩
        have s2 := s1.trans (same_upd (o := .tup [V.ref b, V.bl true]) nt)
        have hD2 := same_upd (o := .tup [V.ref b, V.bl true]) nt _ _ h1
        have kt : Tk _ (upd (upd H1 t (.tup [V.ref b, V.bl true])) D (.lst (ts.map V.ref ++ [V.ref t]))) := tk_but hD2 (fun _ z => nomatch z) (But.upd _)
        refine ⟨_, hD2, line_lt (by rw [List.length_map]; omega), ts ++ [t], ws ++ [wd], by rw [upd_same, List.map_append]; rfl, But.same hD s2 (But.upd _), ?_, by rw [List.length_append]; simp; omega, fun w => ?_⟩
        · exact ((t1.tk (tk_same (same_upd nt))).snoc upd_same (same_upd nt _ _ hb1)).tk kt
        · rw [List.mem_append, hw w, List.take_add_one, hwd, List.mem_append]
          constructor
          · rintro (⟨a, b⟩ | a)
            · exact ⟨.inl a, b⟩
            · have e : w = wd := by simpa using a
              rw [e]
              exact ⟨.inr (by simp), hn⟩
          · rintro ⟨a | a, b⟩
            · exact .inl ⟨a, b⟩
            · have e : w = wd := by simpa using a
              exact .inr (by simp [e])
      · have hn : ¬ wd.Nodup := fun z => h (decide_eq_true (congrArg V.int (by have := c2.mpr z; omega)))
        refine ⟨ts, ws, h1, s1, t1, by omega, fun w => ?_⟩
        rw [hw w, List.take_add_one, hwd, List.mem_append]
        constructor
        · rintro ⟨a, b⟩
          exact ⟨.inl a, b⟩
        · rintro ⟨a | a, b⟩
          · exact ⟨a, b⟩
          · have e : w = wd := by simpa using a
            rw [e] at b
            exact absurd b hn
    · obtain ⟨ts, ws, h1, s1, t1, lt, hw⟩ := hP
      rw [lasm, List.take_length] at hw
      refine dict_of h1 t1 fun d us nd' un um => ?_
      exact q _ d us (s1.trans (same_upd nd')) (s1.free nd') upd_same un fun w => by rw [um, hw, SS_mem]
theorem gd_had (T : Txt K mg C) (D : Df K mg "_law_had" sHad) : Gd P w K mg base "_law_had" 1 ["_law_windows_here", "_law_k_here"] spHad :=
  Gd.mk D (fun _ _ F => ok_had T F) fun _ _ _ _ _ _ us hl => match us, hl with | [_, _], _ => rfl
end
end K80
/-! The law's look at two rows laid over one another. -/
namespace K80
open PySem PySem.Spec PyProof.Rows L2
theorem TupsAt.app {H : Hp} {as bs : List Addr} {ws vs : List (List Int)} (h : TupsAt H as ws) (g : TupsAt H bs vs) : TupsAt H (as ++ bs) (ws ++ vs) := by
  refine ⟨by rw [List.length_append, List.length_append, h.1, g.1], fun i b x h1 h2 => ?_⟩
  by_cases hi : i < as.length
  · rw [List.getElem?_append_left hi] at h1
    rw [List.getElem?_append_left (by rw [← h.1]; exact hi)] at h2
    exact h.2 i b x h1 h2
  · rw [List.getElem?_append_right (by omega)] at h1
    rw [List.getElem?_append_right (by rw [← h.1]; omega), ← h.1] at h2
    exact g.2 _ b x h1 h2
theorem tNil_of {σ : L2.St} {H : Hp} {Q : List V → Hp → Prop} (h : Q [] H) : tNil σ H Q := h
section
variable {P : Program} {w : World} {K : PySem.W.Frag} {mg : Str → Option Value} {base : Heap} {C : Addr}
abbrev sRight : Stmt := topS 40
abbrev NRight : List Str := ["_law_one", "_law_other_here", "_law_told", "_law_n_here", "_law_k_here", "_law_most", "_law_there", "_law_both", "_law_window"]
theorem scRight : FnScope NRight ["_law_one", "_law_other_here", "_law_told", "_law_n_here", "_law_k_here"] (defScope sRight) := ⟨rfl, rfl, rfl, by decide +kernel, rfl, by decide +kernel, by decide +kernel⟩
def spRight (C : Addr) : Sp := fun vs H Q _ => ∃ (p1 p2 p3 a b c : Addr) (n : Int) (k : Nat) (xs ys zs : List Int), vs = [.ref p1, .ref p2, .ref p3, .int n, .int k] ∧ RowAt C H p1 n a xs ∧ RowAt C H p2 n b ys ∧ RowAt C H p3 n c zs ∧
  RowOk n xs ∧ RowOk n ys ∧ RowOk n zs ∧ InsideOf zs xs ∧ InsideOf zs ys ∧ zs.length ≤ xs.length + ys.length ∧ 1 ≤ k ∧ k ≤ 26 ∧ ∀ H', Same H H' → Q (.bl true) H'
theorem ok_right (T : Txt K mg C) (IC : C8.InsC K C) {f : Addr} {fd : FuncData} (F : Fun K "_law_laid_right" "_law_laid_right" sRight f fd) (GI : Gd P w K mg base "_law_same" 1 ["_law_found", "_law_due"] spSameI)
    (GN : Gd P w K mg base "inside_at" 1 ["one", "other"] (spInside C)) (GW : Gd P w K mg base "_law_windows" 1 ["_law_things_here", "_law_is_round", "_law_k_here"] spWinL) :
    FnOk P w K mg base CX0 2 f fd ["_law_one", "_law_other_here", "_law_told", "_law_n_here", "_law_k_here"] (spRight C) := by
  refine F.ok scRight (fun vs H Q E h => ?_) (fun cdv A outer s H vs Q E hr h => ?_)
  · obtain ⟨p1, p2, p3, a, b, c, n, k, xs, ys, zs, rfl, _⟩ := h
    rfl
  · obtain ⟨p1, p2, p3, a, b, c, n, k, xs, ys, zs, rfl, R1, R2, R3, O1, O2, O3, I1, I2, lz, hk, hk2, q⟩ := h
    have nd := scRight.nd
    have hu := hu_of hr
    have hu2 : (A.deeper (envOfC "_law_laid_right" (defScope sRight) s.heap.objs.size f cdv)).units + 2 < cLine := by have := hr.units; omega
    obtain ⟨⟨d1, h1⟩, ha⟩ := id R1
    obtain ⟨⟨d2, h2⟩, hb⟩ := id R2
    obtain ⟨⟨d3, h3⟩, hc⟩ := id R3
    have l1 := O1.len2
    have l2 := O2.len2
    have l3 := O3.len2
    refine ⟨_, pss_cons (ps_if (PW.pt (pw_or (pt_not (pt_val (pe_callB (C8.call_isC IC) (by rfl) T.isinstance (by decide +kernel) (pa_cons (pv 2) (pa_cons (pe_glob (v := .ref C) (by rfl) T.gC rfl) pa_nil)))))
          (pw_or1 (pt_not (pt_val (pe_g GI hr (by rfl) (pa_cons (pe_fld (pv 2) rfl) (pa_cons (pv 3) pa_nil)))))))) pss_never pss_nil)
      (pss_cons (ps_if (PW.pt (pw_or (pt_cmpR (op_eqD hr.units) (pe_g GN hr (by rfl) (pa_cons (pv 2) (pa_cons (pv 0) pa_nil))) (pe_tup pa_nil) (nomark _))
          (pw_or1 (pt_cmpR (op_eqD hr.units) (pe_g GN hr (by rfl) (pa_cons (pv 2) (pa_cons (pv 1) pa_nil))) (pe_tup pa_nil) (nomark _))))) pss_never pss_nil)
      (pss_cons (ps_set (i := 5) nd rfl (.inl rfl) (pe_callB (call_max2 rfl) (by rfl) T.max (by decide +kernel) (pa_cons (pe_callB call_len_seq (by rfl) T.len PySem.boot_len (pa_cons (pe_fld (pv 0) rfl) pa_nil)) (pa_cons (pe_callB call_len_seq (by rfl) T.len PySem.boot_len (pa_cons (pe_fld (pv 1) rfl) pa_nil)) pa_nil))))
      (pss_cons (ps_if (pt_not (pt_chain op_le op_le (pv 5) (pe_callB call_len_seq (by rfl) T.len PySem.boot_len (pa_cons (pe_fld (pv 2) rfl) pa_nil))
          (pe_op op_add (pe_callB call_len_seq (by rfl) T.len PySem.boot_len (pa_cons (pe_fld (pv 0) rfl) pa_nil)) (pe_callB call_len_seq (by rfl) T.len PySem.boot_len (pa_cons (pe_fld (pv 1) rfl) pa_nil))))) pss_never pss_nil)
      (pss_cons (ps_set (i := 6) nd rfl (.inr rfl) (pe_callTy (call_dictT rfl hu2) (by rfl) T.dict (by decide +kernel) (pa_cons (pe_lc (own := [("_law_window", 8)]) (g := gName 8) (tt := tYes) rfl nd
          (pi_list (pe_g GW hr (by rfl) (pa_cons (pe_fld (pv 2) rfl) (pa_cons pe_bl (pa_cons (pv 4) pa_nil))))) (blkOk_by (N := NRight) (sc := defScope sRight) (by decide +kernel))
          (fun _ _ _ _ _ => pg_name (i := 8) nd rfl (Or.inl rfl)) (fun _ _ _ _ _ => pts_nil) (fun _ _ _ _ _ => pe_tup (pa_cons (pv 8) (pa_cons pe_bl pa_nil)))) pa_nil)))
      (pss_cons (ps_set (i := 7) nd rfl (.inl rfl) (pe_op op_cat (pe_g GW hr (by rfl) (pa_cons (pe_fld (pv 0) rfl) (pa_cons pe_bl (pa_cons (pv 4) pa_nil)))) (pe_g GW hr (by rfl) (pa_cons (pe_fld (pv 1) rfl) (pa_cons pe_bl (pa_cons (pv 4) pa_nil))))))
      (pss_one (ps_ret (pe_callB (cr_all rfl) (by rfl) T.all (by decide +kernel) (pa_cons (pe_lc (own := [("_law_window", 8)]) (g := gName 8) (tt := tYes) rfl nd (pi_list (pv 7)) (blkOk_by (N := NRight) (sc := defScope sRight) (by decide +kernel))
          (fun _ _ _ _ _ => pg_name (i := 8) nd rfl (Or.inl rfl)) (fun _ _ _ _ _ => pts_nil) (fun _ _ _ _ _ => pe_cmp (pc_din hu (pv 8) (pv 6)))) pa_nil))))))))), ?_⟩
    refine ⟨_, rfl, p3, d3, _, rfl, h3, _, rfl, iteF ?_⟩
    refine ⟨_, rfl, p3, C, d3, _, _, rfl, h3, T.cl, T.nN, rowF_n n c, _, rfl, n, rfl, _, rfl, iteF ?_⟩
    refine ⟨_, rfl, _, rfl, p3, p1, c, a, n, n, zs, xs, rfl, R3, R1, l3, l1, fun H1 t1 s1 ht1 => ?_⟩
    refine ⟨Nat.zero_le _, fun e1 ne1 => ?_⟩
    have s2 := s1.trans (same_upd (o := .tup []) ne1)
    refine eqD_tup (xs := natI (inside zs xs)) (ys := []) (SqT.of (same_upd ne1 _ _ ht1)) (SqT.of upd_same) ⟨_, rfl, ?_⟩
    rw [decide_eq_false fun z => (inside_iff zs xs).mpr I1 ((natI_nil _).mp z)]
    refine iteF ?_
    generalize upd H1 e1 (.tup []) = H2 at s2
    refine ⟨_, rfl, _, rfl, p3, p2, c, b, n, n, zs, ys, rfl, R3.same s2, R2.same s2, l3, l2, fun H3 t3 s3 ht3 => ?_⟩
    refine ⟨Nat.zero_le _, fun e2 ne2 => ?_⟩
    have s4 := (s2.trans s3).trans (same_upd (o := .tup []) ne2)
    refine eqD_tup (xs := natI (inside zs ys)) (ys := []) (SqT.of (same_upd ne2 _ _ ht3)) (SqT.of upd_same) ⟨_, rfl, ?_⟩
    rw [decide_eq_false fun z => (inside_iff zs ys).mpr I2 ((natI_nil _).mp z)]
    refine iteF ?_
    generalize upd H3 e2 (.tup []) = H4 at s4
    have h1' := s4 _ _ h1
    have h2' := s4 _ _ h2
    have h3' := s4 _ _ h3
    have ha' := s4 _ _ ha
    have hb' := s4 _ _ hb
    have hc' := s4 _ _ hc
    have m1 := I1.len
    have m2 := I2.len
    have lxm : (xs.map V.int).length = xs.length := List.length_map _
    have lym : (ys.map V.int).length = ys.length := List.length_map _
    have lzm : (zs.map V.int).length = zs.length := List.length_map _
    refine ⟨_, rfl, p1, C, d1, _, _, rfl, h1', T.cl, T.nT, rowF_things n a, a, _, rfl, .inr (SqT.of ha'), _, rfl, p2, C, d2, _, _, rfl, h2', T.cl, T.nT, rowF_things n b, b, _, rfl, .inr (SqT.of hb'), _, _, rfl, ?_⟩
    refine ⟨_, rfl, _, rfl, p3, C, d3, _, _, rfl, h3', T.cl, T.nT, rowF_things n c, c, _, rfl, .inr (SqT.of hc'), _, _, rfl, rfl, _, rfl, ?_⟩
    rw [if_pos (decide_eq_true (by rw [lxm, lym, lzm]; split <;> omega))]
    refine ⟨_, rfl, p1, C, d1, _, _, rfl, h1', T.cl, T.nT, rowF_things n a, a, _, rfl, .inr (SqT.of ha'), _, rfl, p2, C, d2, _, _, rfl, h2', T.cl, T.nT, rowF_things n b, b, _, rfl, .inr (SqT.of hb'), _, _, rfl, rfl, _, _, rfl, rfl, _, rfl, ?_⟩
    rw [decide_eq_true (by rw [lxm, lym, lzm]; omega)]
    refine iteF ?_
    -- there
    refine ⟨_, rfl, p3, C, d3, _, _, rfl, h3', T.cl, T.nT, rowF_things n c, _, rfl, c, zs, k, rfl, hc', O3.len1, l3, hk, hk2, fun H5 p as s5 np hp hT => ?_⟩
    have s45 := s4.trans s5
    refine ⟨p, rfl, ⟨_, SqL.of hp⟩, fun D hD => ?_⟩
    have lW := wins_length k zs
    have lasm : (as.map V.ref).length = (wins k zs).length := by rw [List.length_map]; exact hT.1
    refine lc_list (K := K) (a := p) (xs := as.map V.ref) (fun i H' => ∃ ts : List Addr, H' D = some (.lst (ts.map V.ref)) ∧ Same H5 H' ∧ TrueAt H' ts ((wins k zs).take i))
      ⟨[], upd_same, same_upd hD, TrueAt.nil _⟩ (fun i H' _ hP => let ⟨_, _, s1, _⟩ := hP; SqL.of (s1 _ _ hp)) (fun i x H6 hx hP => ?_) (fun H6 hP => ?_)
    · obtain ⟨ts, g1, s6, t6⟩ := hP
      obtain ⟨u, hu', rfl⟩ := map_ref_get hx
      obtain ⟨wd, hwd, huw⟩ := hT.get hu'
      have hu6 := s6 _ _ huw
      have hi : i < (wins k zs).length := (List.getElem?_eq_some_iff.mp hwd).1
      refine ⟨rfl, ?_⟩
      refine ⟨_, rfl, line_le (by show 2 ≤ 1000000; decide), fun t nt => ?_⟩
      have s7 := s6.trans (same_upd (o := .tup [V.ref u, V.bl true]) nt)
      have hD7 := same_upd (o := .tup [V.ref u, V.bl true]) nt _ _ g1
      have kt : Tk _ (upd (upd H6 t (.tup [V.ref u, V.bl true])) D (.lst (ts.map V.ref ++ [V.ref t]))) := tk_but hD7 (fun _ z => nomatch z) (But.upd _)
      have lt : ts.length ≤ i := by rw [t6.1, List.length_take]; omega
      refine ⟨_, hD7, line_lt (by rw [List.length_map]; omega), ts ++ [t], by rw [upd_same, List.map_append]; rfl, But.same hD s7 (But.upd _), ?_⟩
      rw [List.take_add_one, hwd]
      exact ((t6.tk (tk_same (same_upd nt))).snoc upd_same (same_upd nt _ _ hu6)).tk kt
    · obtain ⟨ts, g1, s6, t6⟩ := hP
      rw [lasm, List.take_length] at t6
      refine tNil_of ?_
      show rDictT K [V.ref D] H6 _
      refine dict_of g1 t6 fun d us ndd un um => ?_
      have s7 := (s45.trans s6).trans (same_upd (o := .dT (trues us)) ndd)
      have hd7 : (upd H6 d (.dT (trues us))) d = some (.dT (trues us)) := upd_same
      generalize upd H6 d (.dT (trues us)) = H7 at s7 hd7
      -- both
      refine ⟨_, rfl, p1, C, d1, _, _, rfl, s7 _ _ h1, T.cl, T.nT, rowF_things n a, _, rfl, a, xs, k, rfl, s7 _ _ ha, O1.len1, l1, hk, hk2, fun H8 q1 bs s8 _ hq1 hB => ?_⟩
      have s78 := s7.trans s8
      refine ⟨_, rfl, p2, C, d2, _, _, rfl, s78 _ _ h2, T.cl, T.nT, rowF_things n b, _, rfl, b, ys, k, rfl, s78 _ _ hb, O2.len1, l2, hk, hk2, fun H9 q2 cs s9 _ hq2 hC => ?_⟩
      have s79 := s78.trans s9
      have lB := wins_length k xs
      have lC := wins_length k ys
      have hBl := hB.1
      have hCl := hC.1
      refine ⟨q1, q2, _, _, rfl, rfl, s9 _ _ hq1, hq2, line_le (by rw [List.length_map, List.length_map]; omega), fun m nm => ?_⟩
      have s10 := same_upd (o := .lst (bs.map V.ref ++ cs.map V.ref)) nm
      have hm : (upd H9 m (.lst (bs.map V.ref ++ cs.map V.ref))) m = some (.lst ((bs ++ cs).map V.ref)) := by rw [upd_same, List.map_append]
      have hBC := ((hB.same s9).app hC).same s10
      have hd10 := s10 _ _ (s9 _ _ (s8 _ _ hd7))
      have s710 := s79.trans s10
      generalize upd H9 m (.lst (bs.map V.ref ++ cs.map V.ref)) = H10 at s10 hm hBC hd10 s710
      refine ⟨_, rfl, m, rfl, ⟨_, SqL.of hm⟩, fun D2 hD2 => ?_⟩
      refine lc_list (K := K) (a := m) (xs := (bs ++ cs).map V.ref) (fun i H' => H' D2 = some (.lst ((List.replicate i true).map V.bl)) ∧ Same H10 H')
        ⟨upd_same, same_upd hD2⟩ (fun i H' _ hP => SqL.of (hP.2 _ _ hm)) (fun i x H11 hx hP => ?_) (fun H11 hP => ?_)
      · obtain ⟨g2, s11⟩ := hP
        obtain ⟨u, hu', rfl⟩ := map_ref_get hx
        obtain ⟨wd, hwd, huw⟩ := hBC.get hu'
        have hi : i < (bs ++ cs).length := (List.getElem?_eq_some_iff.mp hu').1
        rw [List.length_append] at hi
        have hin : wd ∈ us := by
          rw [um]
          rcases List.mem_append.mp (List.mem_of_getElem? hwd) with z | z
          · exact I1.wins hk z
          · exact I2.wins hk z
        refine ⟨rfl, ?_⟩
        refine ⟨_, rfl, _, rfl, d, _, rfl, DGet.t (k := key wd) (s11 _ _ hd10) (by rw [key_tup]; exact s11 _ _ huw), ?_⟩
        rw [trues_get us wd, decide_eq_true hin]
        refine ⟨_, g2, line_lt (by rw [List.length_map, List.length_replicate]; omega), ?_, But.same hD2 s11 (But.upd _)⟩
        rw [upd_same, List.replicate_succ', List.map_append]
        rfl
      · obtain ⟨g2, s11⟩ := hP
        refine ⟨D2, _, rfl, SqL.of g2, ?_⟩
        rw [show (List.replicate ((bs ++ cs).map V.ref).length true).all id = true by rw [List.all_eq_true]; intro x hx; exact List.eq_of_mem_replicate hx]
        exact q H11 (s710.trans s11)
theorem gd_right (T : Txt K mg C) (IC : C8.InsC K C) (D : Df K mg "_law_laid_right" sRight) (GI : Gd P w K mg base "_law_same" 1 ["_law_found", "_law_due"] spSameI)
    (GN : Gd P w K mg base "inside_at" 1 ["one", "other"] (spInside C)) (GW : Gd P w K mg base "_law_windows" 1 ["_law_things_here", "_law_is_round", "_law_k_here"] spWinL) :
    Gd P w K mg base "_law_laid_right" 2 ["_law_one", "_law_other_here", "_law_told", "_law_n_here", "_law_k_here"] (spRight C) :=
  Gd.mk D (fun _ _ F => ok_right T IC F GI GN GW) fun _ _ _ _ _ _ us hl => match us, hl with | [_, _, _, _, _], _ => rfl
end
end K80
/-! The law's look for a shorter stretch. -/
namespace K80
open PySem PySem.Spec PyProof.Rows L2
theorem lack_drop_add {S W : List (List Int)} {f l : Nat} {w : List Int} (hn : S.Nodup) (hf : f < l) (h : W[f]? = some w) (hw : w ∈ S) (h0 : cnt W (f + 1) l w = 0) : lackN S W (f + 1) l = lackN S W f l + 1 := by
  unfold lackN
  refine (countP_turn (p := fun w => cnt W (f + 1) l w == 0) (q := fun w => cnt W f l w == 0) hn hw (by simp [h0]) ?_ fun x _ ne => ?_).symm
  · rw [cnt_tail hf h, if_pos rfl]; simp
  · rw [cnt_tail hf h, if_neg ne, Nat.add_zero]
theorem lack_drop_keep {S W : List (List Int)} {f l : Nat} {w : List Int} (hf : f < l) (h : W[f]? = some w) (hw : w ∈ S → cnt W (f + 1) l w ≠ 0) : lackN S W (f + 1) l = lackN S W f l := by
  unfold lackN
  refine countP_same fun x hx => ?_
  rw [cnt_tail hf h]
  by_cases e : x = w
  · subst e
    have := hw hx
    rw [if_pos rfl]
    rw [Bool.eq_iff_iff, beq_iff_eq, beq_iff_eq]
    omega
  · rw [if_neg e]
    rfl
/-- the counts of the turn: windows f .. l -/
def NsInv (us W : List (List Int)) (f l : Nat) (H : Hp) (g : Addr) (tv : Int) : Prop :=
  ∃ kvs : List (List Key × V), H g = some (.dT kvs) ∧ kvs.length ≤ 2 * l ∧ (∀ x ∈ us, (valV kvs (key x)).getD (.int 0) = .int (cnt W f l x : Int)) ∧ tv = (us.length : Int) - (lackN us W f l : Int)
section
variable {P : Program} {w : World} {K : PySem.W.Frag} {mg : Str → Option Value} {base : Heap} {C : Addr}
abbrev sShort : Stmt := topS 41
theorem scShort : FnScope ["_law_things_here", "_law_k_here", "_law_many", "_law_wanted", "_law_windows_here", "_law_size_here", "_law_counts", "_law_there", "_law_at", "_law_window", "_law_gone"] ["_law_things_here", "_law_k_here", "_law_many", "_law_wanted"] (defScope sShort) := ⟨rfl, rfl, rfl, by decide +kernel, rfl, by decide +kernel, by decide +kernel⟩
def spShort : Sp := fun vs H Q _ => ∃ (a d : Addr) (k bf bm : Nat) (ns : List Int) (us : List (List Int)), vs = [.ref a, .int k, .int ((bm : Int) - 1), .ref d] ∧ TupI H a ns ∧ 1 ≤ ns.length ∧ ns.length ≤ 100000 ∧ 1 ≤ k ∧ k ≤ 26 ∧
  H d = some (.dT (trues us)) ∧ us.Nodup ∧ (∀ w, w ∈ us ↔ w ∈ SS (wins k ns)) ∧ SS (wins k ns) ≠ [] ∧ LSpec k (wins k ns) bf bm ∧ ∀ H', Same H H' → Q (.bl true) H'
set_option maxHeartbeats 16000000 in
theorem ok_short (T : Txt K mg C) {f : Addr} {fd : FuncData} (F : Fun K "_law_no_shorter" "_law_no_shorter" sShort f fd) (GW : Gd P w K mg base "_law_windows" 1 ["_law_things_here", "_law_is_round", "_law_k_here"] spWinL) :
    FnOk P w K mg base CX0 2 f fd ["_law_things_here", "_law_k_here", "_law_many", "_law_wanted"] spShort := by
  refine F.ok scShort (fun vs H Q E h => ?_) (fun cdv A outer s H vs Q E hr h => ?_)
  · obtain ⟨a, d, k, bf, bm, ns, us, rfl, _⟩ := h
    rfl
  · obtain ⟨a, d, k, bf, bm, ns, us, rfl, ha, l1, l2, hk, hk2, hd, un, um, hS, L, q⟩ := h
    have nd := scShort.nd
    have hu := hu_of hr
    refine ⟨_, pss_cons (ps_set (i := 4) nd rfl (.inl rfl) (pe_g GW hr (by rfl) (pa_cons (pv 0) (pa_cons pe_bl (pa_cons (pv 1) pa_nil)))))
      (pss_cons (ps_set (i := 5) nd rfl (.inl rfl) (pe_op op_add (pe_op op_sub (pv 2) (pv 1)) pe_int))
      (pss_cons (ps_par (i := 6) (j := 7) rfl nd rfl rfl (by decide) rfl rfl (pa_cons pe_dnewT (pa_cons pe_int pa_nil)) (by rfl))
      (pss_cons (ps_for PassesOwn.never rfl (pi_enum (by rfl) T.enumerate (pa_cons (pv 4) pa_nil)) (pg_tup rfl (pgs_cons (pg_name (i := 8) nd rfl (.inl rfl)) (pgs_cons (pg_name (i := 9) nd rfl (.inl rfl)) pgs_nil)))
        (pss_cons (ps_cut (ps_if (pt_cmp (pc_din hu (pv 9) (pv 3)))
            (pss_cons (ps_set (i := 7) nd rfl (.inl rfl) (pe_op op_add (pv 7) (pe_callTy call_int1 (by rfl) T.int (by decide +kernel) (pa_cons (pe_cmpR op_eq (pe_dget2 hu (pv 6) (pv 9) pe_int ⟨rfl, rfl, rfl, rfl⟩) pe_int (nomark _)) pa_nil))))
            (pss_one (ps_dput hu (pv 6) (pv 9) (pe_op op_add (pe_dget2 hu (pv 6) (pv 9) pe_int ⟨rfl, rfl, rfl, rfl⟩) pe_int) rfl))) pss_nil))
        (pss_cons (ps_cut (ps_set (i := 10) nd rfl (.inl rfl) (pe_ifExp (pt_cmpR op_ge (pv 8) (pv 5) (nomark _)) (pe_ix ix_list (pv 4) (pe_op op_sub (pv 8) (pv 5)) (fun _ _ => rfl)) pe_non)))
        (pss_cons (ps_cut (ps_if (pt_cmp (pc_dinNT hu (pv 10) (pv 3)))
            (pss_cons (ps_dput hu (pv 6) (pv 10) (pe_op op_sub (pe_dget hu (pv 6) (pv 10) (fun _ _ => rfl)) pe_int) rfl)
            (pss_one (ps_set (i := 7) nd rfl (.inl rfl) (pe_op op_sub (pv 7) (pe_callTy call_int1 (by rfl) T.int (by decide +kernel) (pa_cons (pe_cmpR op_eq (pe_dget hu (pv 6) (pv 10) (fun _ _ => rfl)) pe_int (nomark _)) pa_nil)))))) pss_nil))
        (pss_one (ps_if (PW.pt (pw_and (pt_cmpR op_gt (pv 5) pe_int (nomark _)) (pw_and1 (pt_cmpR op_eq (pv 7) (pe_callB call_len_dT (by rfl) T.len PySem.boot_len (pa_cons (pv 3) pa_nil)) (nomark _))))) pss_never pss_nil))))))
      (pss_one (ps_ret pe_bl))))), ?_⟩
    refine ⟨_, rfl, _, rfl, a, ns, k, rfl, ha, l1, l2, hk, hk2, fun H1 p as s1 np hp hT => ?_⟩
    obtain ⟨W, hW⟩ : ∃ W, W = wins k ns := ⟨_, rfl⟩
    rw [← hW] at hT um hS L
    have lW : W.length ≤ 100000 := by rw [hW, wins_length]; omega
    have hbm : k ≤ bm := by
      rcases L with ⟨z, _, _⟩ | ⟨_, bl, _, _, e, _⟩
      · exact absurd z hS
      · omega
    obtain ⟨z, hz⟩ : ∃ z : Nat, bm = z + k := ⟨bm - k, by omega⟩
    have ez : (bm : Int) - 1 - (k : Int) + 1 = (z : Int) := by omega
    refine ⟨_, rfl, _, rfl, _, _, rfl, rfl, _, _, rfl, rfl, ?_⟩
    intro g ng
    refine ⟨_, _, rfl, ?_⟩
    have ngH : H g = none := s1.free ng
    have s2 := s1.trans (same_upd (o := .dT []) ng)
    have hp2 := same_upd (o := .dT []) ng _ _ hp
    have hT2 := hT.same (same_upd (o := .dT []) ng)
    have hg2 : (upd H1 g (.dT [])) g = some (.dT []) := upd_same
    generalize upd H1 g (.dT []) = H2 at s2 hp2 hT2 hg2
    refine ⟨_, rfl, p, _, rfl, SqL.of hp2, ?_⟩
    have lasm : (as.map V.ref).length = W.length := by rw [List.length_map]; exact hT.1
    refine for_it walk_enum (fun l σ H' => ∃ (tv : Int) (y8 y9 y10 : Option V), σ = [some (.ref a), some (.int k), some (.int ((bm : Int) - 1)), some (.ref d), some (.ref p), some (.int (z : Int)), some (.ref g), some (.int tv), y8, y9, y10] ∧
        Same H H' ∧ Tk H2 H' ∧ H' p = some (.lst (as.map V.ref)) ∧ NsInv us W (l - z) l H' g tv)
      ⟨0, none, none, none, by rw [← ez]; rfl, s2, fun _ _ e => e, hp2, [], hg2, Nat.zero_le _, fun x _ => by rw [Nat.zero_sub]; simp [cnt, seg, valV_nil], by rw [Nat.zero_sub, lack_start]; omega⟩
      (fun i σ H' _ hP => let ⟨_, _, _, _, _, _, _, e, _⟩ := hP; SqL.of e) (fun l x σ H3 H4 hl hQ hY => ?_) (fun σ H3 hQ => ?_)
    · obtain ⟨tv, y8, y9, y10, rfl, s3, tk3, hp3, hN⟩ := hQ
      obtain ⟨T1, x1, x2, rfl, nT1, rfl, e1, e2⟩ := hY
      cases e1
      obtain ⟨b, hb, rfl⟩ := map_ref_get e2
      obtain ⟨wd, hw, hbw⟩ := hT2.get hb
      rw [lasm] at hl
      have s4 := same_upd (o := .tup [V.int ((l : Nat) : Int), V.ref b]) nT1
      have hT4 : (upd H3 T1 (.tup [V.int ((l : Nat) : Int), V.ref b])) T1 = some (.tup [V.int ((l : Nat) : Int), V.ref b]) := upd_same
      have tk4 := tk3.trans (tk_same s4)
      have s34 := s3.trans s4
      have hp4 := s4 _ _ hp3
      obtain ⟨kvs, hg3, lk, hkv, htv⟩ := hN
      have hg4 := s4 _ _ hg3
      generalize upd H3 T1 (.tup [V.int ((l : Nat) : Int), V.ref b]) = H4 at s4 hT4 tk4 s34 hp4 hg4
      refine ⟨T1, _, rfl, SqT.of hT4, rfl, _, [V.ref b], rfl, _, [], rfl, rfl, ?_⟩
      have key_b : H4 b = some (.tup ((key wd).map kV)) := by rw [key_tup]; exact tk4 _ _ hbw
      have hd4 := s34 _ _ hd
      have hfl : l - z ≤ l := Nat.sub_le _ _
      -- the window comes
      refine ⟨fun σ' H' => ∃ tv' : Int, σ' = [some (.ref a), some (.int k), some (.int ((bm : Int) - 1)), some (.ref d), some (.ref p), some (.int (z : Int)), some (.ref g), some (.int tv'), some (.int ((l : Nat) : Int)), some (.ref b), y10] ∧
          Same H H' ∧ Tk H2 H' ∧ H' p = some (.lst (as.map V.ref)) ∧ ∃ kvs : List (List Key × V), H' g = some (.dT kvs) ∧ kvs.length ≤ 2 * l + 1 ∧ (∀ x ∈ us, (valV kvs (key x)).getD (.int 0) = .int (cnt W (l - z) (l + 1) x : Int)) ∧ tv' = (us.length : Int) - (lackN us W (l - z) (l + 1) : Int), ?_, ?_⟩
      · by_cases hin : wd ∈ us
        · refine ⟨_, rfl, _, rfl, d, _, rfl, DGet.t (k := key wd) hd4 key_b, _, rfl, ?_⟩
          rw [trues_get us wd, decide_eq_true hin]
          refine iteT ?_
          have gw := hkv wd hin
          refine ⟨_, rfl, _, rfl, g, rfl, .inr ⟨_, .inl hg4⟩, _, rfl, _, DGet.t (k := key wd) hg4 key_b, ?_⟩
          rw [gw]
          refine ⟨rfl, .inr ⟨_, rfl, _, _, rfl, rfl, ?_⟩⟩
          have el : tv + (if decide (V.int (cnt W (l - z) l wd : Int) = V.int 0) = true then 1 else 0) = (us.length : Int) - (lackN us W (l - z) (l + 1) : Int) := by
            by_cases hz0 : cnt W (l - z) l wd = 0
            · rw [if_pos (decide_eq_true (by rw [hz0]; rfl))]
              have := lack_add un hfl hw hin hz0
              omega
            · rw [if_neg fun q => hz0 (by have := V.int.inj (of_decide_eq_true q); omega)]
              rw [lack_keep hfl hw fun _ => hz0]
              omega
          refine ⟨_, rfl, g, rfl, .inr ⟨_, .inl hg4⟩, _, rfl, _, DGet.t (k := key wd) hg4 key_b, ?_⟩
          rw [gw]
          refine ⟨_, _, rfl, rfl, _, rfl, _, rfl, g, _, rfl, DPut.t (k := key wd) hg4 key_b (line_lt (by omega)), ?_⟩
          have b5 : But g H4 (upd H4 g (.dT (putK kvs (key wd) (V.int ((cnt W (l - z) l wd : Int) + 1))))) := But.upd _
          refine ⟨_, rfl, But.same ngH s34 b5, tk4.trans (tk_but hg4 (fun _ z => nomatch z) b5), b5 _ _ (ne_of hp4 hg4 (by intro z; cases z)) hp4, _, upd_same, Nat.le_trans (length_putK _ _ _) (by omega), fun x hx => ?_, el⟩
          rw [valV_put]
          by_cases e : x = wd
          · rw [if_pos (by rw [e]), cnt_succ hfl hw, if_pos e, e]
            rfl
          · rw [if_neg (fun q => e (key_inj q)), hkv x hx, cnt_succ hfl hw, if_neg e, Nat.add_zero]
        · refine ⟨_, rfl, _, rfl, d, _, rfl, DGet.t (k := key wd) hd4 key_b, _, rfl, ?_⟩
          rw [trues_get us wd, decide_eq_false hin]
          refine iteF ?_
          refine ⟨tv, rfl, s34, tk4, hp4, kvs, hg4, by omega, fun x hx => ?_, ?_⟩
          · rw [hkv x hx, cnt_succ hfl hw, if_neg (fun q : x = wd => hin (q ▸ hx)), Nat.add_zero]
          · rw [lack_keep hfl hw fun q => absurd q hin]
            exact htv
      · rintro σ' H5 ⟨tv', rfl, s5, tk5, hp5, kvs5, hg5, lk5, hkv5, htv5⟩
        have hd5 := s5 _ _ hd
        -- which goes
        refine ⟨fun σ' H' => H' = H5 ∧ ((∃ c, z ≤ l ∧ as[l - z]? = some c ∧ σ' = [some (.ref a), some (.int k), some (.int ((bm : Int) - 1)), some (.ref d), some (.ref p), some (.int (z : Int)), some (.ref g), some (.int tv'), some (.int ((l : Nat) : Int)), some (.ref b), some (.ref c)]) ∨
            (l < z ∧ σ' = [some (.ref a), some (.int k), some (.int ((bm : Int) - 1)), some (.ref d), some (.ref p), some (.int (z : Int)), some (.ref g), some (.int tv'), some (.int ((l : Nat) : Int)), some (.ref b), some .non])), ?_, ?_⟩
        · refine ⟨_, rfl, _, rfl, _, _, rfl, rfl, _, rfl, ite2 (fun h => ?_) (fun h => ?_)⟩
          · have hzl : z ≤ l := by have := of_decide_eq_true h; omega
            have hlw : l - z < W.length := by omega
            obtain ⟨c, hc, hcw⟩ := hT2.getW (List.getElem?_eq_getElem hlw)
            refine ⟨_, rfl, _, rfl, _, rfl, _, _, rfl, rfl, p, _, _, .ref c, rfl, rfl, SqL.of hp5, ?_, rfl, .inl ⟨c, hzl, hc, rfl⟩⟩
            rw [show (l : Int) - (z : Int) = ((l - z : Nat) : Int) by omega]
            exact atI_nat (by rw [List.getElem?_map, hc]; rfl)
          · have hzl : l < z := by
              refine Nat.lt_of_not_le fun q => h (decide_eq_true ?_)
              omega
            exact ⟨rfl, .inr ⟨hzl, rfl⟩⟩
        · rintro σ' H6 ⟨rfl, hcase⟩
          refine ⟨fun σ' H' => ∃ (tv'' : Int) (y10 : Option V), σ' = [some (.ref a), some (.int k), some (.int ((bm : Int) - 1)), some (.ref d), some (.ref p), some (.int (z : Int)), some (.ref g), some (.int tv''), some (.int ((l : Nat) : Int)), some (.ref b), y10] ∧
            Same H H' ∧ Tk H2 H' ∧ H' p = some (.lst (as.map V.ref)) ∧ NsInv us W (l + 1 - z) (l + 1) H' g tv'', ?_, ?_⟩
          · rcases hcase with ⟨c, hzl, hc, rfl⟩ | ⟨hzl, rfl⟩
            · have hlw : l - z < W.length := by omega
              obtain ⟨c', hc', hcw⟩ := hT2.getW (List.getElem?_eq_getElem hlw)
              have ec : c' = c := Option.some.inj (hc'.symm.trans hc)
              subst ec
              have hgw : W[l - z]? = some W[l - z] := List.getElem?_eq_getElem hlw
              have key_c : H6 c' = some (.tup ((key W[l - z]).map kV)) := by rw [key_tup]; exact tk5 _ _ hcw
              have ef : l + 1 - z = (l - z) + 1 := by omega
              have hf1 : l - z < l + 1 := by omega
              rw [ef]
              by_cases hin : W[l - z] ∈ us
              · refine ⟨_, rfl, _, rfl, .inl ⟨d, _, rfl, DGet.t (k := key W[l - z]) hd5 key_c, _, rfl, ?_⟩⟩
                rw [trues_get us W[l - z], decide_eq_true hin]
                refine iteT ?_
                have gw := hkv5 _ hin
                have ct := cnt_tail hf1 hgw W[l - z]
                rw [if_pos rfl] at ct
                obtain ⟨cv, hcv⟩ : ∃ cv, cv = cnt W (l - z + 1) (l + 1) W[l - z] := ⟨_, rfl⟩
                rw [← hcv] at ct
                rw [ct] at gw
                have gv : valV kvs5 (key W[l - z]) = some (.int ((cv : Int) + 1)) := by
                  cases e : valV kvs5 (key W[l - z]) with
                  | none =>
                    rw [e] at gw
                    have := V.int.inj (show V.int 0 = V.int ((cv + 1 : Nat) : Int) from gw)
                    omega
                  | some v =>
                    rw [e] at gw
                    have : v = V.int ((cv + 1 : Nat) : Int) := gw
                    rw [this]
                    rfl
                have g6 : DGet H6 g (.ref c') (some (.int ((cv : Int) + 1))) := by rw [← gv]; exact DGet.t (k := key W[l - z]) hg5 key_c
                refine ⟨_, rfl, _, rfl, g, _, rfl, g6, _, _, rfl, rfl, _, rfl, _, rfl, g, _, rfl, DPut.t (k := key W[l - z]) hg5 key_c (line_lt (by omega)), ?_⟩
                have b7 : But g H6 (upd H6 g (.dT (putK kvs5 (key W[l - z]) (V.int ((cv : Int) + 1 - 1))))) := But.upd _
                have tk7 := tk_but hg5 (fun _ z => nomatch z) b7
                have hg7 : (upd H6 g (.dT (putK kvs5 (key W[l - z]) (V.int ((cv : Int) + 1 - 1))))) g = some (.dT (putK kvs5 (key W[l - z]) (V.int ((cv : Int) + 1 - 1)))) := upd_same
                have s7 := But.same ngH s5 b7
                have hp7 := b7 _ _ (ne_of hp5 hg5 (by intro z; cases z)) hp5
                generalize upd H6 g (.dT (putK kvs5 (key W[l - z]) (V.int ((cv : Int) + 1 - 1)))) = H7 at b7 tk7 hg7 s7 hp7
                have g7 : DGet H7 g (.ref c') (some (.int ((cv : Int) + 1 - 1))) := by
                  have := DGet.t (k := key W[l - z]) hg7 (tk7 _ _ key_c)
                  rw [valV_put, if_pos rfl] at this
                  exact this
                refine ⟨_, rfl, _, rfl, _, rfl, g, _, rfl, g7, rfl, .inr ⟨_, rfl, _, _, rfl, rfl, _, _, rfl, s7, tk5.trans tk7, hp7, _, hg7, Nat.le_trans (length_putK _ _ _) (by omega), fun x hx => ?_, ?_⟩⟩
                · rw [valV_put]
                  by_cases e : x = W[l - z]
                  · rw [if_pos (by rw [e]), e, ← hcv]
                    show V.int ((cv : Int) + 1 - 1) = _
                    rw [show (cv : Int) + 1 - 1 = (cv : Int) by omega]
                  · rw [if_neg (fun q => e (key_inj q)), hkv5 x hx, cnt_tail hf1 hgw, if_neg e, Nat.add_zero]
                · by_cases hz0 : cv = 0
                  · show tv' - (if decide (V.int ((cv : Int) + 1 - 1) = V.int 0) = true then 1 else 0) = _
                    rw [if_pos (decide_eq_true (by rw [hz0]; rfl))]
                    rw [lack_drop_add un hf1 hgw hin (by rw [← hcv]; exact hz0)]
                    omega
                  · show tv' - (if decide (V.int ((cv : Int) + 1 - 1) = V.int 0) = true then 1 else 0) = _
                    rw [if_neg fun q => hz0 (by have := V.int.inj (of_decide_eq_true q); omega)]
                    rw [lack_drop_keep hf1 hgw fun _ => by rw [← hcv]; exact hz0]
                    omega
              · refine ⟨_, rfl, _, rfl, .inl ⟨d, _, rfl, DGet.t (k := key W[l - z]) hd5 key_c, _, rfl, ?_⟩⟩
                rw [trues_get us W[l - z], decide_eq_false hin]
                refine iteF ?_
                refine ⟨tv', _, rfl, s5, tk5, hp5, kvs5, hg5, by omega, fun x hx => ?_, ?_⟩
                · rw [hkv5 x hx, cnt_tail hf1 hgw, if_neg (fun q : x = W[l - z] => hin (q ▸ hx)), Nat.add_zero]
                · rw [lack_drop_keep hf1 hgw fun q => absurd q hin]
                  exact htv5
            · refine ⟨_, rfl, _, rfl, .inr ⟨d, _, rfl, rfl, hd5, _, rfl, ?_⟩⟩
              refine iteF ?_
              have e0 : l - z = 0 := by omega
              have e1 : l + 1 - z = 0 := by omega
              rw [e0] at hkv5 htv5
              rw [e1]
              exact ⟨tv', _, rfl, s5, tk5, hp5, kvs5, hg5, by omega, hkv5, htv5⟩
          · rintro σ' H7 ⟨tv7, y10', rfl, s7, tk7, hp7, hN7⟩
            refine ⟨_, rfl, _, _, rfl, rfl, _, rfl, ite2 (fun h => ?_) (fun h => ?_)⟩
            · have hz0 : 0 < z := by have := of_decide_eq_true h; omega
              refine ⟨_, rfl, _, rfl, d, _, rfl, s7 _ _ hd, rfl, _, rfl, ite2 (fun h2 => ?_) (fun h2 => ?_)⟩
              · exfalso
                obtain ⟨_, _, _, _, e7⟩ := hN7
                have e8 := V.int.inj (of_decide_eq_true h2)
                rw [trues_len] at e8
                have e9 : lackN us W (l + 1 - z) (l + 1) = 0 := by omega
                have cv := lack_zero.mp e9
                refine LSpec.lacks (f := l + 1 - z) L hS hl (by omega) (by omega) fun w hw' => cv w ((um w).mpr hw')
              · exact ⟨tv7, _, _, y10', rfl, s7, tk7, hp7, hN7⟩
            · exact ⟨tv7, _, _, y10', rfl, s7, tk7, hp7, hN7⟩
    · obtain ⟨tv, y8, y9, y10, rfl, s3, tk3, hp3, hN⟩ := hQ
      exact q H3 s3
theorem gd_short (T : Txt K mg C) (D : Df K mg "_law_no_shorter" sShort) (GW : Gd P w K mg base "_law_windows" 1 ["_law_things_here", "_law_is_round", "_law_k_here"] spWinL) :
    Gd P w K mg base "_law_no_shorter" 2 ["_law_things_here", "_law_k_here", "_law_many", "_law_wanted"] spShort :=
  Gd.mk D (fun _ _ F => ok_short T F GW) fun _ _ _ _ _ _ us hl => match us, hl with | [_, _, _, _], _ => rfl
end
end K80
/-! The law's look at a row's stretch. -/
namespace K80
open PySem PySem.Spec PyProof.Rows L2
section
variable {P : Program} {w : World} {K : PySem.W.Frag} {mg : Str → Option Value} {base : Heap} {C : Addr}
abbrev sStRight : Stmt := topS 42
theorem scStRight : FnScope ["_law_row_here", "_law_n_here", "_law_k_here", "_law_wanted", "_law_place", "_law_many", "_law_mine", "_law_told"] ["_law_row_here", "_law_n_here", "_law_k_here"] (defScope sStRight) := ⟨rfl, rfl, rfl, by decide +kernel, rfl, by decide +kernel, by decide +kernel⟩
def spStRight (C : Addr) : Sp := fun vs H Q _ => ∃ (p a : Addr) (n : Int) (k : Nat) (ns : List Int), vs = [.ref p, .int n, .int k] ∧ RowAt C H p n a ns ∧ RowOk n ns ∧ 1 ≤ k ∧ k ≤ 26 ∧ ∀ H', Same H H' → Q (.bl true) H'
/-- what the look asks of the defs -/
structure StKit (P : Program) (w : World) (K : PySem.W.Frag) (mg : Str → Option Value) (base : Heap) (C : Addr) : Prop where
  W : Gd P w K mg base "_law_windows" 1 ["_law_things_here", "_law_is_round", "_law_k_here"] spWinL
  H : Gd P w K mg base "_law_had" 1 ["_law_windows_here", "_law_k_here"] spHad
  L : Gd P w K mg base "least_stretch" 5 ["row", "k"] (spLeast C)
  I : Gd P w K mg base "_law_same" 1 ["_law_found", "_law_due"] spSameI
  T : Gd P w K mg base "_law_same" 2 ["_law_found", "_law_due"] spSameT
  S : Gd P w K mg base "_law_no_shorter" 2 ["_law_things_here", "_law_k_here", "_law_many", "_law_wanted"] spShort
  D : Gd P w K mg base "stretched" 6 ["row", "k"] (spStretched C)
theorem ok_stRight (T : Txt K mg C) {f : Addr} {fd : FuncData} (F : Fun K "_law_stretch_right" "_law_stretch_right" sStRight f fd) (G : StKit P w K mg base C) :
    FnOk P w K mg base CX0 7 f fd ["_law_row_here", "_law_n_here", "_law_k_here"] (spStRight C) := by
  refine F.ok scStRight (fun vs H Q E h => ?_) (fun cdv A outer s H vs Q E hr h => ?_)
  · obtain ⟨p, a, n, k, ns, rfl, _⟩ := h
    rfl
  · obtain ⟨p, a, n, k, ns, rfl, R, O, hk, hk2, q⟩ := h
    have nd := scStRight.nd
    have hu := hu_of hr
    obtain ⟨⟨dx, hp⟩, ha⟩ := id R
    have l1 := O.len1
    have l2 := O.len2
    refine ⟨_, pss_cons (ps_set (i := 3) nd rfl (.inl rfl) (pe_g G.H hr (by rfl) (pa_cons (pe_g G.W hr (by rfl) (pa_cons (pe_fld (pv 0) rfl) (pa_cons pe_bl (pa_cons (pv 2) pa_nil)))) (pa_cons (pv 2) pa_nil))))
      (pss_cons (ps_asg (pe_g G.L hr (by rfl) (pa_cons (pv 0) (pa_cons (pv 2) pa_nil))) (pg_tup rfl (pgs_cons (pg_name (i := 4) nd rfl (.inl rfl)) (pgs_cons (pg_name (i := 5) nd rfl (.inl rfl)) pgs_nil))))
      (pss_cons (ps_if (pt_cmpR (op_eqT hu) (pv 3) pe_dnewT (nomark _))
        (pss_one (ps_ret (pe_g G.T hr (by rfl) (pa_cons (pe_tup (pa_cons (pv 4) (pa_cons (pv 5) pa_nil))) (pa_cons (pe_tup (pa_cons pe_int (pa_cons pe_int pa_nil))) pa_nil))))) pss_nil)
      (pss_cons (ps_if (pt_not (pt_chain3 op_le op_le op_le pe_int (pv 4) (pe_op op_add (pv 4) (pv 5)) (pe_callB call_len_seq (by rfl) T.len PySem.boot_len (pa_cons (pe_fld (pv 0) rfl) pa_nil)))) pss_never pss_nil)
      (pss_cons (ps_set (i := 6) nd rfl (.inl rfl) (pe_slice sl_tupA (pe_fld (pv 0) rfl) (po_some (pv 4)) (po_some (pe_op op_add (pv 4) (pv 5)))))
      (pss_cons (ps_if (PW.pt (pw_or (pt_cmpR (op_neT hu) (pe_g G.H hr (by rfl) (pa_cons (pe_g G.W hr (by rfl) (pa_cons (pv 6) (pa_cons pe_bl (pa_cons (pv 2) pa_nil)))) (pa_cons (pv 2) pa_nil))) (pv 3) (nomark _))
          (pw_or1 (pt_not (pt_val (pe_g G.S hr (by rfl) (pa_cons (pe_fld (pv 0) rfl) (pa_cons (pv 2) (pa_cons (pe_op op_sub (pv 5) pe_int) (pa_cons (pv 3) pa_nil)))))))))) pss_never pss_nil)
      (pss_cons (ps_set (i := 7) nd rfl (.inl rfl) (pe_g G.D hr (by rfl) (pa_cons (pv 0) (pa_cons (pv 2) pa_nil))))
      (pss_one (ps_ret (pe_and (pe_g G.T hr (by rfl) (pa_cons (pe_fld (pv 7) rfl) (pa_cons (pv 6) pa_nil)))
        (pe_and (pe_g G.I hr (by rfl) (pa_cons (pe_fld (pv 7) rfl) (pa_cons (pv 1) pa_nil)))
        (pe_one (pe_g G.T hr (by rfl) (pa_cons (pe_g G.L hr (by rfl) (pa_cons (pv 7) (pa_cons (pv 2) pa_nil))) (pa_cons (pe_tup (pa_cons pe_int (pa_cons (pv 5) pa_nil))) pa_nil)))))))))))))), ?_⟩
    -- wanted
    refine ⟨_, rfl, p, C, dx, _, _, rfl, hp, T.cl, T.nT, rowF_things n a, _, rfl, a, ns, k, rfl, ha, l1, l2, hk, hk2, fun H1 w1 as s1 _ hw1 hT1 => ?_⟩
    have lW : (wins k ns).length ≤ 200000 := by rw [wins_length]; omega
    refine ⟨_, rfl, w1, k, as, wins k ns, rfl, hw1, hT1, lW, fun x hx => wins_len hk hx, hk2, fun H2 d us s2 _ hd un um => ?_⟩
    have s12 := s1.trans s2
    -- told
    refine ⟨_, rfl, _, rfl, p, a, n, ns, k, rfl, R.same s12, l2, hk, hk2, fun H3 t bf bm s3 ht L => ?_⟩
    have s13 := s12.trans s3
    have hd3 := s3 _ _ hd
    refine ⟨t, _, rfl, SqT.of ht, rfl, _, [.int (bm : Int)], rfl, _, [], rfl, rfl, ?_⟩
    refine ⟨_, rfl, ?_⟩
    intro e ne
    have se := same_upd (o := .dT []) ne
    have s14 := s13.trans se
    have hd4 := se _ _ hd3
    have he4 : (upd H3 e (.dT [])) e = some (.dT (trues [])) := upd_same
    generalize upd H3 e (.dT []) = H4 at se s14 hd4 he4
    refine ⟨d, e, us, [], rfl, rfl, hd4, he4, fun r hr' => ⟨_, rfl, ?_⟩⟩
    show if r = true then _ else _
    refine ite2 (fun h => ?_) (fun h => ?_)
    · have u0 : us = [] := List.eq_nil_of_length_eq_zero (hr'.mp h).1
      have S0 : SS (wins k ns) = [] := by
        refine List.eq_nil_iff_forall_not_mem.mpr fun x hx => ?_
        have := (um x).mpr hx
        rw [u0] at this
        cases this
      obtain ⟨b0, m0⟩ := L.empty S0
      subst b0 m0
      refine ⟨_, rfl, _, rfl, line_le (by show 2 ≤ 1000000; decide), fun t1 n1 => ?_⟩
      refine ⟨line_le (by show 2 ≤ 1000000; decide), fun t2 n2 => ?_⟩
      refine ⟨t1, t2, [0, 0], rfl, same_upd n2 _ _ upd_same, upd_same, by decide, fun H' s' => q H' (((s14.trans (same_upd n1)).trans (same_upd n2)).trans s')⟩
    · have hS : SS (wins k ns) ≠ [] := fun z => h (hr'.mpr (by
        have u0 : us = [] := List.eq_nil_iff_forall_not_mem.mpr fun x hx => by
          have := (um x).mp hx
          rw [z] at this
          cases this
        rw [u0]
        exact ⟨rfl, fun x hx => nomatch hx⟩))
      have room := L.room hk
      have bm0 : bm ≠ 0 := fun z => hS ((L.zero hk).mp z)
      have lm : (ns.map V.int).length = ns.length := List.length_map _
      refine ⟨_, rfl, _, _, rfl, rfl, _, rfl, ?_⟩
      rw [if_pos (decide_eq_true (by omega))]
      refine ⟨_, rfl, _, rfl, _, _, rfl, rfl, _, _, rfl, rfl, _, rfl, ?_⟩
      rw [if_pos (decide_eq_true (by omega))]
      refine ⟨_, rfl, p, C, dx, _, _, rfl, s14 _ _ hp, T.cl, T.nT, rowF_things n a, a, _, rfl, .inr (SqT.of (s14 _ _ ha)), _, _, rfl, rfl, _, rfl, ?_⟩
      rw [decide_eq_true (by rw [lm]; omega)]
      refine iteF ?_
      -- mine
      refine ⟨_, rfl, p, C, dx, _, _, rfl, s14 _ _ hp, T.cl, T.nT, rowF_things n a, _, rfl, _, rfl, _, rfl, _, rfl, _, _, rfl, rfl, _, rfl, ?_⟩
      refine slA (s14 _ _ ha) (cut_mid (i := bf) (j := bf + bm) rfl (by omega)) fun t5 H5 s5 ht5 => ?_
      rw [show bf + bm - bf = bm by omega] at ht5
      have s15 := s14.trans s5
      have lmine : ((ns.drop bf).take bm).length = bm := by rw [List.length_take, List.length_drop]; omega
      refine ⟨_, rfl, _, rfl, t5, (ns.drop bf).take bm, k, rfl, ht5, by omega, by omega, hk, hk2, fun H6 w6 bs s6 _ hw6 hT6 => ?_⟩
      have s16 := s15.trans s6
      refine ⟨_, rfl, w6, k, bs, wins k ((ns.drop bf).take bm), rfl, hw6, hT6, by rw [wins_length]; omega, fun x hx => wins_len hk hx, hk2, fun H7 d7 vs s7 _ hd7 vn vm => ?_⟩
      have s17 := s16.trans s7
      have hd7' := s7 _ _ (s6 _ _ (s5 _ _ hd4))
      have mem : ∀ x, x ∈ vs ↔ x ∈ us := fun x => by rw [vm, um, L.mine hk hS]
      refine ⟨_, rfl, d7, d, vs, us, rfl, rfl, hd7, hd7', fun r7 hr7 => ⟨_, rfl, ?_⟩⟩
      obtain rfl : r7 = true := hr7.mpr ⟨same_len vn un mem, fun x hx => (mem x).mp hx⟩
      refine iteF ?_
      refine ⟨_, rfl, p, C, dx, _, _, rfl, s17 _ _ hp, T.cl, T.nT, rowF_things n a, _, rfl, _, rfl, _, _, rfl, rfl, _, rfl, a, d, k, bf, bm, ns, us, rfl, s17 _ _ ha, l1, l2, hk, hk2, hd7', un, um, hS, L, fun H8 s8 => ⟨_, rfl, iteF ?_⟩⟩
      have s18 := s17.trans s8
      -- told again
      refine ⟨_, rfl, _, rfl, p, a, n, ns, k, rfl, R.same s18, O, hk, hk2, hS, fun H9 r c bf9 bm9 s9 L9 R9 O9 => ?_⟩
      obtain ⟨e1, e2⟩ := L.uniq L9
      subst e1 e2
      have s19 := s18.trans s9
      obtain ⟨⟨dr, hr9⟩, hc9⟩ := id R9
      have ht9 := s9 _ _ (s8 _ _ (s7 _ _ (s6 _ _ ht5)))
      refine ⟨_, rfl, r, C, dr, _, _, rfl, hr9, T.cl, T.nT, rowF_things n c, _, rfl, c, t5, (ns.drop bf).take bm, rfl, hc9, ht9, by omega, fun H10 s10 => ⟨_, rfl, iteT ?_⟩⟩
      refine ⟨_, rfl, r, C, dr, _, _, rfl, s10 _ _ hr9, T.cl, T.nN, rowF_n n c, _, rfl, n, rfl, _, rfl, iteT ?_⟩
      refine ⟨_, rfl, _, rfl, r, c, n, (ns.drop bf).take bm, k, rfl, R9.same s10, by omega, hk, hk2, fun H11 t11 bf11 bm11 s11 ht11 L11 => ?_⟩
      obtain ⟨e3, e4⟩ := L.again hk hS L11
      subst e3 e4
      refine ⟨_, rfl, line_le (by show 2 ≤ 1000000; decide), fun t12 n12 => ?_⟩
      exact ⟨t11, t12, [0, (bm11 : Int)], rfl, same_upd n12 _ _ ht11, upd_same, by show 2 ≤ 100000; decide, fun H' s' => q H' ((((s19.trans s10).trans s11).trans (same_upd n12)).trans s')⟩
theorem gd_stRight (T : Txt K mg C) (D : Df K mg "_law_stretch_right" sStRight) (G : StKit P w K mg base C) : Gd P w K mg base "_law_stretch_right" 7 ["_law_row_here", "_law_n_here", "_law_k_here"] (spStRight C) :=
  Gd.mk D (fun _ _ F => ok_stRight T F G) fun _ _ _ _ _ _ us hl => match us, hl with | [_, _, _], _ => rfl
end
end K80
/-! The law. -/
namespace K80
open PySem PySem.Spec PyProof.Rows L2
theorem RowAt.box {C : Addr} {H H' : Hp} {p a b : Addr} {n : Int} {ns : List Int} (hb : BoxAt H b) (s : But b H H') (r : RowAt C H p n a ns) : RowAt C H' p n a ns :=
  let ⟨_, _, _, e⟩ := hb
  r.but e s
/-- the reading of Plain(n, things), whatever comes behind it -/
theorem mk_plain2 {C : Addr} {H : Hp} {Z : Addr → Hp → Prop} {E : XK} {n : Int} {a : Addr} {ns : List Int} (R : RowOk n ns) (ha : TupI H a ns) (k : ∀ p H', Same H H' → H p = none → RowAt C H' p n a ns → Z p H') :
    ∀ x dx, H x = none → H dx = none → dx ≠ x → spInit C [.ref x, .int n, .ref a] (upd (upd H dx (.own x)) x (.ins C dx [])) (fun v H2 => v = .non ∧ Z x H2) E := by
  intro x dx nx ndx nex
  have s0 : Same H (upd (upd H dx (.own x)) x (.ins C dx [])) := fun b o e => by
    rw [upd_ne (ne_of_none e nx), upd_ne (ne_of_none e ndx)]
    exact e
  exact ⟨x, dx, a, n, ns, rfl, upd_same, R, s0 _ _ ha, fun H' r b => ⟨rfl, k x H' (fun c o e => b c o (ne_of_none e nx) (s0 c o e)) nx r⟩⟩
section
variable {P : Program} {w : World} {K : PySem.W.Frag} {mg : Str → Option Value} {base : Heap} {C : Addr}
abbrev sLaw : Stmt := topS 43
theorem scLaw : FnScope ["_law_script", "_law_cell", "_law_box_here", "_law_n_here", "_law_things_here", "_law_row_here", "_law_turn", "_law_other_here", "_law_one", "_law_k_here"] ["_law_script"] (defScope sLaw) := ⟨rfl, rfl, rfl, by decide +kernel, rfl, by decide +kernel, by decide +kernel⟩
def spLaw (K : PySem.W.Frag) : Sp := fun vs H Q _ => ∃ (a : Addr) (ns : List Int), vs = [.ref a] ∧ SqL K H a (ns.map V.int) ∧ ns.length ≤ 63 ∧ ∀ H', Q (.bl true) H'
/-- what the law asks of the defs -/
structure LawKit (P : Program) (w : World) (K : PySem.W.Frag) (mg : Str → Option Value) (base : Heap) (C : Addr) : Prop where
  B : Gd P w K mg base "_law_box" 1 ["_law_script", "_law_k_here"] (spBox K)
  T : Gd P w K mg base "_law_take" 1 ["_law_box_here", "_law_many"] spTake
  K' : Gd P w K mg base "_law_k" 2 ["_law_box_here", "_law_n_here"] spK
  R : Gd P w K mg base "_law_row" 4 ["_law_box_here", "_law_most"] spRow
  O : Gd P w K mg base "_law_other" 4 ["_law_box_here", "_law_n_here", "_law_things_here"] spOther
  P' : PlainOk P w K mg base C
  L : Gd P w K mg base "laid_over" 6 ["one", "other"] (spLaidO C)
  I : Gd P w K mg base "_law_laid_right" 2 ["_law_one", "_law_other_here", "_law_told", "_law_n_here", "_law_k_here"] (spRight C)
  S : Gd P w K mg base "_law_stretch_right" 7 ["_law_row_here", "_law_n_here", "_law_k_here"] (spStRight C)
set_option maxHeartbeats 16000000 in
theorem ok_law (T : Txt K mg C) {f : Addr} {fd : FuncData} (F : Fun K "law" "law" sLaw f fd) (G : LawKit P w K mg base C) : FnOk P w K mg base CX0 8 f fd ["_law_script"] (spLaw K) := by
  refine F.ok scLaw (fun vs H Q E h => ?_) (fun cdv A outer s H vs Q E hr h => ?_)
  · obtain ⟨a, ns, rfl, _⟩ := h
    rfl
  · obtain ⟨a, ns, rfl, hS, hlen, q⟩ := h
    have nd := scLaw.nd
    refine ⟨_, pss_cons (ps_for PassesOwn.never rfl (pi_range1 (by rfl) T.range (pa_cons (pe_op op_add pe_int (pe_callB call_len_seq (by rfl) T.len PySem.boot_len (pa_cons (pe_slice sl_list (pv 0) po_no (po_some pe_int)) pa_nil))) pa_nil)) (pg_name (i := 1) nd rfl (.inl rfl))
        (pss_cons (ps_set (i := 2) nd rfl (.inl rfl) (pe_g G.B hr (by rfl) (pa_cons (pv 0) (pa_cons (pv 1) pa_nil))))
        (pss_cons (ps_asg (pe_g G.R hr (by rfl) (pa_cons (pv 2) (pa_cons pe_int pa_nil))) (pg_tup rfl (pgs_cons (pg_name (i := 3) nd rfl (.inl rfl)) (pgs_cons (pg_name (i := 4) nd rfl (.inl rfl)) pgs_nil))))
        (pss_cons (ps_set (i := 5) nd rfl (.inl rfl) (pe_plain G.P' T hr (by rfl) (pa_cons (pv 3) (pa_cons (pv 4) pa_nil))))
        (pss_cons (ps_for PassesOwn.never rfl (pi_range1 (by rfl) T.range (pa_cons (pe_op op_add pe_int (pe_g G.T hr (by rfl) (pa_cons (pv 2) (pa_cons pe_int pa_nil)))) pa_nil)) (pg_name (i := 6) nd rfl (.inl rfl))
          (pss_cons (ps_set (i := 7) nd rfl (.inl rfl) (pe_plain G.P' T hr (by rfl) (pa_cons (pv 3) (pa_cons (pe_g G.O hr (by rfl) (pa_cons (pv 2) (pa_cons (pv 3) (pa_cons (pe_fld (pv 5) rfl) pa_nil)))) pa_nil))))
          (pss_cons (ps_par (i := 8) (j := 9) rfl nd rfl rfl (by decide) rfl rfl (pa_cons (pv 5) (pa_cons (pe_g G.K' hr (by rfl) (pa_cons (pv 2) (pa_cons (pv 3) pa_nil))) pa_nil)) (by rfl))
          (pss_cons (ps_cut (ps_if (pt_cmpR op_eq (pe_g G.T hr (by rfl) (pa_cons (pv 2) (pa_cons pe_int pa_nil))) pe_int (nomark _))
            (pss_one (ps_par (i := 8) (j := 7) rfl nd rfl rfl (by decide) rfl rfl (pa_cons (pv 7) (pa_cons (pv 8) pa_nil)) (by rfl))) pss_nil))
          (pss_cons (ps_set (i := 5) nd rfl (.inl rfl) (pe_g G.L hr (by rfl) (pa_cons (pv 8) (pa_cons (pv 7) pa_nil))))
          (pss_one (ps_if (PW.pt (pw_or (pt_not (pt_val (pe_g G.I hr (by rfl) (pa_cons (pv 8) (pa_cons (pv 7) (pa_cons (pv 5) (pa_cons (pv 3) (pa_cons (pv 9) pa_nil))))))))
            (pw_or1 (pt_not (pt_val (pe_g G.S hr (by rfl) (pa_cons (pv 5) (pa_cons (pv 3) (pa_cons (pv 9) pa_nil))))))))) pss_never pss_nil)))))))
        (pss_one (ps_if (pt_not (pt_val (pe_g G.S hr (by rfl) (pa_cons (pv 5) (pa_cons (pv 3) (pa_cons (pv 3) pa_nil)))))) pss_never pss_nil)))))))
      (pss_one (ps_ret pe_bl)), ?_⟩
    have e3 : cutV (ns.map V.int) none (some 3) = (ns.take 3).map V.int := cut_to (j := 3) rfl
    refine ⟨_, rfl, _, rfl, a, _, rfl, hS, fun p np => ?_⟩
    rw [e3]
    have s0 := same_upd (o := .lst ((ns.take 3).map V.int)) np
    have l3 : ((ns.take 3).map V.int).length ≤ 3 := by rw [List.length_map, List.length_take]; omega
    obtain ⟨m, hm⟩ : ∃ m : Nat, (1 : Int) + (((ns.take 3).map V.int).length : Int) = (m : Int) := ⟨1 + ((ns.take 3).map V.int).length, by omega⟩
    refine ⟨p, _, rfl, .inl (SqL.of upd_same), _, _, rfl, rfl, _, rfl, by omega, by omega, ?_⟩
    rw [hm, Int.toNat_natCast]
    refine for_range (lo := 0) (n := m) (fun i σ H' => ∃ y1 y2 y3 y4 y5 y6 y7 y8 y9 : Option V, σ = [some (.ref a), y1, y2, y3, y4, y5, y6, y7, y8, y9] ∧ Same H H')
      ⟨_, _, _, _, _, _, _, _, _, rfl, s0⟩ (fun i σ H1 hi hP => ?_) (fun σ H1 hP => ?_)
    · obtain ⟨y1, y2, y3, y4, y5, y6, y7, y8, y9, rfl, s1⟩ := hP
      refine ⟨_, rfl, _, rfl, a, i, ns, by rw [Int.zero_add]; rfl, s1.seq hS, fun H2 b s2 nb hb => ?_⟩
      have nbH : H b = none := s1.free nb
      have s12 := s1.trans s2
      refine ⟨_, rfl, b, 40, rfl, hb, by decide, by decide, fun n ns2 H3 t c n1 n2 l1 l2 al hb3 s3 ht hc => ?_⟩
      obtain ⟨nn, rfl⟩ : ∃ nn : Nat, n = (nn : Int) := ⟨n.toNat, by omega⟩
      refine ⟨t, _, rfl, SqT.of ht, rfl, _, [.ref c], rfl, _, [], rfl, rfl, ?_⟩
      refine ⟨_, rfl, _, rfl, ?_⟩
      have O3 : RowOk (nn : Int) ns2 := ⟨n1, n2, l1, by omega, al⟩
      refine mk_plain2 O3 hc fun r H4 s4 nr R4 => ?_
      have hb4 := hb3.same s4
      have s24 := s3.trans (same_but s4)
      refine ⟨_, rfl, b, 4, rfl, hb4, by decide, by decide, fun tk H5 t0 t1 hb5 s5 => ?_⟩
      obtain ⟨mm, hmm, hm4⟩ : ∃ m : Nat, (1 : Int) + tk = (m : Int) ∧ m ≤ 4 := ⟨(1 + tk).toNat, by omega, by omega⟩
      refine ⟨_, _, rfl, rfl, _, rfl, by omega, by omega, ?_⟩
      rw [hmm, Int.toNat_natCast]
      refine for_range (lo := 0) (n := mm) (fun j σ H' => ∃ (ρ c : Addr) (ns' : List Int) (y1 y4 y6 y7 y8 y9 : Option V), σ = [some (.ref a), y1, some (.ref b), some (.int (nn : Int)), y4, some (.ref ρ), y6, y7, y8, y9] ∧
          RowAt C H' ρ (nn : Int) c ns' ∧ RowOk (nn : Int) ns' ∧ ns'.length ≤ 300 + 900 * j ∧ BoxAt H' b ∧ But b H2 H')
        ⟨r, c, ns2, _, _, _, _, _, _, rfl, R4.box hb4 s5, O3, by omega, hb5, s24.trans s5⟩ (fun j σ H6 hj hP => ?_) (fun σ H6 hP => ?_)
      · obtain ⟨ρ, c, ns', y1, y4, y6, y7, y8, y9, rfl, R, O, lq, hb6, s6⟩ := hP
        obtain ⟨⟨dx, hρ⟩, hc6⟩ := id R
        refine ⟨_, rfl, _, rfl, _, rfl, _, rfl, ρ, C, dx, _, _, rfl, hρ, T.cl, T.nT, rowF_things (nn : Int) c, b, c, (nn : Int), ns', rfl, hb6, n1, n2, hc6, O.len1, by omega, O.all, fun ms H7 t7 m1 m2 am hb7 s7 ht7 => ?_⟩
        have O7 : RowOk (nn : Int) ms := ⟨n1, n2, m1, by omega, am⟩
        refine mk_plain2 O7 ht7 fun o H8 s8 no R8 => ?_
        have hb8 := hb7.same s8
        have R' := (R.box hb6 s7).same s8
        have s28 := (s6.trans s7).trans (same_but s8)
        refine ⟨_, rfl, _, rfl, _, rfl, b, (nn : Int), rfl, hb8, n1, n2, fun k H9 k1 k2 hb9 s9 => ⟨_, _, rfl, ?_⟩⟩
        have k26 : k ≤ 26 := by omega
        refine ⟨fun σ' H' => ∃ (p1 p2 a1 a2 : Addr) (xs ys : List Int) (y1 y4 y6 : Option V), σ' = [some (.ref a), y1, some (.ref b), some (.int (nn : Int)), y4, some (.ref ρ), y6, some (.ref p2), some (.ref p1), some (.int (k : Int))] ∧
            RowAt C H' p1 (nn : Int) a1 xs ∧ RowAt C H' p2 (nn : Int) a2 ys ∧ RowOk (nn : Int) xs ∧ RowOk (nn : Int) ys ∧ xs.length + ys.length ≤ 300 + 900 * (j + 1) ∧ BoxAt H' b ∧ But b H2 H', ?_, ?_⟩
        · refine ⟨_, rfl, b, 2, rfl, hb9, by decide, by decide, fun tw H10 w0 w1 hb10 s10 => ⟨rfl, _, rfl, ite2 (fun _ => ?_) (fun _ => ?_)⟩⟩
          · refine ⟨_, rfl, _, rfl, _, _, rfl, ?_⟩
            exact ⟨o, ρ, t7, c, ms, ns', _, _, _, rfl, (R8.box hb8 s9).box hb9 s10, (R'.box hb8 s9).box hb9 s10, O7, O, by omega, hb10, (s28.trans s9).trans s10⟩
          · exact ⟨ρ, o, c, t7, ns', ms, _, _, _, rfl, (R'.box hb8 s9).box hb9 s10, (R8.box hb8 s9).box hb9 s10, O, O7, by omega, hb10, (s28.trans s9).trans s10⟩
        · rintro σ' H10 ⟨p1, p2, a1, a2, xs, ys, y1, y4, y6, rfl, R1, R2, O1, O2, lz, hb10, s10⟩
          refine ⟨_, rfl, _, rfl, p1, p2, a1, a2, (nn : Int), xs, ys, rfl, R1, R2, O1, O2, by omega, fun H11 r11 c11 zs s11 R11 O11 I1 I2 l11 => ?_⟩
          refine ⟨_, rfl, _, rfl, _, rfl, _, rfl, _, rfl, p1, p2, r11, a1, a2, c11, (nn : Int), k, xs, ys, zs, rfl, R1.same s11, R2.same s11, R11, O1, O2, O11, I1, I2, l11, k1, k26, fun H12 s12' => ⟨_, rfl, iteF ?_⟩⟩
          refine ⟨_, rfl, _, rfl, _, rfl, r11, c11, (nn : Int), k, zs, rfl, R11.same s12', O11, k1, k26, fun H13 s13 => ⟨_, rfl, iteF ?_⟩⟩
          have sx := (s11.trans s12').trans s13
          exact ⟨r11, c11, zs, _, _, _, _, _, _, rfl, (R11.same s12').same s13, O11, by omega, hb10.same sx, s10.trans (same_but sx)⟩
      · obtain ⟨ρ, c, ns', y1, y4, y6, y7, y8, y9, rfl, R, O, lq, hb6, s6⟩ := hP
        refine ⟨_, rfl, _, rfl, _, rfl, ρ, c, (nn : Int), nn, ns', rfl, R, O, by omega, by omega, fun H7 s7 => ⟨_, rfl, iteF ?_⟩⟩
        exact ⟨_, _, _, _, _, _, _, _, _, rfl, But.same nbH s12 (s6.trans (same_but s7))⟩
    · obtain ⟨y1, y2, y3, y4, y5, y6, y7, y8, y9, rfl, s1⟩ := hP
      exact q H1
end
end K80
open PySem PySem.W PyProof.Rows in
set_option maxRecDepth 100000 in
set_option maxHeartbeats 0 in
open_top k80hd for PySem.Challenge.rw_orderrows_k80_whole_laid_and_stretched
/-! What the top has written; the law. -/
namespace K80
open PySem PySem.Spec PyProof.Rows L2
section
variable {K : PySem.W.Frag} {h : Heap} {mg : Str → Option Value} {f C : Addr} {x m qual : Str} {st : Stmt} {oc kV doc pm cdv ct : Value} {od an : Option Addr} {osl : Array (Option Value)}
theorem df_mk (X : K.In h) (G : h.Ns mainGlobals mg) (a : PySem.W.nsIn K mainGlobals x = some (some (.ref f))) (l : K.lookup f = some ⟨oc, od, .func (PySem.W.fnOf x x (defArgs st) (defBody st) (defScope st) .none kV doc pm an cdv ct), osl⟩)
    (c : PySem.W.codeIn K cdv x = true) (k : PySem.W.keepIn K (.ref f) = true) : Df K mg x st := ⟨f, _, PySem.W.mg_of X G a, fun_mk l c k⟩
theorem most_mk {t : Tok} (X : K.In h) (G : h.Ns mainGlobals mg) (a : PySem.W.nsIn K mainGlobals "MOST_THINGS" = some (some (.int 26 t))) : ∃ t, mg "MOST_THINGS" = some (.int 26 t) := ⟨t, PySem.W.mg_of X G a⟩
theorem mf_mk (a : PySem.W.findIn K (.ref C) m = some (some (.ref f))) (i : PySem.W.isFn K (.ref f) = true) (l : K.lookup f = some ⟨oc, od, .func (PySem.W.fnOf m qual (defArgs st) (defBody st) (defScope st) .none kV doc pm an cdv ct), osl⟩)
    (c : PySem.W.codeIn K cdv qual = true) (k : PySem.W.keepIn K (.ref f) = true) : Mf K C m qual st := ⟨f, _, ⟨a, i, k⟩, fun_mk l c k⟩
theorem mfD_mk {T : Addr} {tc : Value} {td : Option Addr} {tn : Nat} {tsl : Array (Option Value)} (a : PySem.W.findIn K (.ref C) m = some (some (.ref f))) (i : PySem.W.isFn K (.ref f) = true)
    (l : K.lookup f = some ⟨oc, od, .func (PySem.W.fnOf m qual (defArgs st) (defBody st) (defScope st) (.ref T) kV doc pm an cdv ct), osl⟩)
    (c : PySem.W.codeIn K cdv qual = true) (k : PySem.W.keepIn K (.ref f) = true) (t : K.lookup T = some ⟨tc, td, .seq #[Value.none] tn, tsl⟩) : MfD K C m qual st [.non] :=
  ⟨f, _, ⟨a, i, k⟩, ⟨⟨oc, od, _, kV, doc, pm, an, cdv, ct, osl, rfl, l, c, .inr ⟨(fun z => (nomatch z)), T, _, [Value.none], tn, rfl, t, rfl, .cons rfl .nil⟩, .inl rfl⟩, k⟩⟩
theorem mi_mk (mk : PySem.W.makesIn K C = true) (a : PySem.W.findIn K (.ref C) "__init__" = some (some (.ref f))) (i : PySem.W.isFn K (.ref f) = true) (kc : PySem.W.keepIn K (.ref C) = true)
    (l : K.lookup f = some ⟨oc, od, .func (PySem.W.fnOf "__init__" qual (defArgs st) (defBody st) (defScope st) .none kV doc pm an cdv ct), osl⟩) (c : PySem.W.codeIn K cdv qual = true) (k : PySem.W.keepIn K (.ref f) = true) :
    ∃ f fd, Mk K C f ∧ Fun K "__init__" qual st f fd := ⟨f, _, ⟨mk, a, i, kc⟩, fun_mk l c k⟩
end
/-- the defs and methods behind the top -/
structure Top (K : PySem.W.Frag) (mg : Str → Option Value) (C : Addr) : Prop where
  dTake : Df K mg "_law_take" sTake
  dBox : Df K mg "_law_box" sBox
  dN : Df K mg "_law_n" sN
  dK : Df K mg "_law_k" sK
  dSize : Df K mg "_law_size" sSize
  dLaid : Df K mg "_law_laid" sLaid
  dMade : Df K mg "_law_made" sMade
  dThings : Df K mg "_law_things" sThings
  dRow : Df K mg "_law_row" sRow
  dOther : Df K mg "_law_other" sOther
  dWhole : Df K mg "is_whole" sWhole
  dBelow : Df K mg "is_below" sBelow
  dCan : Df K mg "can_be_row" sCan
  dUnlike : Df K mg "are_unlike" sUnlike
  dInside : Df K mg "inside_at" sInside
  dEnd : Df K mg "common_end" sEnd
  dLaidO : Df K mg "laid_over" sLaidO
  dLeast : Df K mg "least_stretch" sLeast
  dStretched : Df K mg "stretched" sStretched
  dWinL : Df K mg "_law_windows" sWinL
  dSame : Df K mg "_law_same" sSame
  dHad : Df K mg "_law_had" sHad
  dRight : Df K mg "_law_laid_right" sRight
  dShort : Df K mg "_law_no_shorter" sShort
  dStRight : Df K mg "_law_stretch_right" sStRight
  mWide : Mf K C "wide" "Row.wide" sWide
  mRound : Mf K C "goes_round" "Plain.goes_round" sRound
  mMany : Mf K C "how_many" "Row.how_many" sMany
  mWinAt : Mf K C "window_at" "Row.window_at" sWinAt
  mWindows : MfD K C "windows" "Row.windows" sWindows [.non]
  mStands : MfD K C "stands" "Row.stands" sStands [.non]
  init : ∃ f fd, Mk K C f ∧ Fun K "__init__" "Row.__init__" sInit f fd
theorem kit_self {K : PySem.W.Frag} {C : Addr} : PySem.W.kitOne K (.ref C) (.ref C) = some true := if_pos (beq_self_eq_true _)
theorem law_all {P : Program} {w : World} {K : PySem.W.Frag} {mg : Str → Option Value} {base : Heap} {C f : Addr} {fd : FuncData} (T : Txt K mg C) (IC : C8.InsC K C) (D : Top K mg C) (F : Fun K "law" "law" sLaw f fd) :
    FnOk P w K mg base CX0 8 f fd ["_law_script"] (spLaw K) := by
  have gTake := gd_take (P := P) (w := w) (base := base) D.dTake
  have gBox := gd_box (P := P) (w := w) (base := base) T D.dBox
  have gN := gd_n D.dN gTake
  have gK := gd_k T D.dK gTake
  have gSize := gd_size T D.dSize gTake
  have gLaid := gd_laidL (P := P) (w := w) (base := base) T D.dLaid
  have gMade := gd_made T D.dMade gLaid
  have gThings := gd_things T D.dThings gTake gSize gMade
  have gRow := gd_row T D.dRow gTake gN gThings
  have gOther := gd_other T D.dOther gTake gThings
  have gWhole := gd_whole (P := P) (w := w) (base := base) T D.dWhole
  have gBelow := gd_below D.dBelow gWhole
  have gCan := gd_can T D.dCan gWhole gBelow
  have gUnlike := gd_unlike (P := P) (w := w) (base := base) T D.dUnlike
  have gPlain := plain_ok T gCan D.init
  have gWide := gm_wide (P := P) (w := w) (mg := mg) (base := base) D.mWide
  have gRound := gm_round (P := P) (w := w) (mg := mg) (base := base) D.mRound
  have gMany := gm_many T D.mMany gRound
  have gWinAt := gm_winAt (P := P) (w := w) (base := base) T D.mWinAt
  have gWindows := gm_windows T D.mWindows gWide gMany gWinAt
  have gStands := gm_stands T D.mStands gWindows gUnlike
  have gInside := gd_inside (P := P) (w := w) (base := base) T D.dInside
  have gEnd := gd_end (P := P) (w := w) (base := base) T D.dEnd
  have gLaidO := gd_laidO T D.dLaidO gInside gEnd gPlain
  have gLeast := gd_least T D.dLeast gWindows gStands
  have gStretched := gd_stretched T D.dStretched gLeast gPlain
  have gWinL := gd_winL (P := P) (w := w) (base := base) T D.dWinL
  have gSameI := gd_sameI (P := P) (w := w) (base := base) T D.dSame
  have gSameT := gd_sameT T D.dSame gSameI
  have gHad := gd_had (P := P) (w := w) (base := base) T D.dHad
  have gRight := gd_right T IC D.dRight gSameI gInside gWinL
  have gShort := gd_short T D.dShort gWinL
  have gStRight := gd_stRight T D.dStRight ⟨gWinL, gHad, gLeast, gSameI, gSameT, gShort, gStretched⟩
  exact ok_law T F ⟨gBox, gTake, gK, gRow, gOther, gPlain, gLaidO, gRight, gStRight⟩
theorem end_all {l : PySem.W.OpenLaw} {w : World} {K : PySem.W.Frag} {h : Heap} {mg : Str → Option Value} {fa C f : Addr} (X : K.In h) (G : h.Ns mainGlobals mg) (hfa : mg "law" = some (.ref fa))
    {oc kV doc pm cdv ct : Value} {od an : Option Addr} {osl : Array (Option Value)}
    (a : PySem.W.nsIn K mainGlobals "law" = some (some (.ref f))) (lk : K.lookup f = some ⟨oc, od, .func (PySem.W.fnOf "law" "law" (defArgs sLaw) (defBody sLaw) (defScope sLaw) .none kV doc pm an cdv ct), osl⟩)
    (c : PySem.W.codeIn K cdv "law" = true) (k : PySem.W.keepIn K (.ref f) = true) (T : Txt K mg C) (IC : C8.InsC K C) (D : Top K mg C) :
    ∃ fd : FuncData, (∀ (s : Shared) (v : Value), BindsTo s fd ⟨[v], []⟩ [("_law_script", v)]) ∧ ∀ base : Heap, K.In base → base.Ns mainGlobals mg → FnOk l.prog w K mg base CX0 8 fa fd ["_law_script"] (spLaw K) := by
  have e := hfa.symm.trans (PySem.W.mg_of X G a)
  cases e
  exact ⟨PySem.W.fnOf "law" "law" (defArgs sLaw) (defBody sLaw) (defScope sLaw) .none kV doc pm an cdv ct, fun s v => .of_eq rfl, fun base _ _ => law_all T IC D (fun_mk (st := sLaw) lk c k)⟩
theorem walk {l : PySem.W.OpenLaw} {q : Program} {loose : List Str} {XP : (Str → Option Value) → Heap → Prop} {YP : World → Heap → Prop} {d : DefRec} {K : Params → PySem.W.Frag} (hn : l.most = some 63) (hdf : d.params.defaults = [])
    (hY : ∀ (w : World) (h : Heap), YP w h → (K w.params).In h)
    (F : ∀ (w : World) (mg : Str → Option Value) (fa : Addr) (h : Heap), (K w.params).In h → h.Ns mainGlobals mg → mg d.name = some (.ref fa) →
      ∃ fd : FuncData, (∀ (s : Shared) (u : Value), BindsTo s fd ⟨[u], []⟩ [("_law_script", u)]) ∧ ∀ base : Heap, (K w.params).In base → base.Ns mainGlobals mg → FnOk l.prog w (K w.params) mg base CX0 8 fa fd ["_law_script"] (spLaw (K w.params))) :
    PySem.W.WalkO q loose XP YP l.row.toRowW d [] (fun f vs => PySem.call f vs) :=
  L2.walk_of (n := 63) (k := 8) (x := "_law_script") (CX := fun _ => CX0) (sp := fun w => spLaw (K w.params)) hn (by decide) hdf ⟨rfl, by decide, by decide⟩ hY F (fun _ _ a ns hl _ hS => ⟨a, ns, rfl, hS, hl, fun _ => rfl⟩) fun _ _ _ _ _ z => z
end K80

open PySem PySem.W PyProof.Rows in
set_option maxRecDepth 100000 in
set_option maxHeartbeats 0 in
theorem PySem.Challenge.cw_orderrows_k80_whole_laid_and_stretched_holds : PySem.Challenge.rw_orderrows_k80_whole_laid_and_stretched.Holds := by
  refine k80hd ?_
  k_fill
  refine K80.walk (l := PySem.Challenge.rw_orderrows_k80_whole_laid_and_stretched) rfl rfl (fun w h Y => PySem.W.kIn_of Y) ?F
  case F =>
    intro w mg fa h KX G hmg
    refine' K80.end_all KX G hmg ?a0 ?l0 ?c0 ?k0
      ⟨⟨?pg, ?hd, ?po, ?sa⟩, ?nN, ?nT, PySem.W.mg_of KX G ?aC, K80.most_mk KX G ?aM, PySem.W.mg_none_of KX G ?zabs, PySem.W.mg_none_of KX G ?zlen, PySem.W.mg_none_of KX G ?zmin, PySem.W.mg_none_of KX G ?zmax, PySem.W.mg_none_of KX G ?zrange, PySem.W.mg_none_of KX G ?zset, PySem.W.mg_none_of KX G ?ztuple, PySem.W.mg_none_of KX G ?zlist, PySem.W.mg_none_of KX G ?zint, PySem.W.mg_none_of KX G ?zbool, PySem.W.mg_none_of KX G ?zdict, PySem.W.mg_none_of KX G ?zisinstance, PySem.W.mg_none_of KX G ?zall, PySem.W.mg_none_of KX G ?zzip, PySem.W.mg_none_of KX G ?zenumerate⟩
      ⟨⟨?pg, ?hd, ?po, ?sa⟩, ?ha, ?hn, ?htk, ?hm, K80.kit_self⟩
      ⟨K80.df_mk KX G ?aTake ?lTake ?cTake ?kTake,
        K80.df_mk KX G ?aBox ?lBox ?cBox ?kBox,
        K80.df_mk KX G ?aN ?lN ?cN ?kN,
        K80.df_mk KX G ?aK ?lK ?cK ?kK,
        K80.df_mk KX G ?aSize ?lSize ?cSize ?kSize,
        K80.df_mk KX G ?aLaid ?lLaid ?cLaid ?kLaid,
        K80.df_mk KX G ?aMade ?lMade ?cMade ?kMade,
        K80.df_mk KX G ?aThings ?lThings ?cThings ?kThings,
        K80.df_mk KX G ?aRow ?lRow ?cRow ?kRow,
        K80.df_mk KX G ?aOther ?lOther ?cOther ?kOther,
        K80.df_mk KX G ?aWhole ?lWhole ?cWhole ?kWhole,
        K80.df_mk KX G ?aBelow ?lBelow ?cBelow ?kBelow,
        K80.df_mk KX G ?aCan ?lCan ?cCan ?kCan,
        K80.df_mk KX G ?aUnlike ?lUnlike ?cUnlike ?kUnlike,
        K80.df_mk KX G ?aInside ?lInside ?cInside ?kInside,
        K80.df_mk KX G ?aEnd ?lEnd ?cEnd ?kEnd,
        K80.df_mk KX G ?aLaidO ?lLaidO ?cLaidO ?kLaidO,
        K80.df_mk KX G ?aLeast ?lLeast ?cLeast ?kLeast,
        K80.df_mk KX G ?aStretched ?lStretched ?cStretched ?kStretched,
        K80.df_mk KX G ?aWinL ?lWinL ?cWinL ?kWinL,
        K80.df_mk KX G ?aSame ?lSame ?cSame ?kSame,
        K80.df_mk KX G ?aHad ?lHad ?cHad ?kHad,
        K80.df_mk KX G ?aRight ?lRight ?cRight ?kRight,
        K80.df_mk KX G ?aShort ?lShort ?cShort ?kShort,
        K80.df_mk KX G ?aStRight ?lStRight ?cStRight ?kStRight,
        K80.mf_mk ?maWide ?miWide ?mlWide ?mcWide ?mkWide,
        K80.mf_mk ?maRound ?miRound ?mlRound ?mcRound ?mkRound,
        K80.mf_mk ?maMany ?miMany ?mlMany ?mcMany ?mkMany,
        K80.mf_mk ?maWinAt ?miWinAt ?mlWinAt ?mcWinAt ?mkWinAt,
        K80.mfD_mk ?maWindows ?miWindows ?mlWindows ?mcWindows ?mkWindows ?mtWindows,
        K80.mfD_mk ?maStands ?miStands ?mlStands ?mcStands ?mkStands ?mtStands,
        K80.mi_mk ?mk ?aI ?iI ?kc ?lI ?cI ?kI⟩
    (case aC => k_is); (case a0 => k_is); (case l0 => k_is); (case c0 => k_is); (case k0 => k_is); (case pg => k_is); (case hd => k_is); (case po => k_is)
    (case sa => k_is); (case nN => show PySem.W.findIn _ _ _ = some none; k_is); (case nT => show PySem.W.findIn _ _ _ = some none; k_is); (case aM => k_is); (case zabs => k_is); (case zlen => k_is); (case zmin => k_is); (case zmax => k_is)
    (case zrange => k_is); (case zset => k_is); (case ztuple => k_is); (case zlist => k_is); (case zint => k_is); (case zbool => k_is); (case zdict => k_is); (case zisinstance => k_is)
    (case zall => k_is); (case zzip => k_is); (case zenumerate => k_is); (case ha => k_is); (case hn => k_is); (case htk => k_is); (case hm => k_is); (case aTake => k_is)
    (case lTake => k_is); (case cTake => k_is); (case kTake => k_is); (case aBox => k_is); (case lBox => k_is); (case cBox => k_is); (case kBox => k_is); (case aN => k_is)
    (case lN => k_is); (case cN => k_is); (case kN => k_is); (case aK => k_is); (case lK => k_is); (case cK => k_is); (case kK => k_is); (case aSize => k_is)
    (case lSize => k_is); (case cSize => k_is); (case kSize => k_is); (case aLaid => k_is); (case lLaid => k_is); (case cLaid => k_is); (case kLaid => k_is); (case aMade => k_is)
    (case lMade => k_is); (case cMade => k_is); (case kMade => k_is); (case aThings => k_is); (case lThings => k_is); (case cThings => k_is); (case kThings => k_is); (case aRow => k_is)
    (case lRow => k_is); (case cRow => k_is); (case kRow => k_is); (case aOther => k_is); (case lOther => k_is); (case cOther => k_is); (case kOther => k_is); (case aWhole => k_is)
    (case lWhole => k_is); (case cWhole => k_is); (case kWhole => k_is); (case aBelow => k_is); (case lBelow => k_is); (case cBelow => k_is); (case kBelow => k_is); (case aCan => k_is)
    (case lCan => k_is); (case cCan => k_is); (case kCan => k_is); (case aUnlike => k_is); (case lUnlike => k_is); (case cUnlike => k_is); (case kUnlike => k_is); (case aInside => k_is)
    (case lInside => k_is); (case cInside => k_is); (case kInside => k_is); (case aEnd => k_is); (case lEnd => k_is); (case cEnd => k_is); (case kEnd => k_is); (case aLaidO => k_is)
    (case lLaidO => k_is); (case cLaidO => k_is); (case kLaidO => k_is); (case aLeast => k_is); (case lLeast => k_is); (case cLeast => k_is); (case kLeast => k_is); (case aStretched => k_is)
    (case lStretched => k_is); (case cStretched => k_is); (case kStretched => k_is); (case aWinL => k_is); (case lWinL => k_is); (case cWinL => k_is); (case kWinL => k_is); (case aSame => k_is)
    (case lSame => k_is); (case cSame => k_is); (case kSame => k_is); (case aHad => k_is); (case lHad => k_is); (case cHad => k_is); (case kHad => k_is); (case aRight => k_is)
    (case lRight => k_is); (case cRight => k_is); (case kRight => k_is); (case aShort => k_is); (case lShort => k_is); (case cShort => k_is); (case kShort => k_is); (case aStRight => k_is)
    (case lStRight => k_is); (case cStRight => k_is); (case kStRight => k_is); (case maWide => k_is); (case miWide => k_is); (case mlWide => k_is); (case mcWide => k_is); (case mkWide => k_is)
    (case maRound => k_is); (case miRound => k_is); (case mlRound => k_is); (case mcRound => k_is); (case mkRound => k_is); (case maMany => k_is); (case miMany => k_is); (case mlMany => k_is)
    (case mcMany => k_is); (case mkMany => k_is); (case maWinAt => k_is); (case miWinAt => k_is); (case mlWinAt => k_is); (case mcWinAt => k_is); (case mkWinAt => k_is); (case maWindows => k_is)
    (case miWindows => k_is); (case mlWindows => k_is); (case mcWindows => k_is); (case mkWindows => k_is); (case mtWindows => k_is); (case maStands => k_is); (case miStands => k_is); (case mlStands => k_is)
    (case mcStands => k_is); (case mkStands => k_is); (case mtStands => k_is); (case mk => k_is); (case aI => k_is); (case iI => k_is); (case kc => k_is); (case lI => k_is)
    (case cI => k_is); (case kI => k_is)
