import PyProof.Rows.All
import Wide.All
import OpenK.AllK
import Wide.FinOn
import HandS.ForMost
import HandS.More
import HandS.Conv
import HandS.Deep
import HandS.Zip
import HandS.IsInst
import HandS.ListItems
import HandS.DictComp
import HandS.Finally
import HandS.SetKeys
import KE.SortData
import KE.DataCmp
import KE.KDictKeyed
import KE.KDictList
import KE.GoesEnum
import KE.KDictDisplayH
import PySem.Challenge.RW_neverjoin_k39_whole_readings_counted_by
set_option linter.all false
/-! Texts, comings, readings: core Lean alone. -/
namespace Nj
abbrev Tx := List Nat

/-! ### counting -/
theorem countP_le_one {α : Type} {p : α → Bool} : ∀ {l : List α}, l.Pairwise (fun a b => ¬ (p a = true ∧ p b = true)) → l.countP p ≤ 1
  | [], _ => by simp
  | a :: l, h => by
    rw [List.pairwise_cons] at h
    rw [List.countP_cons]
    by_cases ha : p a = true
    · have : l.countP p = 0 := by
        rw [List.countP_eq_zero]
        intro b hb hp
        exact h.1 b hb ⟨ha, hp⟩
      rw [this, if_pos ha]
      omega
    · have := countP_le_one h.2
      rw [if_neg ha]
      omega
theorem countP_two {α : Type} {p : α → Bool} : ∀ {l : List α} {a b : α}, a ∈ l → b ∈ l → a ≠ b → p a = true → p b = true → 2 ≤ l.countP p
  | [], _, _, h, _, _, _, _ => by simp at h
  | c :: l, a, b, ha, hb, ne, pa, pb => by
    rw [List.countP_cons]
    rcases List.mem_cons.mp ha with ea | ha'
    · rcases List.mem_cons.mp hb with eb | hb'
      · exact absurd (ea.trans eb.symm) ne
      · have : 0 < l.countP p := List.countP_pos_iff.mpr ⟨b, hb', pb⟩
        rw [if_pos (by rw [← ea]; exact pa)]
        omega
    · rcases List.mem_cons.mp hb with eb | hb'
      · have : 0 < l.countP p := List.countP_pos_iff.mpr ⟨a, ha', pa⟩
        rw [if_pos (by rw [← eb]; exact pb)]
        omega
      · have := countP_two ha' hb' ne pa pb
        omega
theorem countP_range_succ (p : Nat → Bool) (n : Nat) : (List.range (n + 1)).countP p = (if p 0 = true then 1 else 0) + (List.range n).countP fun k => p (k + 1) := by
  rw [List.range_succ_eq_map, List.countP_cons, List.countP_map, Nat.add_comm]
  rfl
theorem countP_congr' {p q : Nat → Bool} {n : Nat} (h : ∀ k, k < n → p k = q k) : (List.range n).countP p = (List.range n).countP q :=
  List.countP_congr fun k hk => by rw [h k (List.mem_range.mp hk)]

/-! ### words that begin, that end, that come -/
/-- how many beginnings (not empty) are words -/
def pre (p : Tx → Bool) (t : Tx) : Nat := (List.range t.length).countP fun k => p (t.take (k + 1))
/-- how many endings (not empty) are words -/
def suf (p : Tx → Bool) (t : Tx) : Nat := (List.range t.length).countP fun k => p (t.drop k)
/-- how often words come -/
def occ (p : Tx → Bool) : Tx → Nat
  | [] => 0
  | a :: t => pre p (a :: t) + occ p t
def b2n (b : Bool) : Nat := if b = true then 1 else 0
theorem suf_cons (p : Tx → Bool) (a : Nat) (t : Tx) : suf p (a :: t) = b2n (p (a :: t)) + suf p t := by
  unfold suf
  rw [List.length_cons, countP_range_succ]
  rfl
theorem pre_snoc (p : Tx → Bool) (a : Nat) (t : Tx) : pre p (t ++ [a]) = pre p t + b2n (p (t ++ [a])) := by
  unfold pre
  rw [List.length_append, List.length_singleton, List.range_succ, List.countP_append, List.countP_cons, List.countP_nil]
  have e : (List.range t.length).countP (fun k => p ((t ++ [a]).take (k + 1))) = (List.range t.length).countP fun k => p (t.take (k + 1)) :=
    countP_congr' fun k hk => by rw [List.take_append_of_le_length (by omega)]
  have e2 : (t ++ [a]).take (t.length + 1) = t ++ [a] := List.take_of_length_le (by simp)
  rw [e, e2]
  unfold b2n
  omega
theorem occ_snoc (p : Tx → Bool) (a : Nat) : ∀ t : Tx, occ p (t ++ [a]) = occ p t + suf p (t ++ [a])
  | [] => by
    show pre p [a] + 0 = 0 + suf p [a]
    unfold pre suf
    simp [List.range_succ]
  | b :: t => by
    show pre p (b :: (t ++ [a])) + occ p (t ++ [a]) = pre p (b :: t) + occ p t + suf p (b :: (t ++ [a]))
    have h1 : pre p (b :: (t ++ [a])) = pre p (b :: t) + b2n (p (b :: (t ++ [a]))) := pre_snoc p a (b :: t)
    rw [h1, suf_cons, occ_snoc p a t]
    omega
theorem occ_both (p : Tx → Bool) (x y : Nat) (t : Tx) : occ p (x :: (t ++ [y])) + occ p t = occ p (x :: t) + occ p (t ++ [y]) + b2n (p (x :: (t ++ [y]))) := by
  have h1 : pre p (x :: (t ++ [y])) = pre p (x :: t) + b2n (p (x :: (t ++ [y]))) := pre_snoc p y (x :: t)
  show pre p (x :: (t ++ [y])) + occ p (t ++ [y]) + occ p t = pre p (x :: t) + occ p t + occ p (t ++ [y]) + _
  omega

/-- no word begins or ends another one -/
structure Bif (p : Tx → Bool) : Prop where
  ne : p [] = false
  pf : ∀ u v, p u = true → p v = true → u <+: v → u = v
  sf : ∀ u v, p u = true → p v = true → u <:+ v → u = v
theorem pairwise_range {R : Nat → Nat → Prop} (n : Nat) (h : ∀ i j, i < j → j < n → R i j) : (List.range n).Pairwise R := by
  induction n with
  | zero => exact List.Pairwise.nil
  | succ n ih =>
    rw [List.range_succ, List.pairwise_append]
    refine ⟨ih fun i j h1 h2 => h i j h1 (by omega), List.pairwise_singleton _ _, fun a ha b hb => ?_⟩
    have : b = n := by simpa using hb
    have := List.mem_range.mp ha
    exact h a b (by omega) (by omega)
theorem Bif.pre_le {p : Tx → Bool} (B : Bif p) (t : Tx) : pre p t ≤ 1 := by
  refine countP_le_one (pairwise_range _ fun i j h1 h2 ⟨pi, pj⟩ => ?_)
  have hp : t.take (i + 1) <+: t.take (j + 1) := ⟨(t.take (j + 1)).drop (i + 1), by
    have : t.take (i + 1) = (t.take (j + 1)).take (i + 1) := by rw [List.take_take, Nat.min_eq_left (by omega)]
    rw [this]
    exact List.take_append_drop _ _⟩
  have e := congrArg List.length (B.pf _ _ pi pj hp)
  rw [List.length_take, List.length_take] at e
  omega
theorem Bif.suf_le {p : Tx → Bool} (B : Bif p) (t : Tx) : suf p t ≤ 1 := by
  refine countP_le_one (pairwise_range _ fun i j h1 h2 ⟨pi, pj⟩ => ?_)
  have hp : t.drop j <:+ t.drop i := ⟨(t.drop i).take (j - i), by
    have : t.drop j = (t.drop i).drop (j - i) := by rw [List.drop_drop]; congr 1; omega
    rw [this]
    exact List.take_append_drop _ _⟩
  have e := congrArg List.length (B.sf _ _ pj pi hp)
  rw [List.length_drop, List.length_drop] at e
  omega
theorem Bif.of {p : Tx → Bool} (h0 : p [] = false) (h1 : ∀ t, p t = true → pre p t ≤ 1) (h2 : ∀ t, p t = true → suf p t ≤ 1) : Bif p := by
  have ne : ∀ u, p u = true → u ≠ [] := fun u hu e => by rw [e, h0] at hu; cases hu
  refine ⟨h0, fun u v pu pv ⟨r, e⟩ => ?_, fun u v pu pv ⟨r, e⟩ => ?_⟩
  · cases r with
    | nil => simpa using e
    | cons a r =>
      exfalso
      have hl : u.length + (r.length + 1) = v.length := by rw [← e]; simp
      have hu : 0 < u.length := List.length_pos_iff.mpr (ne u pu)
      have : 2 ≤ pre p v := countP_two (a := u.length - 1) (b := v.length - 1) (List.mem_range.mpr (by omega)) (List.mem_range.mpr (by omega)) (by omega)
        (by show p (v.take (u.length - 1 + 1)) = true; rw [Nat.sub_add_cancel hu, ← e, List.take_left]; exact pu)
        (by show p (v.take (v.length - 1 + 1)) = true; rw [Nat.sub_add_cancel (by omega), List.take_length]; exact pv)
      have := h1 v pv
      omega
  · cases r with
    | nil => simpa using e
    | cons a r =>
      exfalso
      have hl : (r.length + 1) + u.length = v.length := by rw [← e, List.length_append, List.length_cons]
      have hu : 0 < u.length := List.length_pos_iff.mpr (ne u pu)
      have : 2 ≤ suf p v := countP_two (a := v.length - u.length) (b := 0) (List.mem_range.mpr (by omega)) (List.mem_range.mpr (by omega)) (by omega)
        (by
          show p (v.drop (v.length - u.length)) = true
          have : v.length - u.length = (a :: r).length := by rw [List.length_cons]; omega
          rw [this, ← e, List.drop_left]; exact pu)
        (by show p (v.drop 0) = true; rw [List.drop_zero]; exact pv)
      have := h2 v pv
      omega
theorem occ_le {p : Tx → Bool} (B : Bif p) : ∀ t, occ p t ≤ t.length
  | [] => by simp [occ]
  | a :: t => by
    have h1 := occ_le B t
    have h2 := B.pre_le (a :: t)
    show pre p (a :: t) + occ p t ≤ _
    rw [List.length_cons]
    omega
/-- the readings of a text -/
def cnt (p : Tx → Bool) (t : Tx) : Nat := t.length + 1 - occ p t
theorem cnt_nil (p : Tx → Bool) : cnt p [] = 1 := rfl
theorem cnt_snoc {p : Tx → Bool} (B : Bif p) (t : Tx) (a : Nat) : cnt p (t ++ [a]) + suf p (t ++ [a]) = cnt p t + 1 := by
  have h1 := occ_le B t
  have h2 := occ_snoc p a t
  have h3 := occ_le B (t ++ [a])
  unfold cnt
  rw [List.length_append, List.length_singleton] at *
  omega
theorem cnt_cons {p : Tx → Bool} (B : Bif p) (a : Nat) (t : Tx) : cnt p (a :: t) + pre p (a :: t) = cnt p t + 1 := by
  have h1 := occ_le B t
  have h2 : occ p (a :: t) = pre p (a :: t) + occ p t := rfl
  have h3 := occ_le B (a :: t)
  unfold cnt
  rw [List.length_cons] at *
  omega
theorem cnt_both {p : Tx → Bool} (B : Bif p) (x y : Nat) (t : Tx) : cnt p (x :: (t ++ [y])) + cnt p t + b2n (p (x :: (t ++ [y]))) = cnt p (x :: t) + cnt p (t ++ [y]) := by
  have h1 := occ_le B t
  have h2 := occ_both p x y t
  have h3 := occ_le B (x :: (t ++ [y]))
  have h4 := occ_le B (x :: t)
  have h5 := occ_le B (t ++ [y])
  unfold cnt
  simp only [List.length_append, List.length_singleton, List.length_cons, List.length_nil] at *
  omega
theorem cnt_pos {p : Tx → Bool} (B : Bif p) (t : Tx) : 1 ≤ cnt p t := by
  have := occ_le B t
  unfold cnt
  omega
theorem cnt_app {p : Tx → Bool} (B : Bif p) (t : Tx) : ∀ r : Tx, cnt p t ≤ cnt p (t ++ r) := by
  intro r
  induction r generalizing t with
  | nil => simp
  | cons a r ih =>
    have h1 := cnt_snoc B t a
    have h2 := B.suf_le (t ++ [a])
    have h3 := ih (t ++ [a])
    rw [List.append_assoc] at h3
    simp only [List.singleton_append] at h3
    omega
theorem cnt_ahead {p : Tx → Bool} (B : Bif p) (t : Tx) : ∀ r : Tx, cnt p t ≤ cnt p (r ++ t)
  | [] => by simp
  | a :: r => by
    have h1 := cnt_cons B a (r ++ t)
    have h2 := B.pre_le (a :: (r ++ t))
    have h3 := cnt_ahead B t r
    show _ ≤ cnt p (a :: (r ++ t))
    omega
end Nj
set_option linter.all false
/-! The book that is made of inner words. -/
namespace Nj

structure Lang (F : Tx → Prop) : Prop where
  nil : F []
  pfx : ∀ t a, F (t ++ [a]) → F t
  sfx : ∀ a t, F (a :: t) → F t
  ri : ∀ t, F t → ∃ a, F (t ++ [a])
  le : ∀ t, F t → ∃ a, F (a :: t)
  lt : ∀ t, F t → ∀ a ∈ t, a = 97 ∨ a = 98 ∨ a = 99

def gg (L : Tx → Bool) (d : Nat) (t : Tx) : Nat := min d (cnt L t)
/-- whether a text is a word -/
def isW (L : Tx → Bool) (d : Nat) (t : Tx) : Bool :=
  !t.isEmpty && (if t.length = 1 then decide (gg L d t = 1) else decide (gg L d t.dropLast + gg L d t.tail = 1 + gg L d t + gg L d t.tail.dropLast))

/-- what is known of the lot -/
structure Lot (L : Tx → Bool) (d : Nat) : Prop where
  b : Bif L
  lo : ∀ t, L t = true → cnt L t < d
  d1 : 1 ≤ d
section
variable {L : Tx → Bool} {d : Nat}
theorem isW_nil : isW L d [] = false := rfl
theorem isW_one (a : Nat) : isW L d [a] = decide (gg L d [a] = 1) := by simp [isW]
theorem isW_two (x y : Nat) (t : Tx) : isW L d (x :: (t ++ [y])) = decide (gg L d (x :: t) + gg L d (t ++ [y]) = 1 + gg L d (x :: (t ++ [y])) + gg L d t) := by
  have h1 : (x :: (t ++ [y])).dropLast = x :: t := by
    rw [show x :: (t ++ [y]) = (x :: t) ++ [y] from rfl, List.dropLast_concat]
  unfold isW
  rw [h1]
  simp
theorem b2n_le (b : Bool) : b2n b ≤ 1 := by cases b <;> decide
/-- the difference is 0 or 1 -/
theorem Lot.diff (K : Lot L d) (x y : Nat) (t : Tx) : gg L d (x :: t) + gg L d (t ++ [y]) = b2n (isW L d (x :: (t ++ [y]))) + gg L d (x :: (t ++ [y])) + gg L d t := by
  have h1 := cnt_both K.b x y t
  have h2 := cnt_cons K.b x t
  have h3 := K.b.pre_le (x :: t)
  have h4 := cnt_snoc K.b t y
  have h5 := K.b.suf_le (t ++ [y])
  have h6 := cnt_snoc K.b (x :: t) y
  have h7 := K.b.suf_le (x :: t ++ [y])
  have h8 := cnt_cons K.b x (t ++ [y])
  have h9 := K.b.pre_le (x :: (t ++ [y]))
  have h10 := cnt_pos K.b t
  rw [isW_two]
  unfold gg
  have hw : L (x :: (t ++ [y])) = true → cnt L (x :: (t ++ [y])) < d := K.lo _
  simp only [List.cons_append] at *
  have hb := b2n_le (L (x :: (t ++ [y])))
  by_cases hl : L (x :: (t ++ [y])) = true
  · have := hw hl
    rw [hl] at h1
    simp only [b2n, if_true] at h1
    by_cases q : min d (cnt L (x :: t)) + min d (cnt L (t ++ [y])) = 1 + min d (cnt L (x :: (t ++ [y]))) + min d (cnt L t)
    · rw [decide_eq_true q]; simp only [b2n, if_true]; omega
    · exfalso; omega
  · have hl' : L (x :: (t ++ [y])) = false := by simpa using hl
    rw [hl'] at h1
    simp only [b2n] at h1
    by_cases q : min d (cnt L (x :: t)) + min d (cnt L (t ++ [y])) = 1 + min d (cnt L (x :: (t ++ [y]))) + min d (cnt L t)
    · rw [decide_eq_true q]; simp only [b2n, if_true]; omega
    · rw [decide_eq_false q]; simp only [b2n]; simp at h1 ⊢; omega
theorem Lot.one (K : Lot L d) (a : Nat) : gg L d [a] + b2n (isW L d [a]) = 2 := by
  have h1 := cnt_snoc K.b [] a
  have h2 := K.b.suf_le ([] ++ [a])
  rw [cnt_nil] at h1
  simp only [List.nil_append] at *
  have h3 := K.d1
  rw [isW_one]
  unfold gg
  by_cases q : min d (cnt L [a]) = 1
  · rw [decide_eq_true q]; simp only [b2n, if_true]; omega
  · rw [decide_eq_false q]; simp only [b2n]; simp; omega
theorem Lot.nil (K : Lot L d) : gg L d [] = 1 := by
  have := K.d1
  unfold gg
  rw [cnt_nil]
  omega
theorem snoc_or (t : Tx) : t = [] ∨ ∃ r a, t = r ++ [a] := by
  cases t with
  | nil => exact .inl rfl
  | cons a t => exact .inr ⟨(a :: t).dropLast, (a :: t).getLast (List.cons_ne_nil _ _), (List.dropLast_concat_getLast (List.cons_ne_nil a t)).symm⟩
/-- THE COUNT: readings by the made book are min d of the lot's -/
theorem Lot.occ (K : Lot L d) : ∀ (n : Nat) (t : Tx), t.length ≤ n → occ (isW L d) t + gg L d t = t.length + 1
  | _, [], _ => by
    show 0 + _ = _
    rw [K.nil]
    simp
  | 0, a :: t, h => by simp at h
  | n + 1, a :: t, h => by
    rcases snoc_or t with e | ⟨r, y, e⟩
    · subst e
      have h1 := K.one a
      have : Nj.occ (isW L d) [a] = b2n (isW L d [a]) := by
        show pre (isW L d) [a] + 0 = _
        unfold pre
        simp [List.range_succ, b2n]
      rw [this, List.length_singleton]
      omega
    · subst e
      have h1 := occ_both (isW L d) a y r
      have h2 := K.diff a y r
      simp only [List.length_cons, List.length_append, List.length_nil] at h
      have i1 := Lot.occ K n r (by omega)
      have i2 := Lot.occ K n (a :: r) (by simp; omega)
      have i3 := Lot.occ K n (r ++ [y]) (by simp; omega)
      simp only [List.length_cons, List.length_append, List.length_nil] at *
      omega
theorem Lot.cnt (K : Lot L d) (t : Tx) : cnt (isW L d) t = gg L d t := by
  have := K.occ t.length t (Nat.le_refl _)
  unfold Nj.cnt
  omega
theorem Lot.gg_snoc (K : Lot L d) (t : Tx) (a : Nat) : gg L d t ≤ gg L d (t ++ [a]) := by
  have := cnt_app K.b t [a]
  unfold gg
  omega
theorem Lot.gg_cons (K : Lot L d) (t : Tx) (a : Nat) : gg L d t ≤ gg L d (a :: t) := by
  have := cnt_ahead K.b t [a]
  simp only [List.singleton_append] at this
  unfold gg
  omega
theorem Lot.sufW (K : Lot L d) (t : Tx) (a : Nat) : gg L d (t ++ [a]) + suf (isW L d) (t ++ [a]) = gg L d t + 1 := by
  have h1 := K.occ _ t (Nat.le_refl _)
  have h2 := K.occ _ (t ++ [a]) (Nat.le_refl _)
  have h3 := occ_snoc (isW L d) a t
  rw [List.length_append, List.length_singleton] at h2
  omega
theorem Lot.preW (K : Lot L d) (a : Nat) (t : Tx) : gg L d (a :: t) + pre (isW L d) (a :: t) = gg L d t + 1 := by
  have h1 := K.occ _ t (Nat.le_refl _)
  have h2 := K.occ _ (a :: t) (Nat.le_refl _)
  have h3 : Nj.occ (isW L d) (a :: t) = pre (isW L d) (a :: t) + Nj.occ (isW L d) t := rfl
  rw [List.length_cons] at h2
  omega
theorem Lot.bif (K : Lot L d) : Bif (isW L d) := by
  refine Bif.of rfl (fun t _ => ?_) (fun t _ => ?_)
  · cases t with
    | nil => simp [pre]
    | cons a t =>
      have := K.preW a t
      have := K.gg_cons t a
      omega
  · rcases snoc_or t with e | ⟨r, y, e⟩
    · subst e; simp [suf]
    · subst e
      have := K.sufW r y
      have := K.gg_snoc r y
      omega
theorem Lot.of_lot (K : Lot L d) {t : Tx} (h : L t = true) : isW L d t = true := by
  cases t with
  | nil => rw [K.b.ne] at h; cases h
  | cons a t =>
    rcases snoc_or t with e | ⟨r, y, e⟩
    · subst e
      have h1 := cnt_snoc K.b [] a
      have h2 : 1 ≤ suf L [a] := by
        rw [suf_cons, h]
        simp [b2n]
      rw [cnt_nil] at h1
      simp only [List.nil_append] at h1
      have := K.d1
      have := cnt_pos K.b [a]
      rw [isW_one, decide_eq_true_eq]
      unfold gg
      omega
    · subst e
      have h1 := cnt_both K.b a y r
      have h2 := cnt_cons K.b a r
      have h3 := K.b.pre_le (a :: r)
      have h4 := cnt_snoc K.b r y
      have h5 := K.b.suf_le (r ++ [y])
      have h6 := cnt_snoc K.b (a :: r) y
      have h7 := K.b.suf_le (a :: r ++ [y])
      have h8 := cnt_cons K.b a (r ++ [y])
      have h9 := K.b.pre_le (a :: (r ++ [y]))
      have h10 := K.lo _ h
      rw [h] at h1
      rw [isW_two, decide_eq_true_eq]
      unfold gg
      simp only [List.cons_append, b2n, if_true] at *
      omega
end

/-! ### all stretches of m letters have all ways -/
section
variable {F : Tx → Prop} {L : Tx → Bool} {d m : Nat}
theorem Lang.pfx' (A : Lang F) : ∀ (r t : Tx), F (t ++ r) → F t := fun r => by
  induction r with
  | nil => intro t h; simpa using h
  | cons a r ih =>
    intro t h
    have : F (t ++ [a]) := ih (t ++ [a]) (by simpa using h)
    exact A.pfx _ _ this
theorem Lang.sfx' (A : Lang F) : ∀ (r t : Tx), F (r ++ t) → F t
  | [], t, h => h
  | a :: r, t, h => Lang.sfx' A r t (A.sfx a _ h)
theorem Lang.ri' (A : Lang F) (t : Tx) (h : F t) : ∀ n, ∃ r : Tx, r.length = n ∧ F (t ++ r)
  | 0 => ⟨[], rfl, by simpa using h⟩
  | n + 1 => by
    obtain ⟨r, hr, hf⟩ := Lang.ri' A t h n
    obtain ⟨a, ha⟩ := A.ri _ hf
    exact ⟨r ++ [a], by simp [hr], by rw [← List.append_assoc]; exact ha⟩
theorem Lang.le' (A : Lang F) (t : Tx) (h : F t) : ∀ n, ∃ r : Tx, r.length = n ∧ F (r ++ t)
  | 0 => ⟨[], rfl, h⟩
  | n + 1 => by
    obtain ⟨r, hr, hf⟩ := Lang.le' A t h n
    obtain ⟨a, ha⟩ := A.le _ hf
    exact ⟨a :: r, by simp [hr], ha⟩
structure Full (F : Tx → Prop) (L : Tx → Bool) (d m : Nat) : Prop where
  a : Lang F
  k : Lot L d
  m1 : 1 ≤ m
  all : ∀ t, F t → t.length = m → d ≤ cnt L t
theorem Full.gd (U : Full F L d m) {t : Tx} (h : F t) (hl : m ≤ t.length) : gg L d t = d := by
  have e : t = t.take m ++ t.drop m := (List.take_append_drop m t).symm
  have h1 : F (t.take m) := U.a.pfx' (t.drop m) _ (by rw [← e]; exact h)
  have h2 := U.all _ h1 (by rw [List.length_take]; omega)
  have h3 := cnt_app U.k.b (t.take m) (t.drop m)
  rw [← e] at h3
  unfold gg
  omega
/-- words have at most m + 1 letters -/
theorem Full.short (U : Full F L d m) {t : Tx} (h : F t) (hw : isW L d t = true) : t.length ≤ m + 1 := by
  refine Nat.le_of_not_lt fun hl => ?_
  cases t with
  | nil => simp at hl
  | cons a t =>
    rcases snoc_or t with e | ⟨r, y, e⟩
    · subst e
      have := U.m1
      rw [List.length_singleton] at hl
      omega
    · subst e
      simp only [List.length_cons, List.length_append, List.length_nil] at hl
      have f1 : F (r ++ [y]) := U.a.sfx _ _ h
      have f2 : F r := U.a.pfx _ _ f1
      have f3 : F (a :: r) := U.a.pfx _ y h
      have := U.k.diff a y r
      rw [hw, U.gd h (by simp; omega), U.gd f1 (by simp; omega), U.gd f2 (by omega), U.gd f3 (by simp; omega)] at this
      simp [b2n] at this
/-- a stretch at least as long as all words has a word at its end -/
theorem Full.ended (U : Full F L d m) {ℓ : Nat} (hm : ∀ t, F t → isW L d t = true → t.length ≤ ℓ) {t : Tx} (h : F t) (hl : ℓ ≤ t.length) : suf (isW L d) t = 1 := by
  have hle := U.k.bif.suf_le t
  obtain ⟨r, hr, hf⟩ := U.a.le' t h (m + 1)
  rcases snoc_or (r ++ t) with e | ⟨q, y, e⟩
  · have := congrArg List.length e
    rw [List.length_append, List.length_nil] at this
    omega
  · have h1 := U.k.sufW q y
    have hq : F q := U.a.pfx q y (by rw [← e]; exact hf)
    have hql : m ≤ q.length := by
      have := congrArg List.length e
      rw [List.length_append, List.length_append, List.length_singleton] at this
      omega
    rw [← e, U.gd hq hql, U.gd hf (by rw [List.length_append]; omega)] at h1
    have hpos : 0 < suf (isW L d) (r ++ t) := by omega
    obtain ⟨k, hk, hw⟩ := List.countP_pos_iff.mp hpos
    have hk' := List.mem_range.mp hk
    rw [List.length_append] at hk'
    have hfk : F ((r ++ t).drop k) := U.a.sfx' ((r ++ t).take k) _ (by rw [List.take_append_drop]; exact hf)
    have := hm _ hfk hw
    rw [List.length_drop, List.length_append] at this
    have hge : r.length ≤ k := by omega
    have e2 : (r ++ t).drop k = t.drop (k - r.length) := by
      rw [List.drop_append, List.drop_of_length_le hge, List.nil_append]
    rw [e2] at hw
    have : 0 < suf (isW L d) t := List.countP_pos_iff.mpr ⟨k - r.length, List.mem_range.mpr (by omega), hw⟩
    omega
/-- THE SECOND FACT for the made book -/
theorem Full.ways (U : Full F L d m) {ℓ : Nat} (hm : ∀ t, F t → isW L d t = true → t.length ≤ ℓ) {t : Tx} (h : F t) (hl : ℓ ≤ t.length) : Nj.cnt (isW L d) t = d := by
  rw [U.k.cnt]
  have all : ∀ (n : Nat) (t : Tx), F t → ℓ ≤ t.length → m - t.length ≤ n → gg L d t = d := by
    intro n
    induction n with
    | zero => exact fun t h _ hn => U.gd h (by omega)
    | succ n ih =>
      intro t h hl hn
      obtain ⟨a, ha⟩ := U.a.ri t h
      have h1 := ih (t ++ [a]) ha (by rw [List.length_append]; omega) (by rw [List.length_append, List.length_singleton]; omega)
      have h2 := U.ended hm ha (by rw [List.length_append]; omega)
      have h3 := U.k.sufW t a
      omega
  exact all _ t h hl (Nat.le_refl _)
theorem Full.some (U : Full F L d m) : ∃ t, F t ∧ isW L d t = true := by
  obtain ⟨r, hr, hf⟩ := U.a.ri' [] U.a.nil (m + 1)
  have h1 := U.ended (ℓ := m + 1) (fun t => U.short) hf (by simp [hr])
  have hpos : 0 < suf (isW L d) ([] ++ r) := by omega
  obtain ⟨k, hk, hw⟩ := List.countP_pos_iff.mp hpos
  exact ⟨_, U.a.sfx' (([] ++ r).take k) _ (by rw [List.take_append_drop]; exact hf), hw⟩
end
end Nj
set_option linter.all false
/-! A made book has at most 400 words. -/
namespace Nj

def AB : List Nat := [97, 98, 99]
/-! ### walks of pairs to a letter from which no pair goes -/
def sinks (E : List (Nat × Nat)) : List Nat := AB.filter fun q => AB.all fun y => !E.contains (q, y)
def wk (E : List (Nat × Nat)) : Nat → List Tx
  | 0 => []
  | 1 => (sinks E).map fun q => [q]
  | k + 2 => (wk E (k + 1)).flatMap fun w => (AB.filter fun a => E.contains (a, w.headD 0)).map (· :: w)
def prs : List (Nat × Nat) := AB.flatMap fun a => AB.map fun b => (a, b)
def okE (E : List (Nat × Nat)) : Bool := [3, 4, 5, 6, 7].all fun k => decide ((wk E k).length ≤ 8)
set_option maxRecDepth 100000 in
theorem okE_all : (prs.all fun p => okE [p] && prs.all fun q => okE [p, q] && prs.all fun r => okE [p, q, r]) = true := by decide +kernel
theorem okE_of {E : List (Nat × Nat)} (h0 : E ≠ []) (h3 : E.length ≤ 3) (hp : ∀ p ∈ E, p ∈ prs) : okE E = true := by
  have all := List.all_eq_true.mp okE_all
  match E, h0, h3, hp with
  | [p], _, _, hp =>
    have := all p (hp p (by simp))
    simp only [Bool.and_eq_true] at this
    exact this.1
  | [p, q], _, _, hp =>
    have := all p (hp p (by simp))
    simp only [Bool.and_eq_true, List.all_eq_true] at this
    exact (this.2 q (hp q (by simp))).1
  | [p, q, r], _, _, hp =>
    have := all p (hp p (by simp))
    simp only [Bool.and_eq_true, List.all_eq_true] at this
    exact (this.2 q (hp q (by simp))).2 r (hp r (by simp))
  | _ :: _ :: _ :: _ :: _, _, h, _ => simp at h
theorem wk_len {E : List (Nat × Nat)} (h0 : E ≠ []) (h3 : E.length ≤ 3) (hp : ∀ p ∈ E, p ∈ prs) {k : Nat} (h1 : 3 ≤ k) (h2 : k ≤ 7) : (wk E k).length ≤ 8 := by
  have h := okE_of h0 h3 hp
  unfold okE at h
  simp only [List.all_cons, List.all_nil, Bool.and_true, Bool.and_eq_true, decide_eq_true_eq] at h
  have : k = 3 ∨ k = 4 ∨ k = 5 ∨ k = 6 ∨ k = 7 := by omega
  rcases this with rfl | rfl | rfl | rfl | rfl
  · exact h.1
  · exact h.2.1
  · exact h.2.2.1
  · exact h.2.2.2.1
  · exact h.2.2.2.2
/-- a walk that ends in a sink -/
def IsWk (E : List (Nat × Nat)) : Tx → Prop
  | [] => False
  | [q] => q ∈ sinks E
  | a :: b :: r => (a, b) ∈ E ∧ IsWk E (b :: r)
theorem wk_mem {E : List (Nat × Nat)} (hE : ∀ p ∈ E, p ∈ prs) : ∀ w : Tx, IsWk E w → w ∈ wk E w.length
  | [], h => h.elim
  | [q], h => by
    show [q] ∈ (sinks E).map fun q => [q]
    exact List.mem_map.mpr ⟨q, h, rfl⟩
  | a :: b :: r, h => by
    obtain ⟨h1, h2⟩ := h
    have ih := wk_mem hE (b :: r) h2
    show a :: b :: r ∈ (wk E (r.length + 1)).flatMap fun w => (AB.filter fun a => E.contains (a, w.headD 0)).map (· :: w)
    refine List.mem_flatMap.mpr ⟨b :: r, ih, List.mem_map.mpr ⟨a, List.mem_filter.mpr ⟨?_, ?_⟩, rfl⟩⟩
    · have := hE _ h1
      unfold prs at this
      obtain ⟨x, hx, hy⟩ := List.mem_flatMap.mp this
      obtain ⟨y, _, e⟩ := List.mem_map.mp hy
      cases e
      exact hx
    · simpa using h1

/-! ### sums -/
theorem sum_le {α : Type} {f : α → Nat} {c : Nat} : ∀ {l : List α}, (∀ u ∈ l, f u ≤ c) → (l.map f).sum ≤ c * l.length
  | [], _ => by simp
  | a :: l, h => by
    rw [List.map_cons, List.sum_cons, List.length_cons, Nat.mul_succ]
    have h1 := h a (by simp)
    have h2 := sum_le (l := l) fun u hu => h u (by simp [hu])
    omega
theorem sum_le3 {α : Type} {f : α → Nat} : ∀ {l : List α}, (∀ u ∈ l, f u ≤ 3) → (l.map f).sum ≤ 2 * l.length + (l.filter fun u => decide (f u = 3)).length
  | [], _ => by simp
  | a :: l, h => by
    rw [List.map_cons, List.sum_cons, List.length_cons, List.filter_cons]
    have h1 := h a (by simp)
    have h2 := sum_le3 (l := l) fun u hu => h u (by simp [hu])
    by_cases e : f a = 3
    · rw [if_pos (by simpa using e), List.length_cons]
      omega
    · rw [if_neg (by simpa using e)]
      omega
theorem split_len {α : Type} (p : α → Bool) : ∀ l : List α, l.length = (l.filter p).length + (l.filter fun a => !p a).length
  | [] => by simp
  | a :: l => by
    have := split_len p l
    rw [List.filter_cons, List.filter_cons, List.length_cons]
    cases p a <;> simp <;> omega
theorem flat_len3 (l : List Tx) (g : Tx → Nat → Tx) : (l.flatMap fun u => AB.map (g u)).length = 3 * l.length := by
  induction l with
  | nil => rfl
  | cons a l ih =>
    rw [List.flatMap_cons, List.length_append, ih, List.length_map, List.length_cons]
    show 3 + _ = _
    omega

section
variable {F : Tx → Prop} {L : Tx → Bool} {d m : Nat} {S X : List Tx} {Ls : List Tx}
structure Many (F : Tx → Prop) (L : Tx → Bool) (d m : Nat) (S : List Tx) (Ls : List Tx) : Prop where
  u : Full F L d m
  ls : ∀ t, L t = true ↔ t ∈ Ls
  l3 : Ls.length ≤ 3
  lf : ∀ t ∈ Ls, F t ∧ t.length ≤ 3
  s : ∀ t, t ∈ S ↔ F t ∧ t.length = m
  sn : S.Nodup
  d4 : d ≤ 4
abbrev nonP (L : Tx → Bool) (d : Nat) (S : List Tx) := S.filter fun u => decide (pre (isW L d) u ≠ 0)
abbrev isP (L : Tx → Bool) (d : Nat) (S : List Tx) := S.filter fun u => !decide (pre (isW L d) u ≠ 0)
def fp (L : Tx → Bool) (d : Nat) (u : Tx) : Tx := (((List.range u.length).map fun k => u.take (k + 1)).find? (isW L d)).getD []
theorem letter_mem (A : Lang F) {t : Tx} (h : F t) : ∀ a ∈ t, a ∈ AB := fun a ha => by
  rcases A.lt t h a ha with rfl | rfl | rfl <;> decide
/-- a word that begins a text is the one that is found -/
theorem fp_eq (K : Lot L d) {u x : Tx} (hx : isW L d x = true) (hp : x <+: u) : fp L d u = x := by
  have hne : x ≠ [] := fun e => by rw [e, isW_nil] at hx; cases hx
  have hpos : 0 < x.length := List.length_pos_iff.mpr hne
  obtain ⟨r, e⟩ := hp
  have hin : x ∈ (List.range u.length).map fun k => u.take (k + 1) := by
    refine List.mem_map.mpr ⟨x.length - 1, List.mem_range.mpr ?_, ?_⟩
    · rw [← e, List.length_append]; omega
    · rw [Nat.sub_add_cancel hpos, ← e, List.take_left]
  unfold fp
  cases q : ((List.range u.length).map fun k => u.take (k + 1)).find? (isW L d) with
  | none =>
    have := List.find?_eq_none.mp q x hin
    exact absurd hx this
  | some y =>
    have hy := List.find?_some q
    obtain ⟨k, hk, ek⟩ := List.mem_map.mp (List.mem_of_find?_eq_some q)
    have py : y <+: u := by rw [← ek]; exact List.take_prefix _ _
    have px : x <+: u := ⟨r, e⟩
    show y = x
    rcases Nat.le_total x.length y.length with h | h
    · exact (K.bif.pf _ _ hx hy (List.prefix_of_prefix_length_le px py h)).symm
    · exact K.bif.pf _ _ hy hx (List.prefix_of_prefix_length_le py px h)
theorem pre_pos_of {p : Tx → Bool} {u x : Tx} (hx : p x = true) (hne : x ≠ []) (hp : x <+: u) : pre p u ≠ 0 := by
  have hpos : 0 < x.length := List.length_pos_iff.mpr hne
  obtain ⟨r, e⟩ := hp
  refine Nat.ne_of_gt (List.countP_pos_iff.mpr ⟨x.length - 1, List.mem_range.mpr ?_, ?_⟩)
  · rw [← e, List.length_append]; omega
  · show p (u.take (x.length - 1 + 1)) = true
    rw [Nat.sub_add_cancel hpos, ← e, List.take_left]
    exact hx
theorem suf_pos_of {p : Tx → Bool} {u x : Tx} (hx : p x = true) (hne : x ≠ []) (hp : x <:+ u) : suf p u ≠ 0 := by
  have hpos : 0 < x.length := List.length_pos_iff.mpr hne
  obtain ⟨r, e⟩ := hp
  refine Nat.ne_of_gt (List.countP_pos_iff.mpr ⟨r.length, List.mem_range.mpr ?_, ?_⟩)
  · rw [← e, List.length_append]; omega
  · show p (u.drop r.length) = true
    rw [← e, List.drop_left]
    exact hx
theorem of_pre_pos {p : Tx → Bool} {u : Tx} (h : pre p u ≠ 0) : ∃ x, p x = true ∧ x <+: u ∧ x ≠ [] := by
  obtain ⟨k, hk, hp⟩ := List.countP_pos_iff.mp (Nat.pos_of_ne_zero h)
  refine ⟨_, hp, List.take_prefix _ _, fun e => ?_⟩
  have h1 := congrArg List.length e
  have := List.mem_range.mp hk
  rw [List.length_take, List.length_nil] at h1
  omega
theorem of_suf_pos {p : Tx → Bool} {u : Tx} (h : suf p u ≠ 0) : ∃ x, p x = true ∧ x <:+ u ∧ x ≠ [] := by
  obtain ⟨k, hk, hp⟩ := List.countP_pos_iff.mp (Nat.pos_of_ne_zero h)
  refine ⟨_, hp, List.drop_suffix _ _, fun e => ?_⟩
  have h1 := congrArg List.length e
  have := List.mem_range.mp hk
  rw [List.length_drop, List.length_nil] at h1
  omega

/-- the words of at most m letters: no more than the m-stretches that a word begins -/
theorem Many.few (M : Many F L d m S Ls) (hn : X.Nodup) (hX : ∀ x ∈ X, F x ∧ isW L d x = true ∧ x.length ≤ m) : X.length ≤ (nonP L d S).length := by
  have : X ⊆ (nonP L d S).map (fp L d) := by
    intro x hx
    obtain ⟨h1, h2, h3⟩ := hX x hx
    obtain ⟨r, hr, hf⟩ := M.u.a.ri' x h1 (m - x.length)
    have hne : x ≠ [] := fun e => by rw [e, isW_nil] at h2; cases h2
    refine List.mem_map.mpr ⟨x ++ r, List.mem_filter.mpr ⟨(M.s _).mpr ⟨hf, by rw [List.length_append]; omega⟩, ?_⟩, fp_eq M.u.k h2 ⟨r, rfl⟩⟩
    exact decide_eq_true (pre_pos_of h2 hne ⟨r, rfl⟩)
  have := hn.length_le_of_subset this
  rw [List.length_map] at this
  exact this
/-- what a word of m + 1 letters is -/
theorem Many.long (M : Many F L d m S Ls) {x : Tx} (hf : F x) (hw : isW L d x = true) (hl : x.length = m + 1) :
    ∃ u y, x = u ++ [y] ∧ u ∈ isP L d S ∧ y ∈ AB := by
  rcases snoc_or x with e | ⟨u, y, e⟩
  · rw [e] at hl; simp at hl
  · refine ⟨u, y, e, List.mem_filter.mpr ⟨(M.s u).mpr ⟨M.u.a.pfx u y (by rw [← e]; exact hf), ?_⟩, ?_⟩, letter_mem M.u.a hf y (by rw [e]; simp)⟩
    · have := congrArg List.length e
      rw [List.length_append, List.length_singleton] at this
      omega
    · by_cases q : pre (isW L d) u = 0
      · simp [q]
      · obtain ⟨z, hz, hp, _⟩ := of_pre_pos q
        have h2 : z = x := M.u.k.bif.pf _ _ hz hw (by rw [e]; exact List.IsPrefix.trans hp (List.prefix_append _ _))
        have h3 := hp.length_le
        have := congrArg List.length e
        rw [List.length_append, List.length_singleton, ← h2] at this
        omega
/-- the letters behind u that make it a word of X -/
def rho (X : List Tx) (u : Tx) : List Nat := AB.filter fun y => decide (u ++ [y] ∈ X)
theorem rho_le (u : Tx) : (rho X u).length ≤ 3 := List.length_filter_le _ AB
theorem flat_sum {α β : Type} (g : α → List β) (l : List α) : (l.flatMap g).length = (l.map fun u => (g u).length).sum := by
  induction l with
  | nil => rfl
  | cons a l ih => rw [List.flatMap_cons, List.length_append, ih, List.map_cons, List.sum_cons]
theorem flat_rho (l : List Tx) : (l.flatMap fun u => (rho X u).map fun y => u ++ [y]).length = (l.map fun u => (rho X u).length).sum := by
  rw [flat_sum]
  congr 1
  exact List.map_congr_left fun u _ => List.length_map _
/-- .. of m + 1 letters, whose first m letters are in a part of P -/
theorem Many.more {q : Tx → Bool} (M : Many F L d m S Ls) (hn : X.Nodup) (hX : ∀ x ∈ X, F x ∧ isW L d x = true ∧ x.length = m + 1 ∧ q x.dropLast = true) :
    X.length ≤ (((isP L d S).filter q).map fun u => (rho X u).length).sum := by
  rw [← flat_rho]
  refine hn.length_le_of_subset fun x hx => ?_
  obtain ⟨h1, h2, h3, h4⟩ := hX x hx
  obtain ⟨u, y, e, hu, hy⟩ := M.long h1 h2 h3
  have e2 : x.dropLast = u := by rw [e, List.dropLast_concat]
  refine List.mem_flatMap.mpr ⟨u, List.mem_filter.mpr ⟨hu, by rw [← e2]; exact h4⟩, List.mem_map.mpr ⟨y, List.mem_filter.mpr ⟨hy, ?_⟩, e.symm⟩⟩
  rw [← e]
  exact decide_eq_true hx
theorem filter_two {p : Nat → Bool} {c : Nat} (hc : c ∈ AB) (h : p c = false) : (AB.filter p).length ≤ 2 := by
  have : c = 97 ∨ c = 98 ∨ c = 99 := by simpa [AB] using hc
  unfold AB
  rcases this with rfl | rfl | rfl <;> simp only [List.filter_cons, List.filter_nil, h] <;> cases p 97 <;> cases p 98 <;> cases p 99 <;> simp at h ⊢
/-! ### where the lot has a letter -/
theorem Many.caseLetter (M : Many F L d m S Ls) {c : Nat} (hc : L [c] = true) (hn : X.Nodup) (hX : ∀ x ∈ X, F x ∧ isW L d x = true ∧ x.length = m + 1) : X.length ≤ 2 * (isP L d S).length := by
  have h := M.more (q := fun _ => true) hn fun x hx => ⟨(hX x hx).1, (hX x hx).2.1, (hX x hx).2.2, rfl⟩
  rw [List.filter_eq_self.mpr fun _ _ => rfl] at h
  refine Nat.le_trans h (sum_le fun u _ => ?_)
  have hcA : c ∈ AB := letter_mem M.u.a (M.lf _ ((M.ls _).mp hc)).1 c (by simp)
  refine filter_two hcA (decide_eq_false fun hin => ?_)
  obtain ⟨h1, h2, h3⟩ := hX _ hin
  have := M.u.k.bif.sf _ _ (M.u.k.of_lot hc) h2 (List.suffix_append u [c])
  have := congrArg List.length this
  have := M.u.m1
  simp only [List.length_append, List.length_cons, List.length_nil] at *
  omega
/-! ### where it has none -/
/-- the second place of u begins a word of the lot -/
abbrev isA (L : Tx → Bool) (u : Tx) : Bool := decide (pre L u.tail ≠ 0)
theorem Many.pre0 (M : Many F L d m S Ls) {u : Tx} (h : u ∈ isP L d S) : F u ∧ u.length = m ∧ pre (isW L d) u = 0 := by
  obtain ⟨h1, h2⟩ := List.mem_filter.mp h
  obtain ⟨h3, h4⟩ := (M.s u).mp h1
  refine ⟨h3, h4, ?_⟩
  simpa using h2
theorem Many.mid (M : Many F L d m S Ls) {u : Tx} (h : u ∈ isP L d S) : ∃ a t, u = a :: t ∧ cnt L t = d - 1 ∧ t.length = m - 1 ∧ F t := by
  obtain ⟨h1, h2, h3⟩ := M.pre0 h
  have := M.u.m1
  cases u with
  | nil => simp at h2; omega
  | cons a t =>
    refine ⟨a, t, rfl, ?_, by rw [List.length_cons] at h2; omega, M.u.a.sfx _ _ h1⟩
    have h4 := M.u.k.preW a t
    rw [h3, M.u.gd h1 (by omega)] at h4
    have := M.u.k.d1
    unfold gg at h4
    omega
/-- behind a word of X2, A's part: the next m letters are begun by a word -/
theorem Many.next (M : Many F L d m S Ls) {u : Tx} {y : Nat} (hu : u ∈ isP L d S) (hA : isA L u = true) (hf : F (u ++ [y])) (hw : isW L d (u ++ [y]) = true) : u.tail ++ [y] ∈ nonP L d S := by
  obtain ⟨a, t, e, h1, h2, h3⟩ := M.mid hu
  obtain ⟨g1, g2, g3⟩ := M.pre0 hu
  subst e
  have hA' : pre L t ≠ 0 := of_decide_eq_true hA
  have hm := M.u.m1
  have hd := M.u.k.d1
  rw [List.length_cons] at g2
  have ht : t ≠ [] := fun e => by rw [e] at hA'; exact hA' rfl
  obtain ⟨z, t', e⟩ : ∃ z t', t = z :: t' := by
    cases t with
    | nil => exact absurd rfl ht
    | cons z t' => exact ⟨z, t', rfl⟩
  subst e
  have hfv : F ((z :: t') ++ [y]) := M.u.a.sfx a _ hf
  show (z :: t') ++ [y] ∈ _
  refine List.mem_filter.mpr ⟨(M.s _).mpr ⟨hfv, by rw [List.length_append, List.length_singleton]; omega⟩, decide_eq_true ?_⟩
  have d1 := M.u.k.diff a y (z :: t')
  rw [show a :: (z :: t' ++ [y]) = (a :: z :: t') ++ [y] from rfl, hw, M.u.gd hf (by simp at g2 ⊢; omega), M.u.gd g1 (by simp at g2 ⊢; omega), M.u.gd hfv (by simp at g2 ⊢; omega)] at d1
  have c1 := cnt_snoc M.u.k.b (z :: t') y
  have s1 := M.u.k.b.suf_le (z :: t' ++ [y])
  have c2 := cnt_cons M.u.k.b z t'
  have p1 := M.u.k.b.pre_le (z :: t')
  have c3 := cnt_snoc M.u.k.b t' y
  have s2 : suf L (z :: (t' ++ [y])) = b2n (L (z :: (t' ++ [y]))) + suf L (t' ++ [y]) := suf_cons _ _ _
  have g4 := M.u.gd hfv (by simp at g2 ⊢; omega)
  have w1 := M.u.k.preW z (t' ++ [y])
  simp only [List.cons_append] at *
  rw [M.u.gd hfv (by simp at g2 ⊢; omega)] at w1
  unfold gg at g4 w1
  intro e
  omega
theorem Many.two (hL : ∀ c, L [c] = false) (B : Bif L) {w : Tx} (h : w ≠ []) : 2 ≤ cnt L w := by
  cases w with
  | nil => exact absurd rfl h
  | cons a t =>
    have h1 := cnt_snoc B [] a
    have h2 : suf L [a] = 0 := by
      rw [suf_cons, hL]
      rfl
    have h3 := cnt_app B [a] t
    rw [cnt_nil] at h1
    simp only [List.nil_append, List.singleton_append] at *
    omega
/-- the pairs among the lot's words -/
def pairsOf (Ls : List Tx) : List (Nat × Nat) := Ls.filterMap fun t => match t with | [a, b] => some (a, b) | _ => none
theorem mem_pairsOf {Ls : List Tx} {a b : Nat} : (a, b) ∈ pairsOf Ls ↔ [a, b] ∈ Ls := by
  unfold pairsOf
  rw [List.mem_filterMap]
  constructor
  · rintro ⟨t, ht, e⟩
    match t, ht, e with
    | [x, y], ht, e => cases e; exact ht
  · intro h
    exact ⟨_, h, rfl⟩
theorem Many.walk (M : Many F L d m S Ls) (hL : ∀ c, L [c] = false) : ∀ w : Tx, F w → w ≠ [] → cnt L w ≤ 2 → (∀ y ∈ AB, suf L (w ++ [y]) = 0) → IsWk (pairsOf Ls) w
  | [], _, h, _, _ => h rfl
  | [q], hF, _, _, hs => by
    show q ∈ AB.filter fun q => AB.all fun y => !(pairsOf Ls).contains (q, y)
    refine List.mem_filter.mpr ⟨letter_mem M.u.a hF q (by simp), List.all_eq_true.mpr fun y hy => ?_⟩
    have h0 := hs y hy
    cases e : (pairsOf Ls).contains (q, y) with
    | false => rfl
    | true =>
      have h1 : [q, y] ∈ Ls := mem_pairsOf.mp (by simpa using e)
      have h2 : L [q, y] = true := (M.ls _).mpr h1
      have h3 : suf L ([q] ++ [y]) ≠ 0 := suf_pos_of h2 (by simp) (List.suffix_refl _)
      exact absurd h0 h3
  | a :: b :: r, hF, _, hc, hs => by
    have hF' : F (b :: r) := M.u.a.sfx _ _ hF
    have c1 := cnt_cons M.u.k.b a (b :: r)
    have c2 := Many.two hL M.u.k.b (w := b :: r) (by simp)
    have p1 := M.u.k.b.pre_le (a :: b :: r)
    have ih := Many.walk M hL (b :: r) hF' (by simp) (by omega) fun y hy => by
      have h0 := hs y hy
      have : suf L (a :: (b :: r ++ [y])) = b2n (L (a :: (b :: r ++ [y]))) + suf L (b :: r ++ [y]) := suf_cons _ _ _
      simp only [List.cons_append] at *
      omega
    refine ⟨?_, ih⟩
    obtain ⟨x, hx, hp, hne⟩ := of_pre_pos (p := L) (u := a :: b :: r) (by omega)
    obtain ⟨hxF, hx3⟩ := M.lf x ((M.ls x).mp hx)
    obtain ⟨r', e⟩ := hp
    match x, hx, hne, hx3, e with
    | [x0], hx, _, _, e => rw [hL] at hx; cases hx
    | [x0, x1], hx, _, _, e =>
      simp at e
      obtain ⟨e1, e2, _⟩ := e
      subst e1 e2
      exact mem_pairsOf.mpr ((M.ls _).mp hx)
    | [x0, x1, x2], hx, _, _, e =>
      exfalso
      simp at e
      obtain ⟨e1, e2, e3⟩ := e
      subst e1 e2 e3
      have h2 : L [x1, x2] = true := (M.ls _).mpr (mem_pairsOf.mp ih.1)
      have := M.u.k.b.sf _ _ h2 hx ⟨[x0], rfl⟩
      simp at this
    | x0 :: x1 :: x2 :: x3 :: xs, _, _, h3, _ => simp at h3
theorem Many.caseNone (M : Many F L d m S Ls) (hL : ∀ c, L [c] = false) (h5 : 5 ≤ m) (h9 : m ≤ 9) (hn : X.Nodup) (hX : ∀ x ∈ X, F x ∧ isW L d x = true ∧ x.length = m + 1) :
    X.length + (nonP L d S).length ≤ 2 * S.length + 72 := by
  have hd := M.u.k.d1
  have sP : S.length = (nonP L d S).length + (isP L d S).length := split_len _ S
  have sA := split_len (isA L) (isP L d S)
  have sX := split_len (fun x => isA L x.dropLast) X
  have hXA : ∀ x ∈ X.filter fun x => isA L x.dropLast, F x ∧ isW L d x = true ∧ x.length = m + 1 ∧ isA L x.dropLast = true := fun x hx => by
    obtain ⟨h1, h2⟩ := List.mem_filter.mp hx
    obtain ⟨h3, h4, h6⟩ := hX x h1
    exact ⟨h3, h4, h6, h2⟩
  -- A: at most three for each of A, at most three for each of nonP
  have a1 := M.more (q := isA L) (List.Nodup.sublist List.filter_sublist hn) hXA
  have a1' := Nat.le_trans a1 (sum_le fun u _ => rho_le u)
  have a2 : (X.filter fun x => isA L x.dropLast).length ≤ 3 * (nonP L d S).length := by
    rw [← flat_len3 (nonP L d S) fun v a => a :: v]
    refine (List.Nodup.sublist List.filter_sublist hn).length_le_of_subset fun x hx => ?_
    obtain ⟨h1, h2, h3, h4⟩ := hXA x hx
    obtain ⟨u, y, e, hu, hy⟩ := M.long h1 h2 h3
    have e2 : x.dropLast = u := by rw [e, List.dropLast_concat]
    rw [e2] at h4
    have h6 := M.next hu h4 (by rw [← e]; exact h1) (by rw [← e]; exact h2)
    obtain ⟨a, t, et, _⟩ := M.mid hu
    subst et
    refine List.mem_flatMap.mpr ⟨_, h6, List.mem_map.mpr ⟨a, letter_mem M.u.a h1 a (by rw [e]; simp), ?_⟩⟩
    rw [e]
    rfl
  -- B
  have hXB : ∀ x ∈ X.filter fun x => !isA L x.dropLast, F x ∧ isW L d x = true ∧ x.length = m + 1 ∧ (fun u => !isA L u) x.dropLast = true := fun x hx => by
    obtain ⟨h1, h2⟩ := List.mem_filter.mp hx
    obtain ⟨h3, h4, h6⟩ := hX x h1
    exact ⟨h3, h4, h6, h2⟩
  have b1 := M.more (q := fun u => !isA L u) (List.Nodup.sublist List.filter_sublist hn) hXB
  have b1' := Nat.le_trans b1 (sum_le3 fun u _ => rho_le u)
  have b2 : ∀ u ∈ ((isP L d S).filter fun u => !isA L u).filter fun u => decide ((rho (X.filter fun x => !isA L x.dropLast) u).length = 3), ∃ a b w, u = a :: b :: w ∧ a ∈ AB ∧ b ∈ AB ∧ w.length = m - 2 ∧ IsWk (pairsOf Ls) w := by
    intro u hu
    obtain ⟨hu, h3⟩ := List.mem_filter.mp hu
    obtain ⟨hu, hB⟩ := List.mem_filter.mp hu
    have h3' : (rho (X.filter fun x => !isA L x.dropLast) u).length = 3 := of_decide_eq_true h3
    obtain ⟨a, t, e, h1, h2, hft⟩ := M.mid hu
    obtain ⟨g1, g2, g3⟩ := M.pre0 hu
    subst e
    cases t with
    | nil => simp at h2; omega
    | cons b w =>
      have hB0 : isA L (a :: b :: w) = false := by
        cases h : isA L (a :: b :: w) with
        | false => rfl
        | true => rw [h] at hB; cases hB
      have hB' : pre L (b :: w) = 0 := Decidable.of_not_not (of_decide_eq_false hB0)
      have c1 := cnt_cons M.u.k.b b w
      have hw2 : w.length = m - 2 := by rw [List.length_cons] at h2; omega
      refine ⟨a, b, w, rfl, letter_mem M.u.a g1 a (by simp), letter_mem M.u.a g1 b (by simp), hw2, ?_⟩
      have hwne : w ≠ [] := fun e => by rw [e] at hw2; simp at hw2; omega
      have hd4 := M.d4
      refine M.walk hL w (M.u.a.sfx _ _ hft) hwne (by omega) fun y hy => ?_
      -- y makes u a word
      have hall : ∀ y ∈ AB, (a :: b :: w) ++ [y] ∈ X.filter fun x => !isA L x.dropLast := by
        have e3 : (AB.filter fun y => decide ((a :: b :: w) ++ [y] ∈ X.filter fun x => !isA L x.dropLast)) = AB :=
          List.filter_sublist.eq_of_length (by rw [show (AB.filter _).length = 3 from h3']; rfl)
        intro y hy
        rw [← e3] at hy
        exact of_decide_eq_true (List.mem_filter.mp hy).2
      obtain ⟨k1, k2, k3, _⟩ := hXB _ (hall y hy)
      have d1 := M.u.k.diff a y (b :: w)
      rw [show a :: (b :: w ++ [y]) = (a :: b :: w) ++ [y] from rfl, k2, M.u.gd k1 (by simp at k3 ⊢; omega), M.u.gd g1 (by omega)] at d1
      have c2 := cnt_snoc M.u.k.b (b :: w) y
      have s2 : suf L (b :: (w ++ [y])) = b2n (L (b :: (w ++ [y]))) + suf L (w ++ [y]) := suf_cons _ _ _
      simp only [List.cons_append] at *
      unfold gg at d1
      simp only [b2n, if_true] at d1
      omega
  have b3 : (((isP L d S).filter fun u => !isA L u).filter fun u => decide ((rho (X.filter fun x => !isA L x.dropLast) u).length = 3)).length ≤ 72 := by
    by_cases hE : pairsOf Ls = []
    · have : ((isP L d S).filter fun u => !isA L u).filter (fun u => decide ((rho (X.filter fun x => !isA L x.dropLast) u).length = 3)) = [] := by
        refine List.eq_nil_iff_forall_not_mem.mpr fun u hu => ?_
        obtain ⟨a, b, w, e, _, _, hl, hw⟩ := b2 u hu
        rw [hE] at hw
        match w, hl, hw with
        | [], hl, hw => exact hw
        | [q], hl, hw => simp at hl; omega
        | x :: y :: r, hl, hw => exact absurd hw.1 (by simp)
      rw [this]
      simp
    · have hp : ∀ p ∈ pairsOf Ls, p ∈ prs := fun p hp => by
        obtain ⟨x, y⟩ := p
        have h1 := mem_pairsOf.mp hp
        have hF := (M.lf _ h1).1
        exact List.mem_flatMap.mpr ⟨x, letter_mem M.u.a hF x (by simp), List.mem_map.mpr ⟨y, letter_mem M.u.a hF y (by simp), rfl⟩⟩
      have hlen := wk_len hE (Nat.le_trans (List.length_filterMap_le _ _) M.l3) hp (k := m - 2) (by omega) (by omega)
      have hn3 : (((isP L d S).filter fun u => !isA L u).filter fun u => decide ((rho (X.filter fun x => !isA L x.dropLast) u).length = 3)).Nodup :=
        ((M.sn.sublist List.filter_sublist).sublist List.filter_sublist).sublist List.filter_sublist
      have h3 := hn3.length_le_of_subset (l₂ := AB.flatMap fun a => AB.flatMap fun b => (wk (pairsOf Ls) (m - 2)).map fun w => a :: b :: w) fun u hu => by
        obtain ⟨a, b, w, e, ha, hb, hl, hw⟩ := b2 u hu
        refine List.mem_flatMap.mpr ⟨a, ha, List.mem_flatMap.mpr ⟨b, hb, List.mem_map.mpr ⟨w, ?_, e.symm⟩⟩⟩
        rw [← hl]
        exact wk_mem hp w hw
      refine Nat.le_trans h3 ?_
      simp only [AB, List.flatMap_cons, List.flatMap_nil, List.length_append, List.length_map, List.length_nil]
      omega
  omega
/-- AT MOST 400 WORDS -/
theorem Many.most (M : Many F L d m S Ls) (h9 : m ≤ 9) (hS : S.length ≤ 160) (h4 : m ≤ 4 → S.length ≤ 81) (hn : X.Nodup) (hX : ∀ x ∈ X, F x ∧ isW L d x = true) : X.length ≤ 400 := by
  have sX := split_len (fun x => decide (x.length ≤ m)) X
  have sP : S.length = (nonP L d S).length + (isP L d S).length := split_len _ S
  have h1 := M.few (List.Nodup.sublist List.filter_sublist hn) (X := X.filter fun x => decide (x.length ≤ m)) fun x hx => by
    obtain ⟨h1, h2⟩ := List.mem_filter.mp hx
    exact ⟨(hX x h1).1, (hX x h1).2, of_decide_eq_true h2⟩
  have hX2 : ∀ x ∈ X.filter fun x => !decide (x.length ≤ m), F x ∧ isW L d x = true ∧ x.length = m + 1 := fun x hx => by
    obtain ⟨h1, h2⟩ := List.mem_filter.mp hx
    have h3 := M.u.short (hX x h1).1 (hX x h1).2
    have h5 : ¬ x.length ≤ m := by simpa using h2
    exact ⟨(hX x h1).1, (hX x h1).2, by omega⟩
  have hn2 := List.Nodup.sublist (l₁ := X.filter fun x => !decide (x.length ≤ m)) List.filter_sublist hn
  by_cases hm : m ≤ 4
  · have h := M.more (q := fun _ => true) hn2 fun x hx => ⟨(hX2 x hx).1, (hX2 x hx).2.1, (hX2 x hx).2.2, rfl⟩
    rw [List.filter_eq_self.mpr fun _ _ => rfl] at h
    have h' := Nat.le_trans h (sum_le fun u _ => rho_le u)
    have := h4 hm
    omega
  · by_cases hL : ∃ c, L [c] = true
    · obtain ⟨c, hc⟩ := hL
      have := M.caseLetter hc hn2 hX2
      omega
    · have hL' : ∀ c, L [c] = false := fun c => by
        cases e : L [c] with
        | false => rfl
        | true => exact absurd ⟨c, e⟩ hL
      have := M.caseNone hL' (by omega) h9 hn2 hX2
      omega
end
end Nj
set_option linter.all false
/-! Webs and their stretches. -/
namespace Nj

structure Web where
  P : Nat
  AR : List (Nat × Nat × Nat)
def stp (W : Web) (ps : List Nat) (c : Nat) : List Nat := (List.range W.P).filter fun g => ps.any fun o => decide ((o, c, g) ∈ W.AR)
def endsF (W : Web) (ps : List Nat) (t : Tx) : List Nat := t.foldl (stp W) ps
def ends (W : Web) (t : Tx) : List Nat := endsF W (List.range W.P) t
def AZ : List Nat := [97, 98, 99, 100, 101, 102, 103, 104, 105, 106, 107, 108, 109, 110, 111, 112, 113, 114, 115, 116, 117, 118, 119, 120, 121, 122]
def signs (W : Web) : List Nat := AZ.filter fun c => W.AR.any fun r => decide (r.2.1 = c)
def okc (W : Web) (t : Tx) (c : Nat) : Bool := decide (0 < (ends W (t ++ [c])).length)
def longer (W : Web) (ts : List Tx) : List Tx := ts.flatMap fun t => ((signs W).filter (okc W t)).map fun c => t ++ [c]
def stre (W : Web) : Nat → List Tx
  | 0 => [[]]
  | n + 1 => longer W (stre W n)
/-- one arrow ahead of another one -/
def arLt (r s : Nat × Nat × Nat) : Prop := r.1 < s.1 ∨ (r.1 = s.1 ∧ (r.2.1 < s.2.1 ∨ (r.2.1 = s.2.1 ∧ r.2.2 < s.2.2)))
structure GoodW (W : Web) : Prop where
  p1 : 1 ≤ W.P
  p4 : W.P ≤ 4
  srt : W.AR.Pairwise arLt
  ran : ∀ r ∈ W.AR, r.1 < W.P ∧ r.2.1 ∈ AB ∧ r.2.2 < W.P
  rnd : ∀ p, p < W.P → ∃ c, (p, c, (p + 1) % W.P) ∈ W.AR
def FW (W : Web) (t : Tx) : Prop := ends W t ≠ []

section
variable {W : Web}
theorem mem_stp {ps : List Nat} {c g : Nat} : g ∈ stp W ps c ↔ g < W.P ∧ ∃ o ∈ ps, (o, c, g) ∈ W.AR := by
  unfold stp
  rw [List.mem_filter, List.mem_range, List.any_eq_true]
  constructor
  · rintro ⟨h, o, h1, h2⟩; exact ⟨h, o, h1, of_decide_eq_true h2⟩
  · rintro ⟨h, o, h1, h2⟩; exact ⟨h, o, h1, decide_eq_true h2⟩
theorem endsF_snoc (ps : List Nat) (t : Tx) (c : Nat) : endsF W ps (t ++ [c]) = stp W (endsF W ps t) c := by
  unfold endsF; rw [List.foldl_append]; rfl
theorem ends_snoc (t : Tx) (c : Nat) : ends W (t ++ [c]) = stp W (ends W t) c := endsF_snoc _ t c
theorem stp_nil (c : Nat) : stp W [] c = [] := by
  unfold stp
  rw [List.filter_eq_nil_iff]
  intro a _ h
  simp at h
theorem endsF_nil : ∀ t : Tx, endsF W [] t = []
  | [] => rfl
  | c :: t => by
    show endsF W (stp W [] c) t = []
    rw [stp_nil]
    exact endsF_nil t
theorem stp_mono {ps qs : List Nat} (h : ∀ x ∈ ps, x ∈ qs) (c : Nat) : ∀ x ∈ stp W ps c, x ∈ stp W qs c := fun x hx => by
  obtain ⟨h1, o, h2, h3⟩ := mem_stp.mp hx
  exact mem_stp.mpr ⟨h1, o, h _ h2, h3⟩
theorem endsF_mono : ∀ (t : Tx) {ps qs : List Nat}, (∀ x ∈ ps, x ∈ qs) → ∀ x ∈ endsF W ps t, x ∈ endsF W qs t
  | [], _, _, h => h
  | c :: t, _, _, h => endsF_mono t (stp_mono h c)
theorem endsF_one : ∀ (t : Tx) {ps : List Nat} {x : Nat}, x ∈ endsF W ps t → ∃ p ∈ ps, x ∈ endsF W [p] t
  | [], _, x, h => ⟨x, h, by show x ∈ [x]; simp⟩
  | c :: t, ps, x, h => by
    obtain ⟨q, hq, hx⟩ := endsF_one t (ps := stp W ps c) h
    obtain ⟨h1, o, h2, h3⟩ := mem_stp.mp hq
    refine ⟨o, h2, endsF_mono t (ps := [q]) (fun y hy => ?_) x hx⟩
    have : y = q := by simpa using hy
    subst this
    exact mem_stp.mpr ⟨h1, o, by simp, h3⟩
theorem endsF_ran (G : GoodW W) : ∀ (t : Tx) {ps : List Nat}, (∀ p ∈ ps, p < W.P) → ∀ x ∈ endsF W ps t, x < W.P
  | [], _, h => h
  | c :: t, _, h => endsF_ran G t fun x hx => (mem_stp.mp hx).1
theorem FW_iff (t : Tx) : FW W t ↔ 0 < (ends W t).length := List.length_pos_iff.symm
theorem ends_ran (G : GoodW W) (t : Tx) : ∀ x ∈ ends W t, x < W.P := endsF_ran G t fun p hp => List.mem_range.mp hp
theorem letterW (G : GoodW W) : ∀ (t : Tx) {ps : List Nat}, endsF W ps t ≠ [] → ∀ a ∈ t, a ∈ AB ∧ a ∈ signs W
  | [], _, _, a, ha => by simp at ha
  | c :: t, ps, h, a, ha => by
    rcases List.mem_cons.mp ha with rfl | ha
    · cases e : stp W ps a with
      | nil =>
        have h' : endsF W (stp W ps a) t ≠ [] := h
        rw [e, endsF_nil] at h'
        exact absurd rfl h'
      | cons g r =>
        obtain ⟨_, o, _, h3⟩ := mem_stp.mp (show g ∈ stp W ps a by rw [e]; simp)
        have hA := (G.ran _ h3).2.1
        refine ⟨hA, List.mem_filter.mpr ⟨?_, List.any_eq_true.mpr ⟨_, h3, by simp⟩⟩⟩
        have : a = 97 ∨ a = 98 ∨ a = 99 := by simpa [AB] using hA
        rcases this with rfl | rfl | rfl <;> decide
    · exact letterW G t (ps := stp W ps c) h a ha
theorem GoodW.lang (G : GoodW W) : Lang (FW W) where
  nil := by
    show List.range W.P ≠ []
    intro e
    have := congrArg List.length e
    rw [List.length_range, List.length_nil] at this
    have := G.p1
    omega
  pfx := fun t a h e => h (by rw [ends_snoc, show ends W t = [] from e, stp_nil])
  sfx := fun a t h e => by
    have h' : endsF W (stp W (List.range W.P) a) t ≠ [] := h
    cases q : endsF W (stp W (List.range W.P) a) t with
    | nil => exact h' q
    | cons x r =>
      have : x ∈ ends W t := endsF_mono t (ps := stp W (List.range W.P) a) (fun y hy => List.mem_range.mpr (mem_stp.mp hy).1) x (by rw [q]; simp)
      rw [e] at this
      simp at this
  ri := fun t h => by
    cases q : ends W t with
    | nil => exact absurd q h
    | cons x r =>
      have hx : x ∈ ends W t := by rw [q]; simp
      obtain ⟨c, hc⟩ := G.rnd x (ends_ran G t x hx)
      refine ⟨c, fun e => ?_⟩
      rw [ends_snoc] at e
      have : (x + 1) % W.P ∈ stp W (ends W t) c := mem_stp.mpr ⟨Nat.mod_lt _ G.p1, x, hx, hc⟩
      rw [e] at this
      simp at this
  le := fun t h => by
    cases q : ends W t with
    | nil => exact absurd q h
    | cons x r =>
      obtain ⟨p, hp, hx⟩ := endsF_one t (ps := List.range W.P) (x := x) (show x ∈ ends W t by rw [q]; simp)
      have hp' := List.mem_range.mp hp
      -- a point from which an arrow of the round leads to p
      obtain ⟨o, ho, eo⟩ : ∃ o, o < W.P ∧ (o + 1) % W.P = p := by
        by_cases h0 : p = 0
        · refine ⟨W.P - 1, by have := G.p1; omega, ?_⟩
          rw [Nat.sub_add_cancel G.p1, Nat.mod_self, h0]
        · refine ⟨p - 1, by omega, ?_⟩
          rw [Nat.sub_add_cancel (by omega), Nat.mod_eq_of_lt hp']
      obtain ⟨c, hc⟩ := G.rnd o ho
      rw [eo] at hc
      refine ⟨c, fun e => ?_⟩
      have e' : endsF W (stp W (List.range W.P) c) t = [] := e
      have : x ∈ endsF W (stp W (List.range W.P) c) t := endsF_mono t (ps := [p]) (fun y hy => by
        have : y = p := by simpa using hy
        subst this
        exact mem_stp.mpr ⟨hp', o, List.mem_range.mpr ho, hc⟩) x hx
      rw [e'] at this
      simp at this
  lt := fun t h a ha => by
    have := (letterW G t (ps := List.range W.P) h a ha).1
    simpa [AB] using this
theorem signs_AB (G : GoodW W) : ∀ c ∈ signs W, c ∈ AB := fun c hc => by
  obtain ⟨r, hr, e⟩ := List.any_eq_true.mp (List.mem_filter.mp hc).2
  have := (G.ran r hr).2.1
  rw [of_decide_eq_true e] at this
  exact this
theorem AZ_nodup : AZ.Nodup := by decide
theorem signs_nodup : (signs W).Nodup := AZ_nodup.sublist List.filter_sublist
theorem signs_len (G : GoodW W) : (signs W).length ≤ 3 := signs_nodup.length_le_of_subset (l₂ := AB) (signs_AB G)
theorem okc_iff (t : Tx) (c : Nat) : okc W t c = true ↔ FW W (t ++ [c]) := by
  unfold okc
  rw [decide_eq_true_eq, FW_iff]
theorem mem_longer {ts : List Tx} {x : Tx} : x ∈ longer W ts ↔ ∃ t ∈ ts, ∃ c ∈ signs W, FW W (t ++ [c]) ∧ x = t ++ [c] := by
  unfold longer
  rw [List.mem_flatMap]
  constructor
  · rintro ⟨t, ht, h⟩
    obtain ⟨c, hc, e⟩ := List.mem_map.mp h
    obtain ⟨h1, h2⟩ := List.mem_filter.mp hc
    exact ⟨t, ht, c, h1, (okc_iff t c).mp h2, e.symm⟩
  · rintro ⟨t, ht, c, hc, hf, e⟩
    exact ⟨t, ht, List.mem_map.mpr ⟨c, List.mem_filter.mpr ⟨hc, (okc_iff t c).mpr hf⟩, e.symm⟩⟩
theorem mem_stre (G : GoodW W) : ∀ (n : Nat) (x : Tx), x ∈ stre W n ↔ FW W x ∧ x.length = n
  | 0, x => by
    show x ∈ [[]] ↔ _
    constructor
    · intro h
      have : x = [] := by simpa using h
      subst this
      exact ⟨G.lang.nil, rfl⟩
    · rintro ⟨_, h⟩
      simpa using List.length_eq_zero_iff.mp h
  | n + 1, x => by
    show x ∈ longer W (stre W n) ↔ _
    rw [mem_longer]
    constructor
    · rintro ⟨t, ht, c, hc, hf, rfl⟩
      exact ⟨hf, by rw [List.length_append, ((mem_stre G n t).mp ht).2]; rfl⟩
    · rintro ⟨hf, hl⟩
      rcases snoc_or x with e | ⟨t, c, e⟩
      · rw [e] at hl; simp at hl
      · subst e
        refine ⟨t, (mem_stre G n t).mpr ⟨G.lang.pfx _ _ hf, by rw [List.length_append, List.length_singleton] at hl; omega⟩, c, (letterW G _ hf c (by simp)).2, hf, rfl⟩
theorem snoc_inj {t t' : Tx} {c c' : Nat} (e : t ++ [c] = t' ++ [c']) : t = t' ∧ c = c' := by
  have := List.append_inj' e rfl
  exact ⟨this.1, by simpa using this.2⟩
theorem longer_nodup : ∀ {ts : List Tx}, ts.Nodup → (longer W ts).Nodup
  | [], _ => List.nodup_nil
  | t :: ts, h => by
    rw [List.nodup_cons] at h
    unfold longer
    rw [List.flatMap_cons]
    refine List.nodup_append.mpr ⟨?_, longer_nodup h.2, fun a ha b hb e => ?_⟩
    · have hs : ((signs W).filter (okc W t)).Nodup := signs_nodup.sublist List.filter_sublist
      refine List.pairwise_map.mpr (hs.imp fun {a b} hab e => hab (snoc_inj e).2)
    · subst e
      obtain ⟨c, _, e1⟩ := List.mem_map.mp ha
      obtain ⟨t', ht', c', _, _, e2⟩ := mem_longer.mp (show a ∈ longer W ts from hb)
      exact h.1 (by rw [(snoc_inj (e1.trans e2)).1]; exact ht')
theorem stre_nodup : ∀ n, (stre W n).Nodup
  | 0 => by show [([] : Tx)].Nodup; simp
  | n + 1 => longer_nodup (stre_nodup n)
theorem longer_len (G : GoodW W) (ts : List Tx) : (longer W ts).length ≤ 3 * ts.length := by
  unfold longer
  rw [flat_sum]
  refine sum_le fun u _ => ?_
  rw [List.length_map]
  exact Nat.le_trans (List.length_filter_le _ _) (signs_len G)
theorem stre_le4 (G : GoodW W) : (stre W 1).length ≤ 3 ∧ (stre W 2).length ≤ 9 ∧ (stre W 3).length ≤ 27 ∧ (stre W 4).length ≤ 81 := by
  have h1 := longer_len G (stre W 0)
  have h2 := longer_len G (stre W 1)
  have h3 := longer_len G (stre W 2)
  have h4 := longer_len G (stre W 3)
  have h0 : (stre W 0).length = 1 := rfl
  have e1 : longer W (stre W 0) = stre W 1 := rfl
  have e2 : longer W (stre W 1) = stre W 2 := rfl
  have e3 : longer W (stre W 2) = stre W 3 := rfl
  have e4 : longer W (stre W 3) = stre W 4 := rfl
  rw [e1] at h1; rw [e2] at h2; rw [e3] at h3; rw [e4] at h4
  omega
theorem stre_le (G : GoodW W) : ∀ n, (stre W n).length ≤ 3 ^ n
  | 0 => by show 1 ≤ 1; omega
  | n + 1 => by
    have h1 := longer_len G (stre W n)
    have h2 := stre_le G n
    show (longer W (stre W n)).length ≤ _
    rw [Nat.pow_succ]
    omega
theorem stre_ne (G : GoodW W) (n : Nat) : stre W n ≠ [] := by
  obtain ⟨r, hr, hf⟩ := G.lang.ri' [] G.lang.nil n
  intro e
  have := (mem_stre G n ([] ++ r)).mpr ⟨hf, by simpa using hr⟩
  rw [e] at this
  simp at this
theorem flatMap_single' {α β : Type} (f : α → β) : ∀ l : List α, (l.flatMap fun a => [f a]) = l.map f
  | [] => rfl
  | a :: l => by rw [List.flatMap_cons, flatMap_single' f l]; rfl
/-- the texts of one letter are the letters -/
theorem stre_one (G : GoodW W) : stre W 1 = (signs W).map fun c => [c] := by
  show longer W [[]] = _
  unfold longer
  rw [List.flatMap_cons, List.flatMap_nil, List.append_nil]
  rw [List.filter_eq_self.mpr]
  · rfl
  · intro c hc
    rw [okc_iff]
    obtain ⟨r, hr, e⟩ := List.any_eq_true.mp (List.mem_filter.mp hc).2
    have e' := of_decide_eq_true e
    intro e0
    have h1 : ends W ([] ++ [c]) = stp W (List.range W.P) c := ends_snoc [] c
    rw [show ends W ([] ++ [c]) = [] from e0] at h1
    obtain ⟨g1, g2, g3⟩ := G.ran r hr
    have : r.2.2 ∈ stp W (List.range W.P) c := mem_stp.mpr ⟨g3, r.1, List.mem_range.mpr g1, by rw [← e']; exact hr⟩
    rw [← h1] at this
    simp at this
end
end Nj
set_option linter.all false
/-! Tables of how many: assoc lists, and the automaton of the beginnings. -/
namespace Nj
section
variable {κ : Type} [DecidableEq κ]
def look (L : List (κ × Nat)) (k : κ) : Nat := ((L.find? fun p => decide (p.1 = k)).map (·.2)).getD 0
def put (L : List (κ × Nat)) (k : κ) (n : Nat) : List (κ × Nat) :=
  if (L.any fun p => decide (p.1 = k)) = true then L.map (fun p => if p.1 = k then (p.1, n) else p) else L ++ [(k, n)]
def add (L : List (κ × Nat)) (k : κ) (n : Nat) : List (κ × Nat) := put L k (look L k + n)
/-- the sum of the numbers, each weighed by its key -/
def sm (F : κ → Nat) (L : List (κ × Nat)) : Nat := (L.map fun p => p.2 * F p.1).sum
def Keys (L : List (κ × Nat)) : Prop := (L.map (·.1)).Nodup
theorem sm_nil (F : κ → Nat) : sm F [] = 0 := rfl
theorem sm_cons (F : κ → Nat) (p : κ × Nat) (L : List (κ × Nat)) : sm F (p :: L) = p.2 * F p.1 + sm F L := by simp [sm]
theorem sm_append (F : κ → Nat) (L M : List (κ × Nat)) : sm F (L ++ M) = sm F L + sm F M := by simp [sm]
theorem any_mem {L : List (κ × Nat)} {k : κ} : (L.any fun p => decide (p.1 = k)) = true ↔ k ∈ L.map (·.1) := by
  rw [List.any_eq_true, List.mem_map]
  constructor
  · rintro ⟨p, h, e⟩; exact ⟨p, h, of_decide_eq_true e⟩
  · rintro ⟨p, h, e⟩; exact ⟨p, h, decide_eq_true e⟩
theorem look_cons (p : κ × Nat) (L : List (κ × Nat)) (k : κ) : look (p :: L) k = if p.1 = k then p.2 else look L k := by
  unfold look
  rw [List.find?_cons]
  by_cases e : p.1 = k
  · rw [if_pos e, decide_eq_true e]; rfl
  · rw [if_neg e, decide_eq_false e]
theorem look_none {L : List (κ × Nat)} {k : κ} (h : k ∉ L.map (·.1)) : look L k = 0 := by
  induction L with
  | nil => rfl
  | cons p L ih =>
    rw [List.map_cons, List.mem_cons, not_or] at h
    rw [look_cons, if_neg (fun e => h.1 e.symm), ih h.2]
theorem sm_repl (F : κ → Nat) (k : κ) (n : Nat) : ∀ {L : List (κ × Nat)}, Keys L → k ∈ L.map (·.1) → sm F (L.map fun p => if p.1 = k then (p.1, n) else p) + look L k * F k = sm F L + n * F k
  | [], _, h => by simp at h
  | p :: L, hn, h => by
    unfold Keys at hn
    rw [List.map_cons, List.nodup_cons] at hn
    rw [List.map_cons, sm_cons, sm_cons, look_cons]
    by_cases e : p.1 = k
    · subst e
      rw [if_pos rfl, if_pos rfl]
      have : L.map (fun q => if q.1 = p.1 then (q.1, n) else q) = L := by
        refine (List.map_congr_left fun q hq => ?_).trans (List.map_id L)
        rw [if_neg (fun e => hn.1 (List.mem_map.mpr ⟨q, hq, e⟩))]
        rfl
      rw [this]
      show n * F p.1 + _ + _ = _
      omega
    · rw [if_neg e, if_neg e]
      have h' : k ∈ L.map (·.1) := by
        rw [List.map_cons, List.mem_cons] at h
        rcases h with h | h
        · exact absurd h.symm e
        · exact h
      have := sm_repl F k n hn.2 h'
      omega
theorem keys_repl (k : κ) (n : Nat) (L : List (κ × Nat)) : (L.map fun p => if p.1 = k then (p.1, n) else p).map (·.1) = L.map (·.1) := by
  rw [List.map_map]
  refine List.map_congr_left fun p _ => ?_
  show (if p.1 = k then (p.1, n) else p).1 = p.1
  by_cases e : p.1 = k
  · rw [if_pos e]
  · rw [if_neg e]
theorem sm_add (F : κ → Nat) {L : List (κ × Nat)} (k : κ) (n : Nat) (h : Keys L) : sm F (add L k n) = sm F L + n * F k := by
  unfold add put
  by_cases e : (L.any fun p => decide (p.1 = k)) = true
  · rw [if_pos e]
    have := sm_repl F k (look L k + n) h (any_mem.mp e)
    rw [Nat.add_mul] at this
    omega
  · rw [if_neg e, sm_append, sm_cons, sm_nil, look_none fun z => e (any_mem.mpr z)]
    simp
theorem keys_add {L : List (κ × Nat)} (k : κ) (n : Nat) (h : Keys L) : Keys (add L k n) := by
  unfold add put Keys
  by_cases e : (L.any fun p => decide (p.1 = k)) = true
  · rw [if_pos e, keys_repl]; exact h
  · rw [if_neg e, List.map_append]
    refine List.nodup_append.mpr ⟨h, by simp, fun a ha b hb z => ?_⟩
    subst z
    have : a = k := by simpa using hb
    subst this
    exact e (any_mem.mpr ha)
theorem mem_keys_add {L : List (κ × Nat)} {k j : κ} {n : Nat} (h : j ∈ (add L k n).map (·.1)) : j = k ∨ j ∈ L.map (·.1) := by
  unfold add put at h
  by_cases e : (L.any fun p => decide (p.1 = k)) = true
  · rw [if_pos e, keys_repl] at h; exact .inr h
  · rw [if_neg e, List.map_append, List.mem_append] at h
    rcases h with h | h
    · exact .inr h
    · exact .inl (by simpa using h)
def Psv (L : List (κ × Nat)) : Prop := ∀ p ∈ L, 0 < p.2
theorem psv_add {L : List (κ × Nat)} (k : κ) {n : Nat} (hn : 0 < n) (h : Psv L) : Psv (add L k n) := by
  unfold add put
  intro p hp
  by_cases e : (L.any fun p => decide (p.1 = k)) = true
  · rw [if_pos e] at hp
    obtain ⟨q, hq, z⟩ := List.mem_map.mp hp
    by_cases e2 : q.1 = k
    · rw [if_pos e2] at z; subst z; show 0 < look L k + n; omega
    · rw [if_neg e2] at z; subst z; exact h q hq
  · rw [if_neg e] at hp
    rcases List.mem_append.mp hp with hp | hp
    · exact h p hp
    · have : p = (k, look L k + n) := by simpa using hp
      subst this; show 0 < look L k + n; omega
theorem sm_one {L : List (κ × Nat)} (k : κ) (h : Keys L) : sm (fun j => if j = k then 1 else 0) L = look L k := by
  induction L with
  | nil => rfl
  | cons p L ih =>
    unfold Keys at h
    rw [List.map_cons, List.nodup_cons] at h
    rw [sm_cons, look_cons, ih h.2]
    by_cases e : p.1 = k
    · rw [if_pos e, if_pos e, look_none (by rw [← e]; exact h.1)]; simp
    · rw [if_neg e, if_neg e]; simp
theorem look_mem {L : List (κ × Nat)} (h : Keys L) {p : κ × Nat} (hp : p ∈ L) : look L p.1 = p.2 := by
  induction L with
  | nil => simp at hp
  | cons q L ih =>
    unfold Keys at h
    rw [List.map_cons, List.nodup_cons] at h
    rw [look_cons]
    rcases List.mem_cons.mp hp with rfl | hp
    · rw [if_pos rfl]
    · rw [if_neg, ih h.2 hp]
      intro e
      exact h.1 (by rw [e]; exact List.mem_map.mpr ⟨p, hp, rfl⟩)
theorem mem_look {L : List (κ × Nat)} {k : κ} (h : 0 < look L k) : (k, look L k) ∈ L := by
  induction L with
  | nil => exact absurd h (by show ¬ 0 < 0; decide)
  | cons q L ih =>
    rw [look_cons] at h ⊢
    by_cases e : q.1 = k
    · rw [if_pos e]; subst e; simp
    · rw [if_neg e] at h ⊢; exact List.mem_cons_of_mem _ (ih h)
/-- L tells of each key how many of us have it -/
structure Tells {α : Type} (L : List (κ × Nat)) (us : List α) (key : α → κ) : Prop where
  nd : Keys L
  ps : Psv L
  su : ∀ F : κ → Nat, sm F L = (us.map fun u => F (key u)).sum
  ks : ∀ k ∈ L.map (·.1), ∃ u ∈ us, key u = k
theorem Tells.perm {α β : Type} {L M : List (κ × Nat)} {us : List α} {vs : List β} {f : α → κ} {g : β → κ} (a : Tells L us f) (b : Tells M vs g)
    (h : ∀ F : κ → Nat, (us.map fun u => F (f u)).sum = (vs.map fun u => F (g u)).sum) : List.Perm L M := by
  have nodup_of : ∀ {L : List (κ × Nat)}, Keys L → L.Nodup := fun {L} h => (List.pairwise_map.mp h).imp fun h e => h (by rw [e])
  have lk : ∀ k, look L k = look M k := fun k => by
    rw [← sm_one k a.nd, ← sm_one k b.nd, a.su, b.su]
    exact h fun j => if j = k then 1 else 0
  refine (List.perm_ext_iff_of_nodup (nodup_of a.nd) (nodup_of b.nd)).mpr fun p => ⟨fun hp => ?_, fun hp => ?_⟩
  · have h1 := look_mem a.nd hp
    have h2 := a.ps p hp
    have h3 := mem_look (L := M) (k := p.1) (by rw [← lk, h1]; exact h2)
    rw [← lk, h1] at h3
    exact h3
  · have h1 := look_mem b.nd hp
    have h2 := b.ps p hp
    have h3 := mem_look (L := L) (k := p.1) (by rw [lk, h1]; exact h2)
    rw [lk, h1] at h3
    exact h3
theorem Tells.new {α : Type} (key : α → κ) : Tells ([] : List (κ × Nat)) ([] : List α) key := ⟨List.nodup_nil, fun _ h => by simp at h, fun _ => rfl, fun _ h => by simp at h⟩
theorem Tells.snoc {α : Type} {L : List (κ × Nat)} {us : List α} {key : α → κ} (a : Tells L us key) (u : α) : Tells (add L (key u) 1) (us ++ [u]) key where
  nd := keys_add _ _ a.nd
  ps := psv_add _ (by decide) a.ps
  su := fun F => by rw [sm_add F _ _ a.nd, a.su]; simp
  ks := fun k hk => by
    rcases mem_keys_add hk with e | e
    · exact ⟨u, by simp, e.symm⟩
    · obtain ⟨v, h1, h2⟩ := a.ks k e; exact ⟨v, by simp [h1], h2⟩
/-- a table of one key -/
theorem Tells.one {α : Type} {L : List (κ × Nat)} {us : List α} {key : α → κ} (a : Tells L us key) (hne : us ≠ []) {k : κ} (h : ∀ u ∈ us, key u = k) : L = [(k, us.length)] := by
  have hk : ∀ p ∈ L, p.1 = k := fun p hp => by
    obtain ⟨u, hu, e⟩ := a.ks p.1 (List.mem_map.mpr ⟨p, hp, rfl⟩)
    rw [← e]; exact h u hu
  have hs : Nj.sm (fun _ => 1) L = us.length := by rw [a.su]; simp [List.map_const']
  match L, a.nd, hk, hs with
  | [], _, _, hs =>
    exfalso
    exact hne (List.length_eq_zero_iff.mp hs.symm)
  | [p], _, hk, hs =>
    rw [sm_cons, sm_nil] at hs
    have h1 := hk p (by simp)
    obtain ⟨p1, p2⟩ := p
    simp only at h1 hs
    subst h1
    rw [show p2 = us.length by omega]
  | p :: q :: r, nd, hk, _ =>
    exfalso
    unfold Keys at nd
    rw [List.map_cons, List.map_cons, List.nodup_cons] at nd
    exact nd.1 (by rw [hk p (by simp), hk q (by simp)]; simp)
/-! one step of a level: of each key and letter the key behind it -/
section
variable {nk : κ → Nat → κ} {ok : κ → Nat → Bool} {cs : List Nat}
def stepK (nk : κ → Nat → κ) (ok : κ → Nat → Bool) (cs : List Nat) (acc : List (κ × Nat)) (p : κ × Nat) : List (κ × Nat) := cs.foldl (fun acc c => if ok p.1 c = true then add acc (nk p.1 c) p.2 else acc) acc
def nextK (nk : κ → Nat → κ) (ok : κ → Nat → Bool) (cs : List Nat) (L : List (κ × Nat)) : List (κ × Nat) := L.foldl (stepK nk ok cs) []
theorem stepK_sm (F : κ → Nat) (p : κ × Nat) (hp : 0 < p.2) : ∀ (cs : List Nat) (acc : List (κ × Nat)), Keys acc → Psv acc →
    Keys (stepK nk ok cs acc p) ∧ Psv (stepK nk ok cs acc p) ∧ sm F (stepK nk ok cs acc p) = sm F acc + p.2 * ((cs.filter (ok p.1)).map fun c => F (nk p.1 c)).sum ∧
    ∀ k ∈ (stepK nk ok cs acc p).map (·.1), k ∈ acc.map (·.1) ∨ ∃ c ∈ cs, ok p.1 c = true ∧ k = nk p.1 c
  | [], acc, h1, h2 => ⟨h1, h2, by simp [stepK], fun k hk => .inl hk⟩
  | c :: cs, acc, h1, h2 => by
    by_cases e : ok p.1 c = true
    · have s : stepK nk ok (c :: cs) acc p = stepK nk ok cs (add acc (nk p.1 c) p.2) p := by
        show cs.foldl _ (if ok p.1 c = true then add acc (nk p.1 c) p.2 else acc) = _
        rw [if_pos e]; rfl
      rw [s]
      obtain ⟨g1, g2, g3, g4⟩ := stepK_sm F p hp cs (add acc (nk p.1 c) p.2) (keys_add _ _ h1) (psv_add _ hp h2)
      refine ⟨g1, g2, ?_, fun k hk => ?_⟩
      · rw [g3, sm_add F _ _ h1, List.filter_cons, if_pos e, List.map_cons, List.sum_cons, Nat.mul_add]
        omega
      · rcases g4 k hk with h | ⟨c', hc, h3, h4⟩
        · rcases mem_keys_add h with h | h
          · exact .inr ⟨c, by simp, e, h⟩
          · exact .inl h
        · exact .inr ⟨c', by simp [hc], h3, h4⟩
    · have s : stepK nk ok (c :: cs) acc p = stepK nk ok cs acc p := by
        show cs.foldl _ (if ok p.1 c = true then add acc (nk p.1 c) p.2 else acc) = _
        rw [if_neg e]; rfl
      rw [s]
      obtain ⟨g1, g2, g3, g4⟩ := stepK_sm F p hp cs acc h1 h2
      refine ⟨g1, g2, ?_, fun k hk => ?_⟩
      · rw [g3, List.filter_cons, if_neg e]
      · rcases g4 k hk with h | ⟨c', hc, h3, h4⟩
        · exact .inl h
        · exact .inr ⟨c', by simp [hc], h3, h4⟩
theorem nextK_sm (F : κ → Nat) (cs : List Nat) : ∀ (L acc : List (κ × Nat)), Psv L → Keys acc → Psv acc →
    Keys (L.foldl (stepK nk ok cs) acc) ∧ Psv (L.foldl (stepK nk ok cs) acc) ∧ sm F (L.foldl (stepK nk ok cs) acc) = sm F acc + sm (fun k => ((cs.filter (ok k)).map fun c => F (nk k c)).sum) L ∧
    ∀ k ∈ (L.foldl (stepK nk ok cs) acc).map (·.1), k ∈ acc.map (·.1) ∨ ∃ j ∈ L.map (·.1), ∃ c ∈ cs, ok j c = true ∧ k = nk j c
  | [], acc, _, h1, h2 => ⟨h1, h2, by simp [sm], fun k hk => .inl hk⟩
  | p :: L, acc, hL, h1, h2 => by
    rw [List.foldl_cons]
    obtain ⟨g1, g2, g3, g4⟩ := stepK_sm (nk := nk) (ok := ok) F p (hL p (by simp)) cs acc h1 h2
    obtain ⟨k1, k2, k3, k4⟩ := nextK_sm F cs L _ (fun q hq => hL q (by simp [hq])) g1 g2
    refine ⟨k1, k2, ?_, fun k hk => ?_⟩
    · rw [k3, g3, sm_cons]
      omega
    · rcases k4 k hk with h | ⟨j, hj, c, hc, h3, h4⟩
      · rcases g4 k h with h | ⟨c, hc, h3, h4⟩
        · exact .inl h
        · exact .inr ⟨p.1, by simp, c, hc, h3, h4⟩
      · exact .inr ⟨j, by simp at hj ⊢; exact .inr hj, c, hc, h3, h4⟩
end
theorem sum_flat {α : Type} (f : α → List Tx) (G : Tx → Nat) : ∀ l : List α, ((l.flatMap f).map G).sum = (l.map fun u => ((f u).map G).sum).sum
  | [] => rfl
  | a :: l => by rw [List.flatMap_cons, List.map_append, List.sum_append, List.map_cons, List.sum_cons, sum_flat f G l]
/-- from the stretches of a length to those of one letter more -/
theorem Tells.next {W : Web} {key : Tx → κ} {nk : κ → Nat → κ} {ok : κ → Nat → Bool} {L : List (κ × Nat)} {us : List Tx} (a : Tells L us key)
    (hk : ∀ u ∈ us, ∀ c ∈ signs W, okc W u c = true → key (u ++ [c]) = nk (key u) c) (ho : ∀ u ∈ us, ∀ c ∈ signs W, okc W u c = ok (key u) c) : Tells (nextK nk ok (signs W) L) (longer W us) key := by
  have base := fun F => nextK_sm (nk := nk) (ok := ok) F (signs W) L [] a.ps List.nodup_nil (fun _ h => by simp at h)
  refine ⟨(base fun _ => 0).1, (base fun _ => 0).2.1, fun F => ?_, fun k hk' => ?_⟩
  · refine ((base F).2.2.1).trans ?_
    rw [sm_nil, Nat.zero_add, a.su]
    unfold longer
    rw [sum_flat]
    refine congrArg List.sum (List.map_congr_left fun u hu => ?_)
    rw [List.map_map]
    have e : (signs W).filter (ok (key u)) = (signs W).filter (okc W u) := List.filter_congr fun c hc => (ho u hu c hc).symm
    rw [e]
    refine congrArg List.sum (List.map_congr_left fun c hc => ?_)
    obtain ⟨h1, h2⟩ := List.mem_filter.mp hc
    show F (nk (key u) c) = F (key (u ++ [c]))
    rw [hk u hu c h1 h2]
  · rcases (base fun _ => 0).2.2.2 k hk' with h | ⟨j, hj, c, hc, h3, h4⟩
    · simp at h
    · obtain ⟨u, hu, e⟩ := a.ks j hj
      subst e
      have h3' : okc W u c = true := by rw [ho u hu c hc]; exact h3
      exact ⟨u ++ [c], mem_longer.mpr ⟨u, hu, c, hc, (okc_iff u c).mp h3', rfl⟩, by rw [hk u hu c hc h3', h4]⟩
/-- a table told anew by a part of its keys -/
def fold1 {ι : Type} [DecidableEq ι] (f : κ → ι) (L : List (κ × Nat)) : List (ι × Nat) := L.foldl (fun acc p => add acc (f p.1) p.2) []
theorem Tells.fold {ι : Type} [DecidableEq ι] {α : Type} {L : List (κ × Nat)} {us : List α} {key : α → κ} (f : κ → ι) (a : Tells L us key) : Tells (fold1 f L) us (fun u => f (key u)) := by
  have base : ∀ (F : ι → Nat) (L : List (κ × Nat)) (acc : List (ι × Nat)), Psv L → Keys acc → Psv acc → Keys (L.foldl (fun acc p => add acc (f p.1) p.2) acc) ∧ Psv (L.foldl (fun acc p => add acc (f p.1) p.2) acc) ∧
      sm F (L.foldl (fun acc p => add acc (f p.1) p.2) acc) = sm F acc + sm (fun k => F (f k)) L ∧ ∀ k ∈ (L.foldl (fun acc p => add acc (f p.1) p.2) acc).map (·.1), k ∈ acc.map (·.1) ∨ ∃ j ∈ L.map (·.1), k = f j := by
    intro F L
    induction L with
    | nil => intro acc _ h1 h2; exact ⟨h1, h2, by simp [sm], fun k hk => .inl hk⟩
    | cons p L ih =>
      intro acc hL h1 h2
      rw [List.foldl_cons]
      obtain ⟨g1, g2, g3, g4⟩ := ih (add acc (f p.1) p.2) (fun q hq => hL q (by simp [hq])) (keys_add _ _ h1) (psv_add _ (hL p (by simp)) h2)
      refine ⟨g1, g2, ?_, fun k hk => ?_⟩
      · rw [g3, sm_add F _ _ h1, sm_cons]; omega
      · rcases g4 k hk with h | ⟨j, hj, e⟩
        · rcases mem_keys_add h with h | h
          · exact .inr ⟨p.1, by simp, h⟩
          · exact .inl h
        · exact .inr ⟨j, by simp at hj ⊢; exact .inr hj, e⟩
  have b := fun F => base F L [] a.ps List.nodup_nil (fun _ h => by simp at h)
  refine ⟨(b fun _ => 0).1, (b fun _ => 0).2.1, fun F => ?_, fun k hk => ?_⟩
  · refine ((b F).2.2.1).trans ?_
    rw [sm_nil, Nat.zero_add, a.su]
  · rcases (b fun _ => 0).2.2.2 k hk with h | ⟨j, hj, e⟩
    · simp at h
    · obtain ⟨u, hu, e2⟩ := a.ks j hj
      exact ⟨u, hu, by rw [e2, e]⟩
end

/-! ### the longest ending that begins a word -/
def lsuf (B : Tx → Bool) : Tx → Tx
  | [] => []
  | a :: t => if B (a :: t) = true then a :: t else lsuf B t
theorem lsuf_id {B : Tx → Bool} {t : Tx} (h : B t = true) : lsuf B t = t := by
  cases t with
  | nil => rfl
  | cons a t => show (if B (a :: t) = true then _ else _) = _; rw [if_pos h]
theorem lsuf_snoc {B : Tx → Bool} (hB : ∀ t a, B (t ++ [a]) = true → B t = true) (c : Nat) : ∀ u : Tx, lsuf B (u ++ [c]) = lsuf B (lsuf B u ++ [c])
  | [] => rfl
  | a :: u => by
    by_cases h : B (a :: u) = true
    · rw [lsuf_id h]
    · have h2 : ¬ B (a :: (u ++ [c])) = true := fun z => h (hB (a :: u) c z)
      show (if B (a :: (u ++ [c])) = true then a :: (u ++ [c]) else lsuf B (u ++ [c])) = lsuf B ((if B (a :: u) = true then a :: u else lsuf B u) ++ [c])
      rw [if_neg h, if_neg h2]
      exact lsuf_snoc hB c u
/-- whether a word ends there -/
theorem ended_snoc {B p : Tx → Bool} (h : ∀ t a, p (t ++ [a]) = true → B t = true) (h0 : p [] = false) (c : Nat) : ∀ u : Tx, (suf p (lsuf B u ++ [c]) ≠ 0 ↔ suf p (u ++ [c]) ≠ 0)
  | [] => Iff.rfl
  | a :: u => by
    by_cases hb : B (a :: u) = true
    · rw [lsuf_id hb]
    · have ih := ended_snoc h h0 c u
      show (suf p ((if B (a :: u) = true then a :: u else lsuf B u) ++ [c]) ≠ 0 ↔ suf p (a :: (u ++ [c])) ≠ 0)
      rw [if_neg hb, ih, suf_cons]
      have : p (a :: (u ++ [c])) = false := by
        cases e : p (a :: (u ++ [c])) with
        | false => rfl
        | true => exact absurd (h (a :: u) c e) hb
      rw [this]
      simp [b2n]
end Nj
set_option linter.all false
/-! Books: the words as a list, their beginnings. -/
namespace Nj
def memP (ws : List Tx) (t : Tx) : Bool := decide (t ∈ ws)
theorem memP_iff {ws : List Tx} {t : Tx} : memP ws t = true ↔ t ∈ ws := by unfold memP; exact decide_eq_true_iff
/-- what is known of a book's words -/
structure BookOk (W : Web) (ws : List Tx) : Prop where
  bb : Bif (memP ws)
  fw : ∀ u ∈ ws, FW W u
  l10 : ∀ u ∈ ws, u.length ≤ 10
  n400 : ws.length ≤ 400
  srt : ws.Pairwise (· < ·)
theorem BookOk.nd {W : Web} {ws : List Tx} (B : BookOk W ws) : ws.Nodup := B.srt.imp fun {a b} h e => by
  subst e
  exact absurd h (List.lt_irrefl a)
def begB (ws : List Tx) (u : Tx) : Bool := u.isEmpty || ws.any fun t => decide (u.length < t.length) && decide (t.take u.length = u)
theorem begB_iff {ws : List Tx} {u : Tx} : begB ws u = true ↔ u = [] ∨ ∃ t ∈ ws, ∃ n, 1 ≤ n ∧ n < t.length ∧ u = t.take n := by
  unfold begB
  rw [Bool.or_eq_true, List.any_eq_true]
  constructor
  · rintro (h | ⟨t, ht, h⟩)
    · exact .inl (by simpa using h)
    · rw [Bool.and_eq_true, decide_eq_true_iff, decide_eq_true_iff] at h
      by_cases e : u = []
      · exact .inl e
      · have := List.length_pos_iff.mpr e
        exact .inr ⟨t, ht, u.length, by omega, h.1, h.2.symm⟩
  · rintro (h | ⟨t, ht, n, h1, h2, h3⟩)
    · exact .inl (by rw [h]; rfl)
    · have hn : u.length = n := by rw [h3, List.length_take]; omega
      refine .inr ⟨t, ht, ?_⟩
      rw [Bool.and_eq_true, decide_eq_true_iff, decide_eq_true_iff, hn]
      exact ⟨h2, h3.symm⟩
theorem begB_snoc {ws : List Tx} (t : Tx) (a : Nat) (h : begB ws (t ++ [a]) = true) : begB ws t = true := by
  rcases begB_iff.mp h with e | ⟨u, hu, n, h1, h2, h3⟩
  · simp at e
  · by_cases e : t = []
    · exact begB_iff.mpr (.inl e)
    · have hl : n = t.length + 1 := by
        have := congrArg List.length h3
        rw [List.length_append, List.length_take, List.length_singleton] at this
        omega
      have := List.length_pos_iff.mpr e
      refine begB_iff.mpr (.inr ⟨u, hu, t.length, by omega, by omega, ?_⟩)
      have h4 : (t ++ [a]).take t.length = t := by simp
      rw [h3, List.take_take, show min t.length n = t.length by omega] at h4
      exact h4.symm
theorem begB_word {ws : List Tx} (t : Tx) (a : Nat) (h : memP ws (t ++ [a]) = true) : begB ws t = true := by
  by_cases e : t = []
  · exact begB_iff.mpr (.inl e)
  · have := List.length_pos_iff.mpr e
    exact begB_iff.mpr (.inr ⟨t ++ [a], memP_iff.mp h, t.length, by omega, by rw [List.length_append, List.length_singleton]; omega, by simp⟩)
/-- a word's beginning or ending is no word -/
theorem BookOk.take_no {W : Web} {ws : List Tx} (B : BookOk W ws) {t : Tx} (h : t ∈ ws) {n : Nat} (h2 : n < t.length) : t.take n ∉ ws := fun z => by
  have := B.bb.pf _ _ (memP_iff.mpr z) (memP_iff.mpr h) (List.take_prefix n t)
  have := congrArg List.length this
  rw [List.length_take] at this
  omega
theorem BookOk.drop_no {W : Web} {ws : List Tx} (B : BookOk W ws) {t : Tx} (h : t ∈ ws) {n : Nat} (h1 : 1 ≤ n) (h2 : n ≤ t.length) : t.drop n ∉ ws := fun z => by
  have := B.bb.sf _ _ (memP_iff.mpr z) (memP_iff.mpr h) (List.drop_suffix n t)
  have := congrArg List.length this
  rw [List.length_drop] at this
  omega
end Nj
set_option linter.all false
/-! The tables of the levels and of the ways. -/
namespace Nj
def subs : List Nat → List (List Nat)
  | [] => [[]]
  | a :: l => subs l ++ (subs l).map (a :: ·)
theorem subs_len : ∀ l : List Nat, (subs l).length = 2 ^ l.length
  | [] => rfl
  | a :: l => by
    show (subs l ++ (subs l).map (a :: ·)).length = _
    rw [List.length_append, List.length_map, subs_len l, List.length_cons, Nat.pow_succ]
    omega
theorem filter_subs (p : Nat → Bool) : ∀ l : List Nat, l.filter p ∈ subs l
  | [] => by simp [subs]
  | a :: l => by
    show _ ∈ subs l ++ (subs l).map (a :: ·)
    rw [List.filter_cons, List.mem_append]
    by_cases h : p a = true
    · rw [if_pos h]
      exact .inr (List.mem_map.mpr ⟨_, filter_subs p l, rfl⟩)
    · rw [if_neg h]
      exact .inl (filter_subs p l)
theorem ends_subs {W : Web} (t : Tx) : ends W t ∈ subs (List.range W.P) := by
  rcases snoc_or t with e | ⟨u, c, e⟩
  · subst e
    have := filter_subs (fun _ => true) (List.range W.P)
    rw [List.filter_eq_self.mpr fun _ _ => rfl] at this
    exact this
  · rw [e, ends_snoc]
    exact filter_subs _ _
section
variable {W : Web} (G : GoodW W)
include G
theorem subs16 : (subs (List.range W.P)).length ≤ 16 := by
  rw [subs_len, List.length_range]
  have := Nat.pow_le_pow_right (show 0 < 2 by decide) G.p4
  exact this
/-- the table of a level: how many stretches have each set of ends -/
theorem level_len {L : List (List Nat × Nat)} {us : List Tx} (h : Tells L us (ends W)) : L.length ≤ 16 := by
  have h1 : (L.map (·.1)).length ≤ (subs (List.range W.P)).length := h.nd.length_le_of_subset fun k hk => by
    obtain ⟨u, _, e⟩ := h.ks k hk
    rw [← e]
    exact ends_subs u
  rw [List.length_map] at h1
  exact Nat.le_trans h1 (subs16 G)
def nkL (W : Web) (ps : List Nat) (c : Nat) : List Nat := stp W ps c
def okL (W : Web) (ps : List Nat) (c : Nat) : Bool := decide (0 < (stp W ps c).length)
omit G in
theorem level_next {L : List (List Nat × Nat)} {us : List Tx} (h : Tells L us (ends W)) : Tells (nextK (nkL W) (okL W) (signs W) L) (longer W us) (ends W) :=
  h.next (fun u _ c _ _ => ends_snoc u c) fun u _ c _ => by
    unfold okc okL
    rw [ends_snoc]
omit G in
theorem level_first : Tells [(List.range W.P, 1)] (stre W 0) (ends W) := (Tells.new (ends W)).snoc []
end
/-! ways -/
abbrev KW3 := List Nat × Tx × Nat
def kU (W : Web) (ws : List Tx) (u : Tx) : KW3 := (ends W u, lsuf (begB ws) u, cnt (memP ws) u)
def endB (ws : List Tx) (t : Tx) : Bool := decide (suf (memP ws) t ≠ 0)
def nkU (W : Web) (ws : List Tx) (k : KW3) (c : Nat) : KW3 := (stp W k.1 c, lsuf (begB ws) (k.2.1 ++ [c]), k.2.2 + b2n (!endB ws (k.2.1 ++ [c])))
def okU (W : Web) (k : KW3) (c : Nat) : Bool := decide (0 < (stp W k.1 c).length)
def begL (ws : List Tx) : List Tx := [] :: ws.flatMap fun t => (List.range 10).map fun n => t.take n
theorem begL_len (ws : List Tx) : (begL ws).length = 1 + 10 * ws.length := by
  unfold begL
  rw [List.length_cons]
  have : (ws.flatMap fun t => (List.range 10).map fun n => t.take n).length = 10 * ws.length := by
    induction ws with
    | nil => rfl
    | cons a l ih =>
      rw [List.flatMap_cons, List.length_append, ih, List.length_map, List.length_range, List.length_cons]
      omega
  omega
theorem lsuf_beg (B : Tx → Bool) (h0 : B [] = true) : ∀ t, B (lsuf B t) = true
  | [] => h0
  | a :: t => by
    show B (if B (a :: t) = true then a :: t else lsuf B t) = true
    by_cases h : B (a :: t) = true
    · rw [if_pos h]; exact h
    · rw [if_neg h]; exact lsuf_beg B h0 t
theorem begB_nil (ws : List Tx) : begB ws [] = true := begB_iff.mpr (.inl rfl)
section
variable {W : Web} {ws : List Tx} (G : GoodW W) (B : BookOk W ws)
include B
theorem beg_len {t : Tx} (h : begB ws t = true) : t.length ≤ 9 ∧ t ∈ begL ws := by
  rcases begB_iff.mp h with e | ⟨u, hu, n, h1, h2, e⟩
  · subst e
    exact ⟨by simp, by simp [begL]⟩
  · have := B.l10 u hu
    subst e
    refine ⟨by rw [List.length_take]; omega, ?_⟩
    unfold begL
    exact List.mem_cons_of_mem _ (List.mem_flatMap.mpr ⟨u, hu, List.mem_map.mpr ⟨n, List.mem_range.mpr (by omega), rfl⟩⟩)
theorem cnt_step (u : Tx) (c : Nat) : cnt (memP ws) (u ++ [c]) = cnt (memP ws) u + b2n (!endB ws (lsuf (begB ws) u ++ [c])) := by
  have h1 := cnt_snoc B.bb u c
  have h2 := B.bb.suf_le (u ++ [c])
  have h3 := ended_snoc (B := begB ws) (p := memP ws) begB_word B.bb.ne c u
  unfold endB
  by_cases e : suf (memP ws) (u ++ [c]) = 0
  · have : ¬ (suf (memP ws) (lsuf (begB ws) u ++ [c]) ≠ 0) := fun z => h3.mp z e
    rw [decide_eq_false this]
    show _ = _ + 1
    omega
  · have : suf (memP ws) (lsuf (begB ws) u ++ [c]) ≠ 0 := h3.mpr e
    rw [decide_eq_true this]
    show _ = _ + 0
    omega
theorem ways_next {L : List (KW3 × Nat)} {us : List Tx} (h : Tells L us (kU W ws)) : Tells (nextK (nkU W ws) (okU W) (signs W) L) (longer W us) (kU W ws) :=
  h.next (fun u _ c _ _ => by
    unfold kU nkU
    rw [ends_snoc, lsuf_snoc begB_snoc, cnt_step B]) fun u _ c _ => by
    unfold okc okU kU
    rw [ends_snoc]
omit B in
theorem ways_first : Tells [((List.range W.P, [], 1), 1)] (stre W 0) (kU W ws) := (Tells.new (kU W ws)).snoc []
include G
theorem ways_len {L : List (KW3 × Nat)} {us : List Tx} (h : Tells L us (kU W ws)) (h60 : ∀ u ∈ us, u.length ≤ 60) : L.length ≤ 4000000 := by
  have h1 : (L.map (·.1)).length ≤ ((subs (List.range W.P)).flatMap fun a => (begL ws).flatMap fun b => (List.range 62).map fun c => (a, b, c)).length := h.nd.length_le_of_subset fun k hk => by
    obtain ⟨u, hu, e⟩ := h.ks k hk
    rw [← e]
    refine List.mem_flatMap.mpr ⟨ends W u, ends_subs u, List.mem_flatMap.mpr ⟨lsuf (begB ws) u, (beg_len B (lsuf_beg _ (begB_nil ws) u)).2, List.mem_map.mpr ⟨cnt (memP ws) u, List.mem_range.mpr ?_, rfl⟩⟩⟩
    have := h60 u hu
    unfold cnt
    omega
  rw [List.length_map] at h1
  have h2 : ∀ (a : List Nat), ((begL ws).flatMap fun b => (List.range 62).map fun c => (a, b, c)).length ≤ 248062 := fun a => by
    rw [flat_sum]
    have : ∀ l : List Tx, (l.map fun b => ((List.range 62).map fun c => (a, b, c)).length).sum = 62 * l.length := fun l => by
      induction l with
      | nil => rfl
      | cons x l ih =>
        rw [List.map_cons, List.sum_cons, ih, List.length_map, List.length_range, List.length_cons]
        omega
    rw [this, begL_len]
    have := B.n400
    omega
  rw [flat_sum] at h1
  have h3 := subs16 G
  have h4 : ∀ l : List (List Nat), (l.map fun a => ((begL ws).flatMap fun b => (List.range 62).map fun c => (a, b, c)).length).sum ≤ 248062 * l.length := fun l => by
    induction l with
    | nil => simp
    | cons x l ih =>
      rw [List.map_cons, List.sum_cons, List.length_cons]
      have := h2 x
      omega
  have := h4 (subs (List.range W.P))
  omega
end
end Nj
set_option linter.all false
/-! Full books and other books. -/
namespace Nj
/-! order of texts -/
theorem tx_tri {a b : Tx} (h : a ≠ b) : a < b ∨ b < a := by
  by_cases h1 : a < b
  · exact .inl h1
  · by_cases h2 : b < a
    · exact .inr h2
    · exact absurd (List.le_antisymm (List.not_lt.mp h2) (List.not_lt.mp h1)) h
def leT (a b : Tx) : Bool := !decide (b < a)
theorem leT_trans (a b c : Tx) (h1 : leT a b = true) (h2 : leT b c = true) : leT a c = true := by
  unfold leT at h1 h2 ⊢
  simp only [Bool.not_eq_true', decide_eq_false_iff_not] at h1 h2 ⊢
  intro h
  by_cases e : a = b
  · subst e; exact h2 h
  · rcases tx_tri e with z | z
    · exact h2 (List.lt_trans h z)
    · exact h1 z
theorem leT_total (a b : Tx) : (leT a b || leT b a) = true := by
  unfold leT
  rw [Bool.or_eq_true]
  simp only [Bool.not_eq_true', decide_eq_false_iff_not]
  by_cases h : b < a
  · exact .inr (List.lt_asymm h)
  · exact .inl h
def sortT (ts : List Tx) : List Tx := ts.mergeSort leT
theorem mem_sortT {ts : List Tx} {t : Tx} : t ∈ sortT ts ↔ t ∈ ts := (List.mergeSort_perm ts leT).mem_iff
theorem sortT_len (ts : List Tx) : (sortT ts).length = ts.length := (List.mergeSort_perm ts leT).length_eq
theorem sortT_asc {ts : List Tx} (n : ts.Nodup) : (sortT ts).Pairwise (· < ·) := by
  have h1 := List.pairwise_mergeSort leT_trans leT_total ts
  have h2 : (sortT ts).Nodup := (List.mergeSort_perm ts leT).nodup_iff.mpr n
  refine (List.pairwise_and_iff.mpr ⟨h1, h2⟩).imp fun {a b} h => ?_
  obtain ⟨h3, h4⟩ := h
  unfold leT at h3
  simp only [Bool.not_eq_true', decide_eq_false_iff_not] at h3
  exact (tx_tri h4).resolve_right h3
/-! stretches stand in order -/
theorem lt_app : ∀ {a b : Tx} (x y : Tx), a.length = b.length → a < b → a ++ x < b ++ y
  | [], [], _, _, _, h => absurd h (List.lt_irrefl _)
  | [], _ :: _, _, _, e, _ => by simp at e
  | _ :: _, [], _, _, e, _ => by simp at e
  | p :: a, q :: b, x, y, e, h => by
    rw [List.cons_lt_cons_iff] at h
    show p :: (a ++ x) < q :: (b ++ y)
    rw [List.cons_lt_cons_iff]
    rcases h with h | ⟨h1, h2⟩
    · exact .inl h
    · exact .inr ⟨h1, lt_app x y (by simpa using e) h2⟩
theorem lt_same : ∀ (a : Tx) {x y : Tx}, x < y → a ++ x < a ++ y
  | [], _, _, h => h
  | p :: a, x, y, h => by
    show p :: (a ++ x) < p :: (a ++ y)
    rw [List.cons_lt_cons_iff]
    exact .inr ⟨rfl, lt_same a h⟩
section
variable {W : Web} (G : GoodW W)
theorem longer_asc {n : Nat} : ∀ {ts : List Tx}, (∀ t ∈ ts, t.length = n) → ts.Pairwise (· < ·) → (longer W ts).Pairwise (· < ·)
  | [], _, _ => List.Pairwise.nil
  | t :: ts, hl, h => by
    rw [List.pairwise_cons] at h
    unfold longer
    rw [List.flatMap_cons]
    refine List.pairwise_append.mpr ⟨?_, longer_asc (fun u hu => hl u (by simp [hu])) h.2, fun a ha b hb => ?_⟩
    · rw [List.pairwise_map]
      refine (signs_asc'.sublist List.filter_sublist).imp fun {a b} hab => lt_same t ?_
      rw [List.cons_lt_cons_iff]
      exact .inl hab
    · obtain ⟨c, _, e1⟩ := List.mem_map.mp ha
      obtain ⟨t', ht', c', _, _, e2⟩ := mem_longer.mp (show b ∈ longer W ts from hb)
      rw [← e1, e2]
      exact lt_app _ _ (by rw [hl t (by simp), hl t' (by simp [ht'])]) (h.1 t' ht')
where
  signs_asc' : (signs W).Pairwise (· < ·) := (show AZ.Pairwise (· < ·) by decide).sublist List.filter_sublist
include G
theorem stre_asc : ∀ n, (stre W n).Pairwise (· < ·)
  | 0 => by show [([] : Tx)].Pairwise _; simp
  | n + 1 => longer_asc (fun t ht => ((mem_stre G n t).mp ht).2) (stre_asc n)
end
/-! words alike on the texts within a text -/
theorem pre_congr {p q : Tx → Bool} {t : Tx} (h : ∀ r, r <:+: t → p r = q r) : pre p t = pre q t := countP_congr' fun k _ => h _ (List.take_prefix _ _).isInfix
theorem occ_congr {p q : Tx → Bool} : ∀ t : Tx, (∀ r, r <:+: t → p r = q r) → occ p t = occ q t
  | [], _ => rfl
  | a :: t, h => by
    show pre p (a :: t) + occ p t = pre q (a :: t) + occ q t
    rw [pre_congr h, occ_congr t fun r hr => h r (List.infix_cons hr)]
theorem cnt_congr {p q : Tx → Bool} {t : Tx} (h : ∀ r, r <:+: t → p r = q r) : cnt p t = cnt q t := by
  unfold cnt
  rw [occ_congr t h]
theorem Lang.infix {F : Tx → Prop} (A : Lang F) {r t : Tx} (h : F t) (hr : r <:+: t) : F r := by
  obtain ⟨a, b, rfl⟩ := hr
  exact A.sfx' a r (A.pfx' b _ h)
theorem occ_sum (p : Tx → Bool) : ∀ t : Tx, occ p t = ((List.range t.length).map fun b => pre p (t.drop b)).sum
  | [] => rfl
  | a :: t => by
    rw [List.length_cons, List.range_succ_eq_map, List.map_cons, List.sum_cons, List.map_map]
    show pre p (a :: t) + occ p t = pre p (a :: t) + _
    rw [occ_sum p t]
    rfl
theorem Bif.mono {p q : Tx → Bool} (B : Bif q) (h : ∀ t, p t = true → q t = true) : Bif p where
  ne := by
    cases e : p [] with
    | false => rfl
    | true =>
      have := h _ e
      rw [B.ne] at this
      cases this
  pf := fun u v hu hv => B.pf u v (h u hu) (h v hv)
  sf := fun u v hu hv => B.sf u v (h u hu) (h v hv)
/-- all stretches at least as long as the longest word have d ways -/
structure FullBook (W : Web) (ws : List Tx) (d : Nat) : Prop where
  bk : BookOk W ws
  ne : ws ≠ []
  ways : ∀ t, FW W t → (∀ u ∈ ws, u.length ≤ t.length) → cnt (memP ws) t = d
section
variable {W : Web} (G : GoodW W)
include G
theorem full_made {lot ws : List Tx} {d m : Nat} (M : Many (FW W) (memP lot) d m (stre W m) lot) (h9 : m ≤ 9) (hS : (stre W m).length ≤ 160) (hs : ws.Pairwise (· < ·)) (hm : ∀ t, t ∈ ws ↔ FW W t ∧ isW (memP lot) d t = true) : FullBook W ws d := by
  have hn : ws.Nodup := hs.imp fun {a b} h e => by subst e; exact absurd h (List.lt_irrefl a)
  refine ⟨⟨M.u.k.bif.mono fun t h => ((hm t).mp (memP_iff.mp h)).2, fun u hu => ((hm u).mp hu).1, fun u hu => ?_, ?_, hs⟩, fun e => ?_, fun t ht hl => ?_⟩
  · have := M.u.short ((hm u).mp hu).1 ((hm u).mp hu).2
    omega
  · refine M.most h9 hS (fun h4 => Nat.le_trans (stre_le G m) ?_) hn fun x hx => (hm x).mp hx
    exact Nat.pow_le_pow_right (show 0 < 3 by decide) h4
  · obtain ⟨t, h1, h2⟩ := M.u.some
    have := (hm t).mpr ⟨h1, h2⟩
    rw [e] at this
    cases this
  · have h1 : cnt (memP ws) t = cnt (isW (memP lot) d) t := cnt_congr fun r hr => by
      have hF := G.lang.infix ht hr
      rw [Bool.eq_iff_iff, memP_iff, hm]
      exact ⟨fun h => h.2, fun h => ⟨hF, h⟩⟩
    rw [h1]
    exact M.u.ways (ℓ := t.length) (fun u h1 h2 => hl u ((hm u).mpr ⟨h1, h2⟩)) ht (Nat.le_refl _)
theorem full_flat {k : Nat} (k1 : 1 ≤ k) (k3 : k ≤ 3) : FullBook W (stre W k) k := by
  have hb : Bif (memP (stre W k)) := by
    refine ⟨?_, fun u v hu hv h => ?_, fun u v hu hv h => ?_⟩
    · cases e : memP (stre W k) [] with
      | false => rfl
      | true =>
        have := ((mem_stre G k []).mp (memP_iff.mp e)).2
        simp at this
        omega
    · exact h.eq_of_length (by rw [((mem_stre G k u).mp (memP_iff.mp hu)).2, ((mem_stre G k v).mp (memP_iff.mp hv)).2])
    · exact h.eq_of_length (by rw [((mem_stre G k u).mp (memP_iff.mp hu)).2, ((mem_stre G k v).mp (memP_iff.mp hv)).2])
  refine ⟨⟨hb, fun u hu => ((mem_stre G k u).mp hu).1, fun u hu => ?_, ?_, stre_asc G k⟩, stre_ne G k, fun t ht hl => ?_⟩
  · rw [((mem_stre G k u).mp hu).2]; omega
  · have h1 := stre_le G k
    have h2 := Nat.pow_le_pow_right (show 0 < 3 by decide) k3
    omega
  · have key : ∀ (n : Nat) (t : Tx), t.length = n → FW W t → cnt (memP (stre W k)) t = min (n + 1) k := by
      intro n
      induction n with
      | zero =>
        intro t h _
        rw [List.length_eq_zero_iff.mp h]
        show 1 = _
        omega
      | succ n ih =>
        intro t h hf
        rcases snoc_or t with e | ⟨u, a, e⟩
        · rw [e] at h; simp at h
        · subst e
          have hul : u.length = n := by rw [List.length_append, List.length_singleton] at h; omega
          have h1 := ih u hul (G.lang.pfx _ _ hf)
          have h2 := cnt_snoc hb u a
          have h3 := hb.suf_le (u ++ [a])
          by_cases hk : n + 1 < k
          · have : suf (memP (stre W k)) (u ++ [a]) = 0 := by
              unfold suf
              refine List.countP_eq_zero.mpr fun j hj z => ?_
              have := ((mem_stre G k _).mp (memP_iff.mp z)).2
              rw [List.length_drop, h] at this
              omega
            omega
          · have : 0 < suf (memP (stre W k)) (u ++ [a]) := by
              unfold suf
              refine List.countP_pos_iff.mpr ⟨n + 1 - k, List.mem_range.mpr (by rw [h]; omega), memP_iff.mpr ((mem_stre G k _).mpr ⟨G.lang.infix hf (List.drop_suffix _ _).isInfix, ?_⟩)⟩
              rw [List.length_drop, h]
              omega
            omega
    obtain ⟨u, hu⟩ := List.exists_mem_of_ne_nil _ (stre_ne G k)
    have h1 := hl u hu
    rw [((mem_stre G k u).mp hu).2] at h1
    rw [key t.length t rfl ht]
    omega
end
/-! texts that fit -/
def clB (a b : Tx) : Bool := if a.length > b.length then (decide (a.take b.length = b) || decide (a.drop (a.length - b.length) = b)) else (decide (b.take a.length = a) || decide (b.drop (b.length - a.length) = a))
def fitB (ws : List Tx) (t : Tx) : Bool := !t.isEmpty && !ws.any fun u => clB u t
theorem clB_no {a b : Tx} (h : clB a b = false) : ¬ a <+: b ∧ ¬ b <+: a ∧ ¬ a <:+ b ∧ ¬ b <:+ a := by
  unfold clB at h
  have hp : ∀ {x y : Tx}, x <+: y → y.take x.length = x := fun h => (List.prefix_iff_eq_take.mp h).symm
  have hs : ∀ {x y : Tx}, x <:+ y → y.drop (y.length - x.length) = x := fun h => (List.suffix_iff_eq_drop.mp h).symm
  by_cases hl : a.length > b.length
  · rw [if_pos hl, Bool.or_eq_false_iff, decide_eq_false_iff_not, decide_eq_false_iff_not] at h
    refine ⟨fun z => ?_, fun z => h.1 (hp z), fun z => ?_, fun z => h.2 (hs z)⟩
    · have := z.length_le; omega
    · have := z.length_le; omega
  · rw [if_neg hl, Bool.or_eq_false_iff, decide_eq_false_iff_not, decide_eq_false_iff_not] at h
    refine ⟨fun z => h.1 (hp z), fun z => ?_, fun z => h.2 (hs z), fun z => ?_⟩
    · by_cases e : a.length = b.length
      · have := z.eq_of_length e.symm
        subst this
        exact h.1 (hp z)
      · have := z.length_le; omega
    · by_cases e : a.length = b.length
      · have := z.eq_of_length e.symm
        subst this
        exact h.2 (hs z)
      · have := z.length_le; omega
/-- texts chosen one by one -/
structure Draft (W : Web) (n l : Nat) (fs : List Tx) : Prop where
  bb : Bif (memP fs)
  fw : ∀ u ∈ fs, FW W u
  ll : ∀ u ∈ fs, u.length ≤ l
  nn : fs.length ≤ n
  nd : fs.Nodup
theorem bif_nil : Bif (memP []) := ⟨rfl, fun _ _ h => absurd h (by simp [memP]), fun _ _ h => absurd h (by simp [memP])⟩
theorem Draft.new (W : Web) (l : Nat) : Draft W 0 l [] := ⟨bif_nil, fun _ h => (by cases h), fun _ h => (by cases h), Nat.le_refl _, List.nodup_nil⟩
theorem Draft.more {W : Web} {n n' l : Nat} {fs : List Tx} (D : Draft W n l fs) (h : n ≤ n') : Draft W n' l fs := ⟨D.bb, D.fw, D.ll, Nat.le_trans D.nn h, D.nd⟩
theorem Draft.add {W : Web} {n l : Nat} {fs : List Tx} {t : Tx} (D : Draft W n l fs) (h1 : FW W t) (h2 : t.length ≤ l) (h3 : t ∉ fs) (h4 : fitB fs t = true) : Draft W (n + 1) l (fs ++ [t]) := by
  unfold fitB at h4
  rw [Bool.and_eq_true, Bool.not_eq_true', Bool.not_eq_true'] at h4
  obtain ⟨h4, h5⟩ := h4
  have hno : ∀ u ∈ fs, clB u t = false := fun u hu => by
    rw [List.any_eq_false] at h5
    have := h5 u hu
    simpa using this
  refine ⟨⟨?_, fun u v hu hv h => ?_, fun u v hu hv h => ?_⟩, fun u hu => ?_, fun u hu => ?_, by rw [List.length_append, List.length_singleton]; have := D.nn; omega, ?_⟩
  · cases e : memP (fs ++ [t]) [] with
    | false => rfl
    | true =>
      rcases List.mem_append.mp (memP_iff.mp e) with z | z
      · have := D.bb.ne
        rw [memP_iff.mpr z] at this
        cases this
      · rw [← List.mem_singleton.mp z] at h4
        cases h4
  · rcases List.mem_append.mp (memP_iff.mp hu) with z | z <;> rcases List.mem_append.mp (memP_iff.mp hv) with y | y
    · exact D.bb.pf u v (memP_iff.mpr z) (memP_iff.mpr y) h
    · rw [List.mem_singleton.mp y] at h
      exact absurd h (clB_no (hno u z)).1
    · rw [List.mem_singleton.mp z] at h
      exact absurd h (clB_no (hno v y)).2.1
    · rw [List.mem_singleton.mp z, List.mem_singleton.mp y]
  · rcases List.mem_append.mp (memP_iff.mp hu) with z | z <;> rcases List.mem_append.mp (memP_iff.mp hv) with y | y
    · exact D.bb.sf u v (memP_iff.mpr z) (memP_iff.mpr y) h
    · rw [List.mem_singleton.mp y] at h
      exact absurd h (clB_no (hno u z)).2.2.1
    · rw [List.mem_singleton.mp z] at h
      exact absurd h (clB_no (hno v y)).2.2.2
    · rw [List.mem_singleton.mp z, List.mem_singleton.mp y]
  · rcases List.mem_append.mp hu with z | z
    · exact D.fw u z
    · rw [List.mem_singleton.mp z]; exact h1
  · rcases List.mem_append.mp hu with z | z
    · exact D.ll u z
    · rw [List.mem_singleton.mp z]; exact h2
  · refine List.nodup_append.mpr ⟨D.nd, by simp, fun x hx y hy e => ?_⟩
    subst e
    have : x = t := by simpa using hy
    subst this
    exact h3 hx
theorem Draft.book {W : Web} {n l : Nat} {fs : List Tx} (D : Draft W n l fs) (hn : n ≤ 400) (hl : l ≤ 10) : BookOk W (sortT fs) := by
  refine ⟨D.bb.mono fun t h => memP_iff.mpr (mem_sortT.mp (memP_iff.mp h)), fun u hu => D.fw u (mem_sortT.mp hu), fun u hu => Nat.le_trans (D.ll u (mem_sortT.mp hu)) hl, ?_, sortT_asc D.nd⟩
  rw [sortT_len]
  exact Nat.le_trans D.nn hn
/-- some of the words -/
theorem BookOk.sub {W : Web} {ws vs : List Tx} (B : BookOk W ws) (h : vs.Sublist ws) : BookOk W vs :=
  ⟨B.bb.mono fun t z => memP_iff.mpr (h.subset (memP_iff.mp z)), fun u hu => B.fw u (h.subset hu), fun u hu => B.l10 u (h.subset hu), Nat.le_trans h.length_le B.n400, B.srt.sublist h⟩
theorem BookOk.none (W : Web) : BookOk W [] := ⟨bif_nil, fun _ h => (by cases h), fun _ h => (by cases h), Nat.zero_le _, List.Pairwise.nil⟩
end Nj
set_option Elab.async false
set_option linter.all false
set_option maxRecDepth 100000
set_option maxHeartbeats 4000000
/-! Rules of my own over the layer: sorted, <, in of data. -/
namespace Nj
open PySem PySem.Spec PyProof.Rows L2

section
variable {X : Cx}
/-- sorted(xs): a list whose items read as data of one shape -/
def rSortD (K : PySem.W.Frag) : List V → Hp → VK → Prop := fun vs H Q => ∃ (a : Addr) (xs : List (V × PyData)), vs = [V.ref a] ∧ SqL K H a (xs.map (·.1)) ∧ (∀ x ∈ xs, Dp K H x.1 x.2) ∧
  PySem.W.AllAlike (xs.map (·.2)) ∧ PySem.W.Sortable (xs.map (·.2)) ∧ (∀ x ∈ xs, x.2.depth ≤ 60) ∧
  ∀ p, H p = none → Q (.ref p) (upd H p (.lst ((xs.mergeSort (PySem.W.dataLe false (·.2))).map (·.1))))
theorem each_pairs {s : Shared} {pins : List (Addr × Obj)} {σ : L2.St} {H : Hp} (I : Inv X pins σ H s) : ∀ {xs : List (V × PyData)} {us : List Value}, Vals (xs.map (·.1)) us → (∀ x ∈ xs, Dp X.K H x.1 x.2) →
    PySem.W.EachIs (fun v (b : V × PyData) => RelV b.1 v) us xs ∧ PySem.W.EachIs (fun v (b : V × PyData) => ∃ as, Reads s.heap v b.2 as) us xs
  | [], _, r, _ => by cases r; exact ⟨.nil, .nil⟩
  | x :: xs, _, r, h => by
    cases r with
    | cons r1 r2 =>
      obtain ⟨g1, g2⟩ := each_pairs I r2 fun y hy => h y (List.mem_cons_of_mem _ hy)
      exact ⟨.cons r1 g1, .cons (Dp.reads I _ _ _ (h x List.mem_cons_self) r1) g2⟩
theorem vals_each : ∀ {us : List Value} {xs : List (V × PyData)}, PySem.W.EachIs (fun v (b : V × PyData) => RelV b.1 v) us xs → Vals (xs.map (·.1)) us
  | _, _, .nil => .nil
  | _, _, .cons h t => .cons h (vals_each t)
theorem cr_sortD (hu : X.A.units + 64 < cLine) : CallR X (.builtin "sorted") (rSortD X.K) := by
  intro pins s σ H vs us Q I r h
  obtain ⟨a, xs, rfl, hs, hd, hal, hk, hdep, q⟩ := h
  obtain ⟨its, rv, hl, hz⟩ := I.list hs
  obtain ⟨u, rfl, ru⟩ := vals1 r
  obtain rfl : u = Value.ref a := ru
  obtain ⟨e1, e2⟩ := each_pairs I rv hd
  rw [List.length_map] at hz
  refine PySem.W.sorted_data (enc := fun b : V × PyData => b.2) hl.isList e1 e2 hal hk hz (fun b hb => ?_) fun out hlen ho => ?_
  · have := hdep b hb
    omega
  · obtain ⟨c, hc⟩ := sortedAll_at s.heap its (List.toArray out)
    refine ⟨.ref (s.heap.objs.size + 1), upd H (s.heap.objs.size + 1) (.lst ((xs.mergeSort (PySem.W.dataLe false (·.2))).map (·.1))), I.laid (t' := s.toks) (fun b o e => sortedAll_old e) (Nat.le_succ _) ⟨?_, out, c, vals_each ho, hc⟩, rfl, q _ (I.hok.fresh (Nat.le_succ _))⟩
    rw [List.length_map, List.length_mergeSort]
    exact hz
/-- x < y of data of one shape -/
def rLtD (K : PySem.W.Frag) : R2 := fun x y H Q => ∃ d e, Dp K H x d ∧ Dp K H y e ∧ PySem.W.alike d e = true ∧ d ≠ .none ∧ d.depth ≤ 60 ∧ Q (.bl (PySem.W.dataLt d e)) H
theorem op_ltD (hu : X.A.units + 64 < cLine) : OpR X (compareOp .Lt) (rLtD X.K) := by
  intro pins s σ H x y v u Q I rx ry h
  obtain ⟨d, e, hd, he, al, hn, hdep, q⟩ := h
  obtain ⟨as, r1⟩ := Dp.reads I d x v hd rx
  obtain ⟨bs, r2⟩ := Dp.reads I e y u he ry
  exact PySem.W.lt_data r1 r2 al hn (by omega) ⟨.bl _, H, I, rfl, q⟩
/-- x in a tuple of data -/
def rInTD (K : PySem.W.Frag) : R2 := fun x y H Q => ∃ d ds, Dp K H x d ∧ Dp K H y (.tuple ds) ∧ SeqAt.shaped d = true ∧ SeqAt.shaped (.tuple ds) = true ∧ Q (.bl (ds.any fun z => PyData.eqv z d)) H
theorem op_inTD (hu : X.A.units + 65 < cLine) : OpR X (compareOp .In) (rInTD X.K) := by
  intro pins s σ H x y v u Q I rx ry h
  obtain ⟨d, ds, hd, he, sd, se, q⟩ := h
  obtain ⟨as, r1⟩ := Dp.reads I d x v hd rx
  obtain ⟨bs, r2⟩ := Dp.reads I (.tuple ds) y u he ry
  have h1 : PyData.canLayAll0 ds = true := by
    have := SeqAt.canLay_of_shaped se
    simpa [PyData.canLay0] using this
  exact SeqAt.in_tuple_reads r2 r1 h1 (SeqAt.canLay_of_shaped sd) (room_in_shaped sd hu) ⟨.bl _, H, I, rfl, q⟩
/-- an expression that is never reached -/
theorem pe_never {e : Expr} : PE X e (fun _ _ _ => False) := ⟨fun _ _ _ _ _ _ h => h.elim⟩
end
end Nj
set_option Elab.async false
set_option linter.all false
set_option maxRecDepth 100000
set_option maxHeartbeats 4000000
/-! enumerate(t), t a tuple. -/
namespace Nj
open PySem PySem.Spec PyProof.Rows L2

set_option maxHeartbeats 1000000 in
theorem enum_newB {v : Value} {ob : Obj} {G : Heap → Prop} (B : Begins v ob G) :
    Meets (Builtin.«enumerate.__new__» ⟨[.type "enumerate", v], []⟩) (fun _ R s0 => G s0.heap ∧
      R (.ok (.ret (.ref (s0.heap.push ob).objs.size))) { s0 with heap := (s0.heap.push ob).push { cls := .type "enumerate", data := .fields #[.none, .bool false, .ref s0.heap.objs.size, rawInt 0, .none, .none] } }) :=
  .of_wp fun prog w A R s0 hh => by
    obtain ⟨hp0, gn, dr, tk0, os0⟩ := s0
    obtain ⟨g1, hh⟩ := hh
    have isSub := sub_enumerate
    have it1 : ∀ {A' : Around} {E' : Value → Shared → Prop} {Q' : Value → Shared → Prop}, Q' (.ref hp0.objs.size) ⟨hp0.push ob, gn, dr, tk0, os0⟩ → wpAny (model prog w) A' (pyIter v) Q' E' ⟨hp0, gn, dr, tk0, os0⟩ :=
      fun q => B.iter prog w _ _ ⟨hp0, gn, dr, tk0, os0⟩ _ g1 q
    wp_walk using it1
    refine wpAny_stack_any fun _ => wpAny_pure ?_
    split
    · rename_i cl0 _ _ _ _ _
      cases (cl0 == Value.type "enumerate") <;> (wp_walk using it1; exact ⟨_, rfl, hh⟩)
    · wp_walk using it1
      exact ⟨_, rfl, hh⟩
theorem enum_call {prog : Program} {w : World} {A : Around} {E : Value → Shared → Prop} {s : Shared} {v : Value} {ob : Obj} {G : Heap → Prop} {Q : Value → Shared → Prop} (B : Begins v ob G) (g1 : G s.heap)
    (hq : ∀ h', IsEnum h' (s.heap.objs.size + 1) s.heap.objs.size 0 .none → h'.get? s.heap.objs.size = some ob → (∀ b o, s.heap.get? b = some o → h'.get? b = some o) → Q (.ref (s.heap.objs.size + 1)) { s with heap := h' }) :
    wpAny (model prog w) A (call (.type "enumerate") [v]) Q E s := by
  refine callType_new F.called_enumerate (by decide) (F.typeCall_enumerate_1 _) (F.newCall_enumerate_1 _) (fun o2 => F.args_object_init_2 o2 _) F.entry_enumerate_new (enum_newB B) ⟨g1, ?_⟩
  have sz1 : (s.heap.push ob).objs.size = s.heap.objs.size + 1 := Heap.size_push ..
  show _ ∧ _
  rw [sz1]
  have isE : IsEnum ((s.heap.push ob).push { cls := .type "enumerate", data := .fields #[.none, .bool false, .ref s.heap.objs.size, rawInt 0, .none, .none] }) (s.heap.objs.size + 1) s.heap.objs.size 0 .none := by
    have z := Heap.get?_push_size (s.heap.push ob) (o := { cls := .type "enumerate", data := .fields #[.none, .bool false, .ref s.heap.objs.size, rawInt 0, .none, .none] }) rfl
    rw [sz1] at z
    exact z
  exact ⟨⟨_, isE, rfl⟩, hq _ isE (Heap.get?_push_of_some _ (Heap.get?_push_size _ B.free)) fun b o x => Heap.get?_push_of_some _ (Heap.get?_push_of_some _ x)⟩

/-- the items of the tuple at a, numbered, each in a new pair -/
def Iet (K : PySem.W.Frag) (a : Addr) (xs : List V) : It :=
  ⟨fun i H => SqT K H a xs ∧ i < xs.length, fun i H v H' => ∃ T x, v = .ref T ∧ H T = none ∧ H' = upd H T (.tup [.int (i : Nat), x]) ∧ xs[i]? = some x, fun i H => SqT K H a xs ∧ i = xs.length⟩
theorem turn_et {P : Program} {w : World} {K : PySem.W.Frag} {elts : List Expr} {kk : Nat} {tpos : PySem.Pos} {xs : List V} (a e it : Addr) :
    Turn P w K (.Tuple elts kk tpos) (Iet K a xs) [e, it] e (fun i h => (∃ old, IsEnum h e it ((i : Nat) : Int) old) ∧ h.IsTupleIter it a i ∧ e ≠ it) where
  mem := by simp
  obj := fun i h st b hb => by
    obtain ⟨⟨old, isE⟩, ⟨oi, hoi, hci, hdi⟩, _⟩ := st
    rcases (show b = e ∨ b = it by simpa using hb) with rfl | rfl
    · exact ⟨_, isE, fun v q => nomatch q⟩
    · exact ⟨oi, hoi, fun v q => by rw [hdi] at q; cases q⟩
  keep := fun i h h' st k => ⟨let ⟨old, isE⟩ := st.1; ⟨old, k e (by simp) _ isE⟩, st.2.1.at fun o q => k it (by simp) o q, st.2.2⟩
  item := by
    intro X hP hw hK hc i pins s σ H E I hf st hg
    subst hP hw hK
    obtain ⟨⟨old, isE⟩, hit, hne⟩ := st
    obtain ⟨hq, hi⟩ := hg
    obtain ⟨its, rv, tp, hz⟩ := I.tuple hq
    have hlen := rv.length
    have tp2 : s.heap.IsTuple a its.toArray := tp
    obtain ⟨oa, hoa, hca, _⟩ := id tp
    obtain ⟨oi, hoi, hci, hdi⟩ := id hit
    have ae : a ≠ e := fun z => by
      subst z
      rw [show s.heap.get? a = some _ from isE] at hoa
      cases hoa
      exact absurd (show Value.type "enumerate" = Value.type "tuple" from hca) (by decide)
    have ai : a ≠ it := fun z => by
      subst z
      rw [hoa] at hoi
      cases hoi
      rw [hca] at hci
      exact absurd hci (by decide)
    have hel : e < s.heap.objs.size := Heap.lt_size isE
    have hil : it < s.heap.objs.size := Heap.lt_size hoi
    refine wpAny_pyNext_enum_itemD (Draws.tuple (A := X.A.in1) (I.ok.hd hc) it a ai its.toArray) isE ⟨hit, tp2⟩ (by simp; omega) hne (by simp [hne, ae.symm]) fun x h' tk hx ho st1 hT hsz hk => ?_
    refine ⟨_, rfl, wpAny_letOwnedTupleGo_enum (s := { s with heap := h', toks := tk + 1 }) ho fun h'' isE' sb => ?_⟩
    have hT2 : h''.get? s.heap.objs.size = some { cls := .type "tuple", data := .seq #[.int i tk, x] } := (sb.2 _ (Nat.ne_of_gt hel)).trans hT
    obtain ⟨y, hy⟩ : ∃ y, xs[i]? = some y := ⟨xs[i], List.getElem?_eq_getElem hi⟩
    obtain ⟨u, hu, ru⟩ := rv.get hy
    have hux : x = u := by
      have hx' : its[i]? = some x := by simpa using hx
      rw [hu] at hx'
      exact (Option.some.inj hx').symm
    subst hux
    have new : ObjOk X.prog X.w (upd H s.heap.objs.size (.tup [.int (i : Nat), y])) h'' s.heap.objs.size (.tup [.int (i : Nat), y]) :=
      ⟨by show 2 ≤ sizeLine; decide, [.int i tk, x], .cons ⟨_, rfl⟩ (.cons ru .nil), ⟨_, hT2, rfl, _, rfl⟩⟩
    have J : Inv X pins σ (upd H s.heap.objs.size (.tup [.int (i : Nat), y])) { s with heap := h'', toks := tk + 1 } :=
      I.turnedNew (ch := [e, it]) (fun b o hb q => (sb.2 b fun z => hb (by simp [z])).trans (hk b o (fun z => hb (by simp [z])) (fun z => hb (by simp [z])) q)) hf (Nat.le_refl _) new
    refine ⟨.ref s.heap.objs.size, _, J, rfl, ⟨_, y, rfl, I.hok.fresh (Nat.le_refl _), rfl, hy⟩, ⟨⟨x, ?_⟩, st1.1.at fun o q => (sb.2 it hne.symm).trans q, hne⟩, fun b hb => ?_⟩
    · have e1 : ((i + 1 : Nat) : Int) = (i : Int) + 1 := by omega
      rw [e1]
      exact isE'
    · have hb' : b < s.heap.objs.size := by
        rcases (show b = e ∨ b = it by simpa using hb) with rfl | rfl
        · exact hel
        · exact hil
      rw [upd_ne (Nat.ne_of_lt hb')]
      exact (hf b hb).1
  done := by
    intro X hP hw hK hc i pins s σ H E I hf st hg
    subst hP hw hK
    obtain ⟨⟨old, isE⟩, hit, hne⟩ := st
    obtain ⟨hq, rfl⟩ := hg
    obtain ⟨its, rv, tp, hz⟩ := I.tuple hq
    have hlen := rv.length
    have tp2 : s.heap.IsTuple a its.toArray := tp
    obtain ⟨oa, hoa, hca, _⟩ := id tp
    obtain ⟨oi, hoi, hci, hdi⟩ := id hit
    have ai : a ≠ it := fun z => by
      subst z
      rw [hoa] at hoi
      cases hoi
      rw [hca] at hci
      exact absurd hci (by decide)
    obtain ⟨f0, f1, f2, f3, f4, f5⟩ := hf it (by simp)
    refine wpAny_pyNext_enum_endD (Draws.tuple (A := X.A.in1) (I.ok.hd hc) it a ai its.toArray) isE ⟨?_, tp2⟩ fun h' eb => ⟨rfl, I.turned (t' := s.toks) (fun b o hb q => eb b o hb q) f0 f1 f3 f4 f5⟩
    have : its.toArray.size = xs.length := by simp [hlen]
    rw [this]
    exact hit
  self := fun A i s Q E st h => let ⟨old, isE⟩ := st.1; wpAny_pyIter_enum isE h
def iEnumT (K : PySem.W.Frag) (ta : TA) : TI := fun σ H R => ta σ H fun vs H1 => ∃ a xs, vs = [.ref a] ∧ SqT K H1 a xs ∧ R (Iet K a xs) H1
theorem pi_enumT {X : Cx} {e : Expr} {ta : TA} {p pos tpos : PySem.Pos} {elts : List Expr} {kk : Nat} (hg : Gl X "enumerate") (hm : X.mg "enumerate" = none) (ha : PA X [e] ta) (hs : starEach [e] X.env = [(false, eval e X.env)] := by rfl) :
    PI X (.Tuple elts kk tpos) (.Call (.Name "enumerate" p) [e] [] pos) (iEnumT X.K ta) := by
  constructor
  intro pins s σ H R I h
  refine Call_ (ld_blt I hg hm boot_enumerate (PyProof.Rows.callWith_type1 (thn (ha.run pos pins s σ H _ I h) fun us s1 ⟨vs, H1, I1, r1, q1⟩ => ?_) hs rfl))
  obtain ⟨a, xs, rfl, hq, q⟩ := q1
  obtain ⟨u, rfl, ru⟩ := vals1 r1
  obtain rfl : u = Value.ref a := ru
  obtain ⟨its, rv, tp, hz⟩ := I1.tuple hq
  refine enum_call (begins_tuple a its.toArray) (show s1.heap.IsTuple a its.toArray from tp) fun h' isE hit hk => wpAny_pyIter_enum isE ?_
  refine ⟨s1.heap.objs.size + 1, [s1.heap.objs.size + 1, s1.heap.objs.size], _, _, H1, rfl, I1.kept (t' := s1.toks) hk, turn_et a (s1.heap.objs.size + 1) s1.heap.objs.size, ⟨⟨.none, isE⟩, ⟨_, hit, rfl, rfl⟩, Nat.succ_ne_self _⟩, fun b hb => ?_, q⟩
  have old : s1.heap.objs.size ≤ b := by
    rcases (show b = s1.heap.objs.size + 1 ∨ b = s1.heap.objs.size by simpa using hb) with rfl | rfl
    · exact Nat.le_succ _
    · exact Nat.le_refl _
  exact I1.fpOk old (I1.hok.fresh old)
end Nj
set_option Elab.async false
set_option linter.all false
set_option maxRecDepth 100000
set_option maxHeartbeats 4000000
/-! Dicts whose keys are tuples, nested or not, over the layer: Nd. -/
namespace Nj
open PySem PySem.Spec PyProof.Rows L2

/-! ### keys -/
mutual
inductive Nkv (H : Hp) : V → NestedKey → Prop
  | num (i : Int) : Nkv H (.int i) (.num i)
  | text (x : Str) : Nkv H (.str x) (.text x)
  | tup {a : Addr} {vs : List V} {ks : List NestedKey} : H a = some (.tup vs) → Nkvs H vs ks → Nkv H (.ref a) (.tup ks)
inductive Nkvs (H : Hp) : List V → List NestedKey → Prop
  | nil : Nkvs H [] []
  | cons {v : V} {vs : List V} {k : NestedKey} {ks : List NestedKey} : Nkv H v k → Nkvs H vs ks → Nkvs H (v :: vs) (k :: ks)
end
section
variable {P : Program} {w : World} {H H' : Hp} {h : Heap}
mutual
theorem Nkv.is (ok : HOk P w H h) : ∀ (k : NestedKey) (v : V) (u : Value), Nkv H v k → RelV v u → NestedIs h k u
  | .num i, _, _, q, r => by
    cases q
    obtain ⟨t, rfl⟩ := r
    exact .int i t
  | .text x, _, _, q, r => by
    cases q
    obtain ⟨t, rfl⟩ := r
    exact .text x t
  | .tup ks, _, _, q, r => by
    cases q with
    | tup ha hs =>
      cases r
      obtain ⟨_, its, rv, o, ho, hc, n, hd⟩ := ok _ _ ha
      exact .tup ho hc hd (by simpa using Nkvs.is ok ks _ its hs rv)
  | .none, _, _, q, _ => by cases q
theorem Nkvs.is (ok : HOk P w H h) : ∀ (ks : List NestedKey) (vs : List V) (us : List Value), Nkvs H vs ks → Vals vs us → NestedAll h ks us
  | [], _, _, q, r => by
    cases q
    cases r
    exact .nil
  | k :: ks, _, _, q, r => by
    cases q with
    | cons q1 q2 =>
      cases r with
      | cons r1 r2 => exact .cons (Nkv.is ok k _ _ q1 r1) (Nkvs.is ok ks _ _ q2 r2)
end
mutual
theorem Nkv.mono (ht : ∀ b xs, H b = some (.tup xs) → H' b = some (.tup xs)) : ∀ (k : NestedKey) (v : V), Nkv H v k → Nkv H' v k
  | .num i, _, q => by cases q; exact .num i
  | .text x, _, q => by cases q; exact .text x
  | .tup ks, _, q => by
    cases q with
    | tup ha hs => exact .tup (ht _ _ ha) (Nkvs.mono ht ks _ hs)
  | .none, _, q => by cases q
theorem Nkvs.mono (ht : ∀ b xs, H b = some (.tup xs) → H' b = some (.tup xs)) : ∀ (ks : List NestedKey) (vs : List V), Nkvs H vs ks → Nkvs H' vs ks
  | [], _, q => by cases q; exact .nil
  | k :: ks, _, q => by
    cases q with
    | cons q1 q2 => exact .cons (Nkv.mono ht k _ q1) (Nkvs.mono ht ks _ q2)
end
end

/-! ### the dict -/
abbrev Row := NestedKey × Addr × V
abbrev RowRel : Row → NestedKey × Addr × Value → Prop := fun p q => p.1 = q.1 ∧ p.2.1 = q.2.1 ∧ RelV p.2.2 q.2.2
def NdAt (P : Program) (w : World) (a : Addr) (L : List Row) (h : Heap) : Prop :=
  L.length ≤ sizeLine ∧ (a == sysModules) = false ∧ (L.map (·.1)).Nodup ∧ ∃ (xs : List (NestedKey × Addr × Value)) (o : Obj) (es : Array DictEntry) (ep : Nat), Paired RowRel L xs ∧ h.get? a = some o ∧ o.ExactDict ∧ o.data = .dict es ep ∧ es.toList = xs.map (entryOfKey (nestedKind P w))
def NdO (P : Program) (w : World) (a : Addr) (L : List Row) : HO := .ext (NdAt P w a L)
def NdKeys (H : Hp) (L : List Row) : Prop := ∀ x ∈ L, Nkv H (.ref x.2.1) x.1 ∧ x.1.depth ≤ 8
def tab (L : List Row) : List (NestedKey × V) := L.map fun x => (x.1, x.2.2)
def putRow (L : List Row) (k : NestedKey) (b : Addr) (v : V) : List Row :=
  if (L.any fun x => decide (x.1 = k)) = true then L.map (fun x => if x.1 = k then (x.1, x.2.1, v) else x) else L ++ [(k, b, v)]
theorem tab_put (L : List Row) (k : NestedKey) (b : Addr) (v : V) : tab (putRow L k b v) = putK (tab L) k v := by
  have e : ((tab L).any fun kv => decide (kv.1 = k)) = L.any fun x => decide (x.1 = k) := by
    unfold tab
    rw [List.any_map]
    rfl
  unfold putRow putK
  rw [e]
  by_cases q : (L.any fun x => decide (x.1 = k)) = true
  · rw [if_pos q, if_pos q]
    unfold tab
    rw [List.map_map, List.map_map]
    refine List.map_congr_left fun x _ => ?_
    show ((if x.1 = k then (x.1, x.2.1, v) else x).1, (if x.1 = k then (x.1, x.2.1, v) else x).2.2) = if x.1 = k then (x.1, v) else (x.1, x.2.2)
    by_cases z : x.1 = k
    · rw [if_pos z, if_pos z]
    · rw [if_neg z, if_neg z]
  · rw [if_neg q, if_neg q]
    unfold tab
    rw [List.map_append]
    rfl
theorem rows_any {L : List Row} {xs : List (NestedKey × Addr × Value)} (r : Paired RowRel L xs) (k : NestedKey) : (L.any fun x => decide (x.1 = k)) = (atKey xs k).isSome := by
  induction r with
  | nil => rfl
  | @cons p q ps qs h t ih =>
    rw [List.any_cons, ih]
    by_cases e : p.1 = k
    · have : q.1 = k := h.1.symm.trans e
      simp [atKey, e, this]
    · have : ¬ q.1 = k := fun z => e (h.1.trans z)
      simp [atKey, e, this]
theorem rows_val {L : List Row} {xs : List (NestedKey × Addr × Value)} (r : Paired RowRel L xs) (k : NestedKey) : RelO (valV (tab L) k) ((atKey xs k).map (·.2)) := by
  induction r with
  | nil => exact True.intro
  | @cons p q ps qs h t ih =>
    obtain ⟨h1, _, h3⟩ := h
    show RelO (valV ((p.1, p.2.2) :: tab ps) k) _
    by_cases e : p.1 = k
    · have e' : q.1 = k := h1.symm.trans e
      have b : atKey (q :: qs) k = some q.2 := by simp [atKey, e']
      rw [valV_pos (p := (p.1, p.2.2)) e, b]
      exact h3
    · have e' : ¬ q.1 = k := fun z => e (h1.trans z)
      have b : atKey (q :: qs) k = atKey qs k := by simp [atKey, e']
      rw [valV_neg (p := (p.1, p.2.2)) e, b]
      exact ih
theorem rows_repl {L : List Row} {xs : List (NestedKey × Addr × Value)} (r : Paired RowRel L xs) (k : NestedKey) {v : V} {u : Value} (rv : RelV v u) :
    Paired RowRel (L.map fun x => if x.1 = k then (x.1, x.2.1, v) else x) (xs.map (putAt k u)) := by
  induction r with
  | nil => exact .nil
  | @cons p q ps qs h t ih =>
    refine .cons ?_ ih
    obtain ⟨h1, h2, h3⟩ := h
    show RowRel (if p.1 = k then (p.1, p.2.1, v) else p) (if q.1 = k then (q.1, q.2.1, u) else q)
    by_cases e : p.1 = k
    · rw [if_pos e, if_pos (h1.symm.trans e)]
      exact ⟨h1, h2, rv⟩
    · rw [if_neg e, if_neg fun z => e (h1.trans z)]
      exact ⟨h1, h2, h3⟩
theorem rows_keys {L : List Row} {xs : List (NestedKey × Addr × Value)} (r : Paired RowRel L xs) : L.map (·.1) = xs.map (·.1) := by
  induction r with
  | nil => rfl
  | cons h t ih => rw [List.map_cons, List.map_cons, ih, h.1]
theorem rows_put {L : List Row} {xs : List (NestedKey × Addr × Value)} (r : Paired RowRel L xs) (k : NestedKey) (b : Addr) {v : V} {u : Value} (rv : RelV v u) : Paired RowRel (putRow L k b v) (storedH xs k b u) := by
  unfold putRow storedH
  rw [rows_any r k]
  by_cases q : (atKey xs k).isSome = true
  · rw [if_pos q, if_pos q]
    exact rows_repl r k rv
  · rw [if_neg q, if_neg q]
    exact Paired.snoc r ⟨rfl, rfl, rv⟩
theorem putRow_keys (L : List Row) (k : NestedKey) (b : Addr) (v : V) : ∀ x ∈ putRow L k b v, (x.1 = k ∧ x.2.1 = b) ∨ ∃ y ∈ L, x.1 = y.1 ∧ x.2.1 = y.2.1 := by
  intro x hx
  unfold putRow at hx
  by_cases q : (L.any fun x => decide (x.1 = k)) = true
  · rw [if_pos q] at hx
    obtain ⟨y, hy, e⟩ := List.mem_map.mp hx
    refine .inr ⟨y, hy, ?_⟩
    by_cases z : y.1 = k
    · rw [if_pos z] at e
      subst e
      exact ⟨rfl, rfl⟩
    · rw [if_neg z] at e
      subst e
      exact ⟨rfl, rfl⟩
  · rw [if_neg q] at hx
    rcases List.mem_append.mp hx with hx | hx
    · exact .inr ⟨x, hx, rfl, rfl⟩
    · have e : x = (k, b, v) := by simpa using hx
      subst e
      exact .inl ⟨rfl, rfl⟩
theorem putRow_len (L : List Row) (k : NestedKey) (b : Addr) (v : V) : (putRow L k b v).length ≤ L.length + 1 := by
  have := length_putK (tab L) k v
  rw [← tab_put L k b v] at this
  simpa [tab] using this
theorem putRow_nodup {L : List Row} (k : NestedKey) (b : Addr) (v : V) (h : (L.map (·.1)).Nodup) : ((putRow L k b v).map (·.1)).Nodup := by
  unfold putRow
  by_cases q : (L.any fun x => decide (x.1 = k)) = true
  · rw [if_pos q, List.map_map]
    have : (L.map ((fun x : Row => x.1) ∘ fun x => if x.1 = k then (x.1, x.2.1, v) else x)) = L.map (·.1) := by
      refine List.map_congr_left fun x _ => ?_
      show (if x.1 = k then (x.1, x.2.1, v) else x).1 = x.1
      by_cases z : x.1 = k
      · rw [if_pos z]
      · rw [if_neg z]
    rw [this]
    exact h
  · rw [if_neg q, List.map_append]
    refine List.nodup_append.mpr ⟨h, by simp, fun x hx y hy e => ?_⟩
    subst e
    have e : x = k := by simpa using hy
    subst e
    obtain ⟨y, hy1, hy2⟩ := List.mem_map.mp hx
    exact q (List.any_eq_true.mpr ⟨y, hy1, decide_eq_true hy2⟩)
/-- a dict with the pairs T stands at a | stands there, locked or not | stands there locked -/
def Nd (P : Program) (w : World) (H : Hp) (a : Addr) (T : List (NestedKey × V)) : Prop := ∃ L, H a = some (NdO P w a L) ∧ NdKeys H L ∧ tab L = T
def NdR (P : Program) (w : World) (H : Hp) (a : Addr) (T : List (NestedKey × V)) : Prop := ∃ L, Rd H a (NdO P w a L) ∧ NdKeys H L ∧ tab L = T
def NdF (P : Program) (w : World) (H : Hp) (a : Addr) (od : Obj) (T : List (NestedKey × V)) : Prop := ∃ L, H a = some (.frz od (NdO P w a L)) ∧ NdKeys H L ∧ tab L = T
theorem Nd.r {P : Program} {w : World} {H : Hp} {a : Addr} {T : List (NestedKey × V)} (h : Nd P w H a T) : NdR P w H a T := let ⟨L, h1, h2, h3⟩ := h; ⟨L, .inl h1, h2, h3⟩
theorem NdF.r {P : Program} {w : World} {H : Hp} {a : Addr} {od : Obj} {T : List (NestedKey × V)} (h : NdF P w H a od T) : NdR P w H a T := let ⟨L, h1, h2, h3⟩ := h; ⟨L, .inr ⟨od, h1⟩, h2, h3⟩
theorem NdKeys.mono {H H' : Hp} {L : List Row} (ht : ∀ b xs, H b = some (.tup xs) → H' b = some (.tup xs)) (h : NdKeys H L) : NdKeys H' L := fun x hx => ⟨Nkv.mono ht _ _ (h x hx).1, (h x hx).2⟩
theorem Nd.same {P : Program} {w : World} {H H' : Hp} {a : Addr} {T : List (NestedKey × V)} (e : Same H H') (h : Nd P w H a T) : Nd P w H' a T := let ⟨L, h1, h2, h3⟩ := h; ⟨L, e _ _ h1, h2.mono fun b xs q => e _ _ q, h3⟩
theorem NdR.same {P : Program} {w : World} {H H' : Hp} {a : Addr} {T : List (NestedKey × V)} (e : Same H H') (h : NdR P w H a T) : NdR P w H' a T := by
  obtain ⟨L, h1, h2, h3⟩ := h
  refine ⟨L, ?_, h2.mono fun b xs q => e _ _ q, h3⟩
  rcases h1 with h1 | ⟨o, h1⟩
  · exact .inl (e _ _ h1)
  · exact .inr ⟨o, e _ _ h1⟩
theorem NdF.same {P : Program} {w : World} {H H' : Hp} {a : Addr} {od : Obj} {T : List (NestedKey × V)} (e : Same H H') (h : NdF P w H a od T) : NdF P w H' a od T := let ⟨L, h1, h2, h3⟩ := h; ⟨L, e _ _ h1, h2.mono fun b xs q => e _ _ q, h3⟩
section
variable {X : Cx} {pins : List (Addr × Obj)} {σ : L2.St} {H : Hp} {s : Shared} {a b : Addr} {T : List (NestedKey × V)} {k : NestedKey} {v : V} {A : Around} {E : Value → Shared → Prop}
theorem ndAt_stay {P : Program} {w : World} {a : Addr} {L : List Row} {h h' : Heap} (n : NdAt P w a L h) (k : ∀ o, h.get? a = some o → h'.get? a = some o) : NdAt P w a L h' := by
  obtain ⟨z, y, nd, xs, o, es, ep, r, ho, q⟩ := n
  exact ⟨z, y, nd, xs, o, es, ep, r, k o ho, q⟩
theorem ndAt_obj {P : Program} {w : World} {a : Addr} {L : List Row} {h : Heap} {H : Hp} (n : NdAt P w a L h) : ObjOk P w H h a (NdO P w a L) := by
  obtain ⟨_, _, _, _, o, _, _, _, ho, _⟩ := id n
  exact ⟨n, ⟨o, ho⟩, fun h1 h2 p q => ndAt_stay p q⟩
theorem nd_open {L : List Row} (I : Inv X pins σ H s) (hr : Rd H a (NdO X.prog X.w a L)) (hk : NdKeys H L) : L.length ≤ sizeLine ∧ (a == sysModules) = false ∧ (L.map (·.1)).Nodup ∧ ∃ xs : List (NestedKey × Addr × Value), Paired RowRel L xs ∧ s.heap.DictOfH (nestedKind X.prog X.w) a xs := by
  obtain ⟨⟨z, y, nd, xs, o, es, ep, r, ho, hx, hd, he⟩, _, _⟩ := (show ObjOk X.prog X.w H s.heap a (NdO X.prog X.w a L) from hr.ok I.hok)
  refine ⟨z, y, nd, xs, r, o, es, ep, ho, hx, hd, he, ?_, by rw [← rows_keys r]; exact nd⟩
  have all : ∀ {L : List Row} {xs : List (NestedKey × Addr × Value)}, Paired RowRel L xs → NdKeys H L → ∀ x ∈ xs, (nestedKind X.prog X.w).is s.heap x.1 x.2.1 := by
    intro L xs r
    induction r with
    | nil => intro _ x hx; exact nomatch hx
    | @cons p q ps qs h t ih =>
      intro hk x hx
      rcases List.mem_cons.mp hx with e | hx
      · subst e
        obtain ⟨g1, g2⟩ := hk p List.mem_cons_self
        rw [← h.1, ← h.2.1]
        exact ⟨Nkv.is I.hok _ _ _ g1 rfl, g2⟩
      · exact ih (fun y hy => hk y (List.mem_cons_of_mem _ hy)) x hx
  exact all r hk
theorem NdR.heap (I : Inv X pins σ H s) (h : NdR X.prog X.w H a T) : T.length ≤ sizeLine ∧ (a == sysModules) = false ∧ (T.map (·.1)).Nodup ∧ ∃ (L : List Row) (xs : List (NestedKey × Addr × Value)), tab L = T ∧ NdKeys H L ∧ Paired RowRel L xs ∧ s.heap.DictOfH (nestedKind X.prog X.w) a xs := by
  obtain ⟨L, hr, hk, rfl⟩ := h
  obtain ⟨z, y, nd, xs, r, dd⟩ := nd_open I hr hk
  exact ⟨by simpa [tab] using z, y, by simpa [tab, Function.comp_def] using nd, L, xs, rfl, hk, r, dd⟩
theorem NdR.typeIs (I : Inv X pins σ H s) (h : NdR X.prog X.w H a T) : s.TypeIs (.ref a) "dict" := by
  obtain ⟨_, _, _, _, _, _, _, _, dd⟩ := h.heap I
  exact dd.typeIs
theorem NdR.noDict (I : Inv X pins σ H s) (h : NdR X.prog X.w H a T) : ∀ c, Value.ref a = .ref c → ∃ ob, s.heap.get? c = some ob ∧ ob.dict = none := fun c q => by
  cases q
  obtain ⟨_, _, _, _, _, _, _, _, ob, _, _, h1, h2, _⟩ := h.heap I
  exact ⟨ob, h1, h2.2.1⟩
/-- y is the key k -/
def IsKey (H : Hp) (y : V) (k : NestedKey) : Prop := ∃ b, y = .ref b ∧ Nkv H y k ∧ k.depth ≤ 8
theorem IsKey.same {H H' : Hp} {y : V} {k : NestedKey} (e : Same H H') (h : IsKey H y k) : IsKey H' y k := let ⟨b, h1, h2, h3⟩ := h; ⟨b, h1, Nkv.mono (fun _ _ q => e _ _ q) _ _ h2, h3⟩
theorem IsKey.is {y : V} {u : Value} (I : Inv X pins σ H s) (h : IsKey H y k) (r : RelV y u) : ∃ b, y = .ref b ∧ u = .ref b ∧ (nestedKind X.prog X.w).is s.heap k b := by
  obtain ⟨b, rfl, h2, h3⟩ := h
  cases r
  exact ⟨b, rfl, rfl, Nkv.is I.hok _ _ _ h2 rfl, h3⟩
theorem nd_getItem {y : V} {u : Value} {Q : Value → Shared → Prop} (hu : A.units + 60 < cLine) (I : Inv X pins σ H s) (h : NdR X.prog X.w H a T) (hk : IsKey H y k) (hv : valV T k = some v) (ry : RelV y u) (q : ∀ w' s', Inv X pins σ H s' → RelV v w' → Q w' s') :
    wpAny (model X.prog X.w) A (getItem (.ref a) u) Q E s := by
  obtain ⟨_, _, _, L, xs, rfl, _, r, dd⟩ := h.heap I
  obtain ⟨c, rfl, rfl, kis⟩ := hk.is I ry
  obtain ⟨w', hw, rw'⟩ := RelO.some_of (v := v) (o := (atKey xs k).map (·.2)) (by rw [← hv]; exact rows_val r k)
  obtain ⟨p, hp, hp2⟩ := Option.map_eq_some_iff.mp hw
  refine wpAny_getItem_heap (show A.units + 1 + 8 < cLine by omega) kis dd hp ?_
  rw [hp2]
  exact q w' _ (I.tok _) rw'
theorem nd_get2 {y z : V} {u r0 : Value} {Q : Value → Shared → Prop} (hu : A.units + 60 < cLine) (I : Inv X pins σ H s) (h : NdR X.prog X.w H a T) (hk : IsKey H y k) (ry : RelV y u) (rz : RelV z r0) (q : ∀ w' s', Inv X pins σ H s' → RelV ((valV T k).getD z) w' → Q w' s') :
    wpAny (model X.prog X.w) A (call (.builtin "dict.get") [.ref a, u, r0]) Q E s := by
  obtain ⟨_, hd, _, L, xs, rfl, _, r, dd⟩ := h.heap I
  obtain ⟨c, rfl, rfl, kis⟩ := hk.is I ry
  refine call_meetsIn PySem.F.slot_dict_get dd.typeIs PySem.F.entry_dict_get (PySem.F.args_dict_get_3 _ _ _) (meetsH_dict_get_default (nestedKind X.prog X.w) _ _ hd r0) ⟨show A.units + 1 + 8 < cLine by omega, k, xs, kis, dd, ?_⟩
  exact q _ _ (I.tok _) ((rows_val r k).getD rz)
theorem nd_write {h' : Heap} {t' : Nat} {L L' : List Row} (I : Inv X pins σ H s) (e : H a = some (NdO X.prog X.w a L)) (hs : Heap.SameBut a s.heap h') (new : NdAt X.prog X.w a L' h') : Inv X pins σ (upd H a (NdO X.prog X.w a L')) { s with heap := h', toks := t' } := by
  obtain ⟨_, _, _, _, o, _, _, _, ho, _⟩ := id new
  exact I.write (x := a) (e := a) (by rw [e]; exact True.intro) (.inl rfl) (fun b q hb z => (hs.2 b hb).trans z) ⟨o, ho⟩ (ndAt_obj new)
theorem nd_keys_upd {L : List Row} {o : HO} {L0 : List Row} (e : H a = some (NdO X.prog X.w a L0)) (h : NdKeys H L) : NdKeys (upd H a o) L := h.mono fun c xs q => by
  rw [upd_ne (ne_of q e (fun z => nomatch z))]
  exact q
/-- the dict with one pair more stands at a -/
theorem nd_put {L : List Row} {y : V} {c : Addr} (e : H a = some (NdO X.prog X.w a L)) (hk : NdKeys H L) (h : IsKey H y k) (ey : y = .ref c) : Nd X.prog X.w (upd H a (NdO X.prog X.w a (putRow L k c v))) a (putK (tab L) k v) := by
  refine ⟨_, upd_same, nd_keys_upd (X := X) e fun x hx => ?_, tab_put L k c v⟩
  rcases putRow_keys L k c v x hx with ⟨h1, h2⟩ | ⟨z, hz, h1, h2⟩
  · obtain ⟨b, eb, g1, g2⟩ := h
    rw [ey] at g1
    rw [h1, h2]
    exact ⟨g1, g2⟩
  · rw [h1, h2]
    exact hk z hz
theorem nd_setItem {y : V} {u r0 : Value} {Q : Unit → Shared → Prop} (hu : A.units + 60 < cLine) (I : Inv X pins σ H s) (h : Nd X.prog X.w H a T) (hk : IsKey H y k) (hl : T.length < sizeLine) (ry : RelV y u) (rv : RelV v r0)
    (q : ∀ o s', Nd X.prog X.w (upd H a o) a (putK T k v) → Inv X pins σ (upd H a o) s' → Q () s') : wpAny (model X.prog X.w) A (setItem (.ref a) u r0) Q E s := by
  obtain ⟨L, e, kk, rfl⟩ := h
  obtain ⟨z, hd, nd, xs, r, dd⟩ := nd_open I (.inl e) kk
  obtain ⟨c, ey, rfl, kis⟩ := hk.is I ry
  have hz : xs.length ≤ sizeLine := by rw [← Paired.length r]; exact z
  refine wpAny_setItem_heap (hsz := hz) (show A.units + 1 + 8 < cLine by omega) kis dd fun h' dd' hs => ?_
  obtain ⟨o, es, ep, ho, hx, hdt, he, _, _⟩ := dd'
  refine q _ _ (nd_put e kk hk ey) (nd_write I e hs ⟨?_, hd, putRow_nodup _ _ _ nd, _, o, es, ep, rows_put r k c rv, ho, hx, hdt, he⟩)
  have h1 := putRow_len L k c v
  have h2 : L.length < sizeLine := by simpa [tab] using hl
  omega
theorem nd_setdefault {y : V} {u r0 : Value} {Q : Value → Shared → Prop} (hu : A.units + 60 < cLine) (I : Inv X pins σ H s) (h : Nd X.prog X.w H a T) (hk : IsKey H y k) (hl : T.length < sizeLine) (ry : RelV y u) (rv : RelV v r0)
    (q1 : ∀ v0 w' s', valV T k = some v0 → Inv X pins σ H s' → RelV v0 w' → Q w' s') (q2 : valV T k = none → ∀ o s', Nd X.prog X.w (upd H a o) a (putK T k v) → Inv X pins σ (upd H a o) s' → Q r0 s') :
    wpAny (model X.prog X.w) A (call (.builtin "dict.setdefault") [.ref a, u, r0]) Q E s := by
  obtain ⟨L, e, kk, rfl⟩ := h
  obtain ⟨z, hd, nd, xs, r, dd⟩ := nd_open I (.inl e) kk
  obtain ⟨c, ey, rfl, kis⟩ := hk.is I ry
  have hz : xs.length ≤ sizeLine := by rw [← Paired.length r]; exact z
  refine call_setdefault_heap (hsz := hz) (show A.units + 1 + 8 < cLine by omega) kis hd dd (fun p hp => ?_) fun hn h' dd' hs => ?_
  · have rel := rows_val r k
    rw [hp] at rel
    cases q0 : valV (tab L) k with
    | none => rw [q0] at rel; exact (show False from rel).elim
    | some v0 => rw [q0] at rel; exact q1 v0 _ _ q0 (I.tok _) rel
  · have rel := rows_val r k
    rw [hn] at rel
    obtain ⟨o, es, ep, ho, hx, hdt, he, _, _⟩ := dd'
    cases q0 : valV (tab L) k with
    | some v0 => rw [q0] at rel; exact (show False from rel).elim
    | none =>
      refine q2 q0 _ _ (nd_put e kk hk ey) (nd_write I e hs ⟨?_, hd, putRow_nodup _ _ _ nd, _, o, es, ep, rows_put r k c rv, ho, hx, hdt, he⟩)
      have h1 := putRow_len L k c v
      have h2 : L.length < sizeLine := by simpa [tab] using hl
      omega
theorem nd_empty {P : Program} {w : World} (h : Heap) (hb : sysModules < h.objs.size) : NdAt P w h.objs.size [] (h.push { cls := .type "dict", data := .dict #[] }) :=
  ⟨Nat.zero_le _, beq_eq_false_iff_ne.mpr (Ne.symm (Nat.ne_of_lt hb)), List.nodup_nil, [], _, #[], 0, .nil, Heap.get?_push_size _ rfl, ⟨rfl, rfl, rfl⟩, rfl, rfl⟩
end

/-! ### as rules -/
def tNew (P : Program) (w : World) : TE := fun _ H Q => ∀ p, H p = none → Nd P w (upd H p (NdO P w p [])) p [] → Q (.ref p) (upd H p (NdO P w p []))
def tNGet (P : Program) (w : World) (td ty : TE) : TE := fun σ H Q => td σ H fun x H1 => ty σ H1 fun y H2 => ∃ a T k v, x = .ref a ∧ NdR P w H2 a T ∧ IsKey H2 y k ∧ valV T k = some v ∧ Q v H2
def tNGet2 (P : Program) (w : World) (td ty tx : TE) : TE := fun σ H Q => td σ H fun x H1 => ∃ a, x = .ref a ∧ (∃ T, NdR P w H1 a T) ∧ ty σ H1 fun y H2 => tx σ H2 fun z H3 => ∃ T k, NdR P w H3 a T ∧ IsKey H3 y k ∧ Q ((valV T k).getD z) H3
def sNPut (P : Program) (w : World) (td ty tv : TE) : TS := fun D σ H => tv σ H fun v H1 => td σ H1 fun x H2 => ty σ H2 fun y H3 => ∃ a T k, x = .ref a ∧ Nd P w H3 a T ∧ IsKey H3 y k ∧ T.length < sizeLine ∧
  ∀ o, Nd P w (upd H3 a o) a (putK T k v) → D.nx σ (upd H3 a o)
def tNSetd (P : Program) (w : World) (td ty tx : TE) : TE := fun σ H Q => td σ H fun x H1 => ∃ a, x = .ref a ∧ (∃ T, NdR P w H1 a T) ∧ ty σ H1 fun y H2 => tx σ H2 fun z H3 => ∃ T k, Nd P w H3 a T ∧ IsKey H3 y k ∧ T.length < sizeLine ∧
  (∀ v, valV T k = some v → Q v H3) ∧ (valV T k = none → ∀ o, Nd P w (upd H3 a o) a (putK T k z) → Q z (upd H3 a o))
section
variable {X : Cx} {o i e f value : Expr} {pos pos' tpos apos cpos : PySem.Pos} {td ty tv tx : TE}
theorem pe_new : PE X (.Dict [] [] pos) (tNew X.prog X.w) := ⟨fun pins s σ H Q I h => by
  have n0 : NdAt X.prog X.w s.heap.objs.size [] (s.heap.push { cls := .type "dict", data := .dict #[] }) := nd_empty s.heap I.big
  exact wpAny_Dict_empty ⟨.ref s.heap.objs.size, _, I.laid (a := s.heap.objs.size) (o := NdO X.prog X.w s.heap.objs.size []) (t' := s.toks) (fun _ _ q => Heap.get?_push_of_some _ q) (Nat.le_refl _) (ndAt_obj n0), rfl,
    h _ (I.hok.fresh (Nat.le_refl _)) ⟨[], upd_same, (show NdKeys _ [] from fun _ hx => by cases hx), rfl⟩⟩⟩
theorem pe_nget (hu : X.A.units + 60 < cLine) (ho : PE X o td) (hi : PE X i ty) (hs : NoSl i) : PE X (.Subscript o i pos) (tNGet X.prog X.w td ty) := by
  constructor
  intro pins s σ H Q I h
  refine subD_of PySem.F.slot_dict_getitem.lookup hs (thn (ho.run pins s σ H _ I h) fun u s1 ⟨x, H1, I1, rx, q1⟩ => thn (hi.run pins s1 σ H1 _ I1 q1) fun iv s2 ⟨y, H2, I2, ry, a, T, k, v, ex, hN, hk, hv, q2⟩ => ?_)
  subst ex
  cases rx
  exact ⟨hN.typeIs I2, nd_getItem hu I2 hN hk hv ry fun w' s3 I3 rw' => ⟨v, H2, I3, rw', q2⟩⟩
theorem pe_nget2 (hu : X.A.units + 60 < cLine) (ho : PE X o td) (he : PE X e ty) (hf : PE X f tx) (m : M2 X o "get" apos e f cpos) : PE X (.Call (.Attribute o "get" apos) [e, f] [] cpos) (tNGet2 X.prog X.w td ty tx) := by
  constructor
  intro pins s σ H Q I h
  refine wpAny_Call_method m.base m.few m.line PySem.F.plainAttrs_dict PySem.F.slot_dict_get PySem.F.type_dict_get (thn (ho.run pins s σ H _ I h) fun u s1 ⟨x, H1, I1, rx, a, ex, ⟨T0, hT⟩, q1⟩ => ?_)
  subst ex
  cases rx
  refine ⟨hT.typeIs I1, hT.noDict I1, ?_⟩
  rw [m.trees]
  refine Calls.callWith_builtin rfl (Calls.evalArgs_plain (Calls.spliced_cons (thn (he.run pins s1 σ H1 _ I1 q1) fun iv s2 ⟨y, H2, I2, ry, q2⟩ => Calls.spliced_cons (thn (hf.run pins s2 σ H2 _ I2 q2) fun fv s3 ⟨z, H3, I3, rz, T, k, hN, hk, q3⟩ => Calls.spliced_nil ?_))))
  exact nd_get2 hu I3 hN hk ry rz fun w' s4 I4 rw' => ⟨_, H3, I4, rw', q3⟩
theorem ps_nput (hu : X.A.units + 60 < cLine) (ho : PE X o td) (hi : PE X i ty) (hv : PE X value tv) (hs : swapsWith value (some (.Subscript o i pos')) pos.line X.env = pure false) :
    PS X (.Assign [.Subscript o i pos'] value pos) (sNPut X.prog X.w td ty tv) := by
  constructor
  intro pins s σ H D I h
  refine wpAny_Assign_Subscript (thn (hv.run pins s σ H _ I h) fun r s1 ⟨v, H1, I1, rv, q1⟩ => thn (ho.run pins s1 σ H1 _ I1 q1) fun u s2 ⟨x, H2, I2, rx, q2⟩ => thn (hi.run pins s2 σ H2 _ I2 q2) fun iv s3 ⟨y, H3, I3, ry, a, T, k, ex, hN, hk, hl, q3⟩ => ?_) hs
  subst ex
  cases rx
  exact nd_setItem hu I3 hN hk hl ry rv fun o s4 hN' I4 => ⟨σ, _, I4, q3 o hN'⟩
theorem pe_nsetd (hu : X.A.units + 60 < cLine) (ho : PE X o td) (he : PE X e ty) (hf : PE X f tx) (m : M2 X o "setdefault" apos e f cpos) : PE X (.Call (.Attribute o "setdefault" apos) [e, f] [] cpos) (tNSetd X.prog X.w td ty tx) := by
  constructor
  intro pins s σ H Q I h
  refine wpAny_Call_method m.base m.few m.line PySem.F.plainAttrs_dict PySem.F.slot_dict_setdefault PySem.F.type_dict_setdefault (thn (ho.run pins s σ H _ I h) fun u s1 ⟨x, H1, I1, rx, a, ex, ⟨T0, hT⟩, q1⟩ => ?_)
  subst ex
  cases rx
  refine ⟨hT.typeIs I1, hT.noDict I1, ?_⟩
  rw [m.trees]
  refine Calls.callWith_builtin rfl (Calls.evalArgs_plain (Calls.spliced_cons (thn (he.run pins s1 σ H1 _ I1 q1) fun iv s2 ⟨y, H2, I2, ry, q2⟩ => Calls.spliced_cons (thn (hf.run pins s2 σ H2 _ I2 q2) fun fv s3 ⟨z, H3, I3, rz, T, k, hN, hk, hl, q3, q4⟩ => Calls.spliced_nil ?_))))
  exact nd_setdefault hu I3 hN hk hl ry rz (fun v0 w' s4 hv I4 rw' => ⟨v0, H3, I4, rw', q3 v0 hv⟩) fun hn o s4 hN' I4 => ⟨z, _, I4, rz, q4 hn o hN'⟩
end
end Nj
set_option Elab.async false
set_option linter.all false
set_option maxRecDepth 100000
set_option maxHeartbeats 4000000
/-! Walks of such dicts; list(d), list(d.values()), dict(pairs), a display of one pair. -/
namespace Nj
open PySem PySem.Spec PyProof.Rows L2

/-- the keys of the locked dict at d, in their order -/
def Itn (P : Program) (w : World) (d : Addr) (od : Obj) (T : List (NestedKey × V)) : It :=
  ⟨fun i H => NdF P w H d od T ∧ i < T.length, fun i H x H' => H' = H ∧ ∃ k v, T[i]? = some (k, v) ∧ IsKey H x k, fun i H => NdF P w H d od T ∧ T.length ≤ i⟩
section
variable {X : Cx} {pins : List (Addr × Obj)} {σ : L2.St} {H : Hp} {s : Shared} {d : Addr} {od : Obj} {T : List (NestedKey × V)}
theorem NdF.entries (I : Inv X pins σ H s) (h : NdF X.prog X.w H d od T) : (d == sysModules) = false ∧ T.length ≤ sizeLine ∧ s.heap.get? d = some od ∧ od.ExactDict ∧ ∃ (es : Array DictEntry) (ep : Nat), od.data = .dict es ep ∧ es.size = T.length ∧
    ∀ (i : Nat) (k : NestedKey) (v : V), T[i]? = some (k, v) → ∃ (en : DictEntry) (b : Addr), es[i]? = some en ∧ en.key = .ref b ∧ IsKey H (.ref b) k ∧ RelV v en.val := by
  obtain ⟨L, hr, hk, rfl⟩ := h
  obtain ⟨ho1, ⟨z, y, nd, xs, o, es, ep, r, ho, hx, hd, he⟩, _, _⟩ := (show ObjOk X.prog X.w H s.heap d (.frz od (NdO X.prog X.w d L)) from I.hok _ _ hr)
  rw [ho1] at ho
  cases ho
  have l2 : L.length = xs.length := Paired.length r
  refine ⟨y, by simpa [tab] using z, ho1, hx, es, ep, hd, ?_, fun i k v e => ?_⟩
  · have l1 : es.size = xs.length := size_of_entries he
    simp only [tab, List.length_map]
    omega
  · unfold tab at e
    rw [List.getElem?_map] at e
    cases e0 : L[i]? with
    | none => rw [e0] at e; cases e
    | some p =>
      rw [e0] at e
      have e' : (p.1, p.2.2) = (k, v) := Option.some.inj e
      obtain ⟨q, hq, h1, h2, h3⟩ := L2.paired_get r e0
      have z := entry_at he i
      rw [hq] at z
      cases e'
      exact ⟨_, q.2.1, z, rfl, ⟨q.2.1, rfl, by rw [← h2]; exact (hk p (List.mem_of_getElem? e0)).1, (hk p (List.mem_of_getElem? e0)).2⟩, h3⟩
end
theorem turn_nd {P : Program} {w : World} {K : PySem.W.Frag} {tg : Expr} {d : Addr} {od : Obj} {es : Array DictEntry} {ep : Nat} {T : List (NestedKey × V)} (it : Addr) (hod : od.data = .dict es ep) :
    Turn P w K tg (Itn P w d od T) [it] it (fun i h => h.IsKeyIter it d i T.length ep) where
  mem := by simp
  obj := fun i h st b hb => by
    obtain rfl : b = it := by simpa using hb
    obtain ⟨oi, e, c, dd⟩ := st
    exact ⟨oi, e, fun v z => by rw [dd] at z; cases z⟩
  keep := fun i h h' st k => st.at fun oi e => k it (by simp) oi e
  item := by
    intro X hP hw hK hc i pins s σ H E I hf st hg
    subst hP hw hK
    obtain ⟨hN, hi⟩ := hg
    obtain ⟨f0, f1, f2, f3, f4, f5⟩ := hf it (by simp)
    obtain ⟨_, _, hgd, hx, es', ep', hdt, hsz, ent⟩ := hN.entries I
    obtain ⟨rfl, rfl⟩ := dict_ep hod hdt
    obtain ⟨⟨k, v⟩, hkv⟩ : ∃ p, T[i]? = some p := ⟨T[i], List.getElem?_eq_getElem hi⟩
    obtain ⟨en, b, hen, hkey, hik, _⟩ := ent i k v hkv
    refine next_key_item st hgd hdt hsz hen fun h' st' sb => ?_
    have J : Inv X pins σ H { s with heap := h' } := I.turned (t' := s.toks) (fun c ob hb e => (sb.2 c hb).trans e) f0 f1 f3 f4 f5
    obtain ⟨oi, e, c, dd⟩ := id st'
    exact ⟨en.key, rfl, go_of (s := { s with heap := h' }) e c dd (by decide) ⟨.ref b, H, J, hkey, ⟨rfl, k, v, hkv, hik⟩, st', fun c hb => (hf c hb).1⟩⟩
  done := by
    intro X hP hw hK hc i pins s σ H E I hf st hg
    subst hP hw hK
    obtain ⟨hN, hi⟩ := hg
    obtain ⟨f0, f1, f2, f3, f4, f5⟩ := hf it (by simp)
    obtain ⟨_, _, hgd, hx, es', ep', hdt, hsz, ent⟩ := hN.entries I
    obtain ⟨rfl, rfl⟩ := dict_ep hod hdt
    exact next_key_end (I.ok.hd hc) st hgd hdt hsz hi fun h' eb => ⟨rfl, I.turned (t' := s.toks) (fun c ob hb e => eb c ob hb e) f0 f1 f3 f4 f5⟩
  self := fun A i s Q E st h => wpAny_pyIter_keyiter st h
def iKeysN (P : Program) (w : World) (td : TE) : TI := fun σ H R => td σ H fun x H1 => ∃ d od T, x = .ref d ∧ NdF P w H1 d od T ∧ R (Itn P w d od T) H1
theorem pi_keysN {X : Cx} {tg e : Expr} {td : TE} (he : PE X e td) : PI X tg e (iKeysN X.prog X.w td) := by
  constructor
  intro pins s σ H R I h
  refine thn (he.run pins s σ H _ I h) fun u s1 ⟨x, H1, I1, rx, d, od, T, ex, hN, q⟩ => ?_
  subst ex
  cases rx
  obtain ⟨hs, _, hgd, hx, es, ep, hdt, hsz, ent⟩ := hN.entries I1
  refine iter_keys hs hgd hx hdt (pi_one (tk := s1.toks) I1 _ (turn_nd _ hdt) ⟨_, Heap.get?_push_size _ rfl, rfl, ?_⟩ q)
  rw [hsz]
  rfl
/-- a loop over the keys, the dict locked through it: Pv speaks of the heap with the lock -/
theorem for_nd {P : Program} {w : World} {d : Addr} {od : Obj} {T : List (NestedKey × V)} {g : TG} {tb : TS} {D : Ends} {σ : L2.St} {H : Hp} (Pv : Nat → L2.St → Hp → Prop) (h0 : Pv 0 σ H) (hl : ∀ i σ H, i ≤ T.length → Pv i σ H → NdF P w H d od T)
    (hs : ∀ i k v x σ H, T[i]? = some (k, v) → IsKey H x k → Pv i σ H → g x σ H fun σ2 H2 => tb { D with nx := Pv (i + 1), ct := Pv (i + 1), bk := D.nx } σ2 H2) (hd : ∀ σ H, Pv T.length σ H → D.nx σ H) :
    ∃ W : Nat → Nat → L2.St → Hp → Prop, (∃ m, W 0 m σ H) ∧ ∀ i m σ H, W i m σ H →
      ((Itn P w d od T).stop i H ∧ D.nx σ H) ∨ ((Itn P w d od T).go i H ∧ ∃ N : L2.St → Hp → Prop, (∀ σ' H', N σ' H' → ∃ m', m' < m ∧ W (i + 1) m' σ' H') ∧ ∀ x H', (Itn P w d od T).yld i H x H' → g x σ H' fun σ2 H2 => tb { D with nx := N, ct := N, bk := D.nx } σ2 H2) := by
  refine ⟨fun i m σ H => i + m = T.length ∧ Pv i σ H, ⟨T.length, by simp, h0⟩, ?_⟩
  rintro i m σ H ⟨e, p⟩
  have q := hl i σ H (by omega) p
  by_cases hlt : i < T.length
  · refine .inr ⟨⟨q, hlt⟩, Pv (i + 1), fun σ' H' p' => ⟨m - 1, by omega, by omega, p'⟩, ?_⟩
    rintro x H' ⟨rfl, k, v, hkv, hik⟩
    exact hs i k v x σ _ hkv hik p
  · obtain rfl : i = T.length := by omega
    exact .inl ⟨⟨q, Nat.le_refl _⟩, hd σ H p⟩

/-! ### list(d), list(d.values()) -/
section
variable {X : Cx} {pins : List (Addr × Obj)} {σ : L2.St} {H : Hp} {s : Shared} {d : Addr} {T : List (NestedKey × V)}
theorem NdR.entries (I : Inv X pins σ H s) (h : NdR X.prog X.w H d T) : (d == sysModules) = false ∧ T.length ≤ sizeLine ∧ ∃ (od : Obj) (es : Array DictEntry) (ep : Nat), s.heap.get? d = some od ∧ od.ExactDict ∧ od.data = .dict es ep ∧ es.size = T.length ∧
    ∀ (i : Nat) (k : NestedKey) (v : V), T[i]? = some (k, v) → ∃ (en : DictEntry) (b : Addr), es[i]? = some en ∧ en.key = .ref b ∧ IsKey H (.ref b) k ∧ RelV v en.val := by
  obtain ⟨L, hr, hk, rfl⟩ := h
  obtain ⟨⟨z, y, nd, xs, o, es, ep, r, ho, hx, hd, he⟩, _, _⟩ := (show ObjOk X.prog X.w H s.heap d (NdO X.prog X.w d L) from hr.ok I.hok)
  have l2 : L.length = xs.length := Paired.length r
  refine ⟨y, by simpa [tab] using z, o, es, ep, ho, hx, hd, ?_, fun i k v e => ?_⟩
  · have l1 : es.size = xs.length := size_of_entries he
    simp only [tab, List.length_map]
    omega
  · unfold tab at e
    rw [List.getElem?_map] at e
    cases e0 : L[i]? with
    | none => rw [e0] at e; cases e
    | some p =>
      rw [e0] at e
      have e' : (p.1, p.2.2) = (k, v) := Option.some.inj e
      obtain ⟨q, hq, h1, h2, h3⟩ := L2.paired_get r e0
      have z := entry_at he i
      rw [hq] at z
      cases e'
      exact ⟨_, q.2.1, z, rfl, ⟨q.2.1, rfl, by rw [← h2]; exact (hk p (List.mem_of_getElem? e0)).1, (hk p (List.mem_of_getElem? e0)).2⟩, h3⟩
/-- what a list of n items holds, item by item -/
theorem vals_of {R : Nat → V → Value → Prop} : ∀ {us : List Value} {n : Nat}, us.length = n → (∀ i u, us[i]? = some u → ∃ x, RelV x u ∧ R i x u) → ∃ xs : List V, xs.length = n ∧ Vals xs us ∧ ∀ i x, xs[i]? = some x → ∃ u, us[i]? = some u ∧ R i x u
  | [], n, e, _ => ⟨[], e, .nil, fun i x h => by simp at h⟩
  | u :: us, n, e, h => by
    cases n with
    | zero => cases e
    | succ n =>
      obtain ⟨x, rx, qx⟩ := h 0 u rfl
      obtain ⟨xs, h1, h2, h3⟩ := vals_of (R := fun i => R (i + 1)) (us := us) (n := n) (by simpa using e) fun i u hu => h (i + 1) u (by simpa using hu)
      refine ⟨x :: xs, by rw [List.length_cons, h1], .cons rx h2, fun i y hy => ?_⟩
      cases i with
      | zero =>
        obtain rfl : x = y := by simpa using hy
        exact ⟨u, rfl, qx⟩
      | succ i =>
        obtain ⟨u', hu', q⟩ := h3 i y (by simpa using hy)
        exact ⟨u', by simpa using hu', q⟩
end
/-- the keys' own tuples -/
def KeyRefs (H : Hp) (T : List (NestedKey × V)) (bs : List V) : Prop := bs.length = T.length ∧ ∀ (i : Nat) (k : NestedKey) (v : V), T[i]? = some (k, v) → ∃ x, bs[i]? = some x ∧ IsKey H x k
section
variable {X : Cx}
theorem call_list_nd (hc : X.calm = true) : CallR X (.type "list") (fun xs H Q => ∃ d T, xs = [V.ref d] ∧ NdR X.prog X.w H d T ∧ ∀ p bs, H p = none → KeyRefs H T bs → Q (.ref p) (upd H p (.lst bs))) := by
  intro pins s σ H xs us Q I r h
  obtain ⟨d, T, rfl, hN, q⟩ := h
  obtain ⟨u, rfl, ru⟩ := vals1 r
  cases ru
  obtain ⟨hs, hz, od, es, ep, hgd, hx, hdt, hsz, ent⟩ := hN.entries I
  refine PySem.W.kdl_call (L2.kdl_raw hs hx hdt) (I.ok.hd hc) hgd (by omega) fun h' tk acc' c' kp e it => ?_
  obtain ⟨bs, h1, h2, h3⟩ := vals_of (us := acc'.toList) (n := T.length) (R := fun i x u => ∃ k v, T[i]? = some (k, v) ∧ IsKey H x k) (by rw [Array.length_toList, it.1]; exact hsz) fun i u hu => by
    obtain ⟨en, hen, hv⟩ := it.2 i u (by rw [← Array.getElem?_toList]; exact hu)
    have hi : i < T.length := by
      have := (Array.getElem?_eq_some_iff.mp hen).1
      omega
    obtain ⟨⟨k, v⟩, hkv⟩ : ∃ p, T[i]? = some p := ⟨T[i], List.getElem?_eq_getElem hi⟩
    obtain ⟨en2, b, hen2, hkey, hik, _⟩ := ent i k v hkv
    rw [hen] at hen2
    cases hen2
    exact ⟨.ref b, by rw [hv, hkey]; rfl, k, v, hkv, hik⟩
  refine ⟨.ref s.heap.objs.size, _, I.laid (t' := tk) (o := .lst bs) kp (Nat.le_refl _) ⟨by omega, acc'.toList, c', h2, by rw [Array.toArray_toList]; exact e⟩, rfl, q _ _ (I.hok.fresh (Nat.le_refl _)) ⟨h1, fun i k v e => ?_⟩⟩
  have hi : i < bs.length := by
    rw [h1]
    exact (List.getElem?_eq_some_iff.mp e).1
  obtain ⟨u, _, k', v', e2, hik⟩ := h3 i bs[i] (List.getElem?_eq_getElem hi)
  rw [e] at e2
  cases e2
  exact ⟨bs[i], List.getElem?_eq_getElem hi, hik⟩
/-- list(e.values()), e a dict of the one kind or the other -/
def rListVals (P : Program) (w : World) : V → Hp → VK → Prop := fun x H Q => ∃ d vs, x = .ref d ∧ ((∃ T, NdR P w H d T ∧ vs = T.map (·.2)) ∨ ∃ kvs : List (Key × V), Rd H d (.dK kvs) ∧ vs = kvs.map (·.2)) ∧ ∀ p, H p = none → Q (.ref p) (upd H p (.lst vs))
def tListVals (P : Program) (w : World) (te : TE) : TE := fun σ H Q => te σ H fun x H1 => rListVals P w x H1 Q
theorem dk_entries {pins : List (Addr × Obj)} {σ : L2.St} {H : Hp} {s : Shared} {d : Addr} {kvs : List (Key × V)} (I : Inv X pins σ H s) (h : Rd H d (.dK kvs)) : (d == sysModules) = false ∧ kvs.length ≤ sizeLine ∧ ∃ (od : Obj) (es : Array DictEntry) (ep : Nat), s.heap.get? d = some od ∧ od.ExactDict ∧ od.data = .dict es ep ∧ es.size = kvs.length ∧
    ∀ (i : Nat) (x : V), (kvs.map (·.2))[i]? = some x → ∃ en : DictEntry, es[i]? = some en ∧ RelV x en.val := by
  obtain ⟨z, hs, vs, kv, dd⟩ := dk_rd I.hok h
  have lk : kvs.length = vs.length := Paired.length kv
  obtain ⟨od, es, ep, ho, hx, hdt, hko, hp, hnd⟩ := dd
  have l1 := hp.length
  rw [Array.length_toList] at l1
  refine ⟨hs, z, od, es, ep, ho, hx, hdt, by omega, fun i x hx' => ?_⟩
  rw [List.getElem?_map] at hx'
  cases e0 : kvs[i]? with
  | none => rw [e0] at hx'; cases hx'
  | some p =>
    rw [e0] at hx'
    have e' : p.2 = x := Option.some.inj hx'
    obtain ⟨q, hq, h1, h2⟩ := L2.paired_get kv e0
    have hi : i < es.size := by
      have := (List.getElem?_eq_some_iff.mp e0).1
      omega
    have g1 : es.toList[i]? = some es[i] := by rw [Array.getElem?_toList]; exact Array.getElem?_eq_getElem hi
    have g2 := Pairs.get? hp g1 (k := q.1) (v := q.2) hq
    exact ⟨es[i], Array.getElem?_eq_getElem hi, by rw [g2.2, ← e']; exact h2⟩
variable {e : Expr} {te : TE} {p apos cpos pos : PySem.Pos}
theorem pe_listVals (hc : X.calm = true) (he : PE X e te) (hg : Gl X "list") (hm : X.mg "list" = none) (hbase : attributeBase e "values" X.env (eval e X.env) = eval e X.env := by rfl) (hline : (apos.endLine == cpos.line) = true := by rfl)
    (hs : starEach [.Call (.Attribute e "values" apos) [] [] cpos] X.env = (false, eval (.Call (.Attribute e "values" apos) [] [] cpos) X.env) :: starEach [] X.env := by rfl) :
    PE X (.Call (.Name "list" p) [.Call (.Attribute e "values" apos) [] [] cpos] [] pos) (tListVals X.prog X.w te) := by
  constructor
  intro pins s σ H Q I hq
  refine wpAny_Call_Name_kw (ld_blt I hg hm (show bootBuiltins "list" = some (.type "list") by decide +kernel) ?_)
  refine PyProof.Rows.callWith_type1 ?_ hs rfl
  rw [hs]
  show wpAny _ _ (spliced ((false, eval (.Call (.Attribute e "values" apos) [] [] cpos) X.env) :: backTo pos (starEach [] X.env))) _ _ s
  refine Calls.spliced_cons ?_
  refine wpAny_Call_method (T := "dict") (id := "dict.values") hbase rfl hline F.plainAttrs_dict F.slot_dict_values F.type_dict_values (thn (he.run pins s σ H _ I hq) fun u s1 ⟨x, H1, I1, rx, d, vs, ex, hd, q⟩ => ?_)
  subst ex
  cases rx
  -- the dict's object, whichever it is
  obtain ⟨hs0, hz, od, es, ep, hgd, hx, hdt, hsz, ent⟩ : (d == sysModules) = false ∧ vs.length ≤ sizeLine ∧ ∃ (od : Obj) (es : Array DictEntry) (ep : Nat), s1.heap.get? d = some od ∧ od.ExactDict ∧ od.data = .dict es ep ∧ es.size = vs.length ∧
      ∀ (i : Nat) (x : V), vs[i]? = some x → ∃ en : DictEntry, es[i]? = some en ∧ RelV x en.val := by
    rcases hd with ⟨T, hN, rfl⟩ | ⟨kvs, hr, rfl⟩
    · obtain ⟨g1, g2, od, es, ep, h1, h2, h3, h4, h5⟩ := hN.entries I1
      refine ⟨g1, by simpa using g2, od, es, ep, h1, h2, h3, by simpa using h4, fun i x hx => ?_⟩
      rw [List.getElem?_map] at hx
      cases e0 : T[i]? with
      | none => rw [e0] at hx; cases hx
      | some p =>
        rw [e0] at hx
        obtain ⟨en, _, k1, _, _, k2⟩ := h5 i p.1 p.2 e0
        exact ⟨en, k1, by rw [← (Option.some.inj hx : p.2 = x)]; exact k2⟩
    · obtain ⟨g1, g2, od, es, ep, h1, h2, h3, h4, h5⟩ := dk_entries I1 hr
      exact ⟨g1, by simpa using g2, od, es, ep, h1, h2, h3, by simpa using h4, h5⟩
  have raw : s1.heap.DictRaw d es ep := ⟨od, hgd, hx, hdt⟩
  have I2 : Inv X pins σ H1 { s1 with heap := s1.heap.push { cls := .type "dict_values", data := .fields #[.ref d] } } := I1.kept (t' := s1.toks) fun b ob q => Heap.get?_push_of_some _ q
  refine ⟨raw.typeIs, fun c z => by cases z; exact ⟨od, hgd, hx.2.1⟩, ?_⟩
  show wpAny _ _ (callWith cpos (.builtin "dict.values") [.ref d] [] []) _ X.xe s1
  refine method_meetsIn F.slot_dict_values F.entry_dict_values rfl (PySem.evalArgs_none ⟨rfl, raw.typeIs, F.args_dict_values_1 _, _, meets_dict_values_raw d hs0, ⟨es, ep, raw⟩, ?_⟩)
  refine Calls.spliced_nil ?_
  refine PySem.W.kdl_call (PySem.KdlSrc.rawValues (r := s1.heap.objs.size) (d := d) (es := es) (ep := ep)) (I1.ok.hd hc) ⟨⟨_, Heap.get?_push_size _ rfl, rfl, rfl⟩, raw.at fun o q => Heap.get?_push_of_some _ q⟩ (by omega) fun h' tk acc' c' kp e2 it => ?_
  have rv : Vals vs acc'.toList := by
    have hl : acc'.toList.length = vs.length := by rw [Array.length_toList, it.1]; exact hsz
    obtain ⟨xs, h1, h2, h3⟩ := vals_of (us := acc'.toList) (n := vs.length) (R := fun i x u => vs[i]? = some x) hl fun i u hu => by
      obtain ⟨hi, hv⟩ := it.2 i u (by rw [← Array.getElem?_toList]; exact hu)
      have hi' : i < vs.length := by omega
      obtain ⟨en, hen, r⟩ := ent i vs[i] (List.getElem?_eq_getElem hi')
      rw [Array.getElem?_eq_getElem hi] at hen
      refine ⟨vs[i], ?_, List.getElem?_eq_getElem hi'⟩
      rw [hv, Option.some.inj hen]
      exact r
    have : xs = vs := List.ext_getElem? fun i => by
      cases e1 : xs[i]? with
      | none =>
        have := List.getElem?_eq_none_iff.mp e1
        rw [List.getElem?_eq_none (by omega)]
      | some x =>
        obtain ⟨_, _, h4⟩ := h3 i x e1
        exact h4.symm
    rw [← this]
    exact h2
  exact ⟨.ref _, _, I2.laid (t' := tk) (o := .lst vs) kp (Nat.le_refl _) ⟨hz, acc'.toList, c', rv, by rw [Array.toArray_toList]; exact e2⟩, rfl, q _ (I2.hok.fresh (Nat.le_refl _))⟩
end

/-! ### {k: v} -/
def tDisp1 (P : Program) (w : World) (tk tv : TE) : TE := fun σ H Q => ∀ p, H p = none → tk σ (upd H p (NdO P w p [])) fun y H1 => tv σ H1 fun v H2 => ∃ y' v' k, [(y, v)] = [(y', v')] ∧ H2 p = some (NdO P w p []) ∧ IsKey H2 y' k ∧
  ∀ o, Nd P w (upd H2 p o) p [(k, v')] → Q (.ref p) (upd H2 p o)
section
variable {X : Cx} {pos : PySem.Pos} {ke ve : Expr} {tk tv : TE}
theorem pe_disp1 (hu : X.A.units + 60 < cLine) (hk : PE X ke tk) (hv : PE X ve tv) : PE X (.Dict [some ke] [ve] pos) (tDisp1 X.prog X.w tk tv) := by
  constructor
  intro pins s σ H Q I h
  have n0 : NdAt X.prog X.w s.heap.objs.size [] (s.heap.push { cls := .type "dict", data := .dict #[] }) := nd_empty s.heap I.big
  have I1 := I.laid (a := s.heap.objs.size) (o := NdO X.prog X.w s.heap.objs.size []) (t' := s.toks) (fun _ _ q => Heap.get?_push_of_some _ q) (Nat.le_refl _) (ndAt_obj n0)
  have q0 := h _ (I.hok.fresh (Nat.le_refl _))
  have PP : PPs X pos [some ke] [ve] [(tk, tv)] := pps_cons hk hv pps_nil
  have hne : pairTrees [some ke] [ve] X.env pos ≠ [] := fun z => by
    have := pairTrees_length [some ke] [ve] X.env pos rfl rfl
    rw [z] at this
    cases this
  have hlen : (pairTrees [some ke] [ve] X.env pos).length ≤ 15 := by
    rw [pairTrees_length [some ke] [ve] X.env pos rfl rfl]
    show 1 ≤ 15
    decide
  rw [arm_eval_Dict, zip_pairTrees [some ke] [ve] X.env pos rfl rfl, dictDisplay_pairs _ hne (by omega)]
  refine wpAny_bind (wpAny_standAt (wpAny_bind (wpAny_subDictH (knd := nestedKind X.prog X.w) (show X.A.units + 8 < cLine by omega) hlen ?_)))
  refine thn (PP.run pins _ σ _ (fun ps H2 => ∃ y v k, ps = [(y, v)] ∧ H2 s.heap.objs.size = some (NdO X.prog X.w s.heap.objs.size []) ∧ IsKey H2 y k ∧ ∀ o, Nd X.prog X.w (upd H2 s.heap.objs.size o) s.heap.objs.size [(k, v)] → Q (.ref s.heap.objs.size) (upd H2 s.heap.objs.size o)) I1 ?_) ?_
  · exact q0
  · rintro ws s2 ⟨ps, H2, I2, rel, y, v, k, rfl, e, hik, q⟩
    cases rel with
    | @cons p q' ps qs hh tt =>
      cases tt
      obtain ⟨u, v2⟩ := q'
      obtain ⟨ru, rv⟩ := hh
      obtain ⟨c, ey, eu, kis⟩ := hik.is I2 ru
      obtain ⟨z, hd, nd, xs, r, dd⟩ := nd_open I2 (.inl e) (show NdKeys H2 [] from fun _ hx => by cases hx)
      cases r
      refine ⟨[(k, c, v2)], ⟨eu, rfl, kis, trivial⟩, dd, fun h' tk' dd' hs => wpAny_pure ?_⟩
      obtain ⟨o, es, ep, ho, hx, hdt, he, _, _⟩ := dd'
      have new : NdAt X.prog X.w s.heap.objs.size (putRow [] k c v) h' := ⟨by show 1 ≤ sizeLine; decide, hd, by show [k].Nodup; simp, _, o, es, ep, .cons ⟨rfl, rfl, rv⟩ .nil, ho, hx, hdt, he⟩
      exact ⟨.ref _, _, nd_write I2 e hs new, rfl, q _ (nd_put (v := v) e (show NdKeys H2 [] from fun _ hx => by cases hx) hik ey)⟩
end
end Nj
set_option Elab.async false
set_option linter.all false
set_option maxRecDepth 100000
set_option maxHeartbeats 4000000
/-! dict(pairs) and a dict comprehension, keys that are tuples. -/
namespace Nj
open PySem PySem.Spec PyProof.Rows L2

section
variable {X : Cx}
theorem nd_dictSet {pins : List (Addr × Obj)} {σ : L2.St} {H : Hp} {s : Shared} {E : Value → Shared → Prop} {D : Addr} {T : List (NestedKey × V)} {k : NestedKey} {y v : V} {u r0 : Value} {Q : Unit → Shared → Prop} (hu : X.A.units + 60 < cLine) (I : Inv X pins σ H s) (h : Nd X.prog X.w H D T) (hk : IsKey H y k) (hl : T.length < sizeLine)
    (ry : RelV y u) (rv : RelV v r0) (q : ∀ o s', Nd X.prog X.w (upd H D o) D (putK T k v) → Inv X pins σ (upd H D o) s' → Q () s') : wpAny (model X.prog X.w) X.A (dictSet D u r0) Q E s := by
  obtain ⟨L, e, kk, rfl⟩ := h
  obtain ⟨z, hd, nd, xs, r, dd⟩ := nd_open I (.inl e) kk
  obtain ⟨c, ey, rfl, kis⟩ := hk.is I ry
  have hz : xs.length ≤ sizeLine := by rw [← Paired.length r]; exact z
  refine wpAny_dictSet_heap (hsz := hz) (show X.A.units + 8 < cLine by omega) kis dd fun h' dd' hs => ?_
  obtain ⟨o, es, ep, ho, hx, hdt, he, _, _⟩ := dd'
  refine q _ _ (nd_put e kk hk ey) (nd_write I e hs ⟨?_, hd, putRow_nodup _ _ _ nd, _, o, es, ep, rows_put r k c rv, ho, hx, hdt, he⟩)
  have h1 := putRow_len L k c v
  have h2 : L.length < sizeLine := by simpa [tab] using hl
  omega
/-- {k: v for target in iter if ..} with keys that are tuples: D the new dict -/
def tDcn (P : Program) (w : World) (wi : TI) (g : TG) (tt : TT) (tk tv : TE) (vs : List Nat) : TE := fun σ H Q => wi σ H fun J H1 => ∀ D, H1 D = none → Nd P w (upd H1 D (NdO P w D [])) D [] → ∃ W : Nat → Nat → Hp → Prop, (∃ m, W 0 m (upd H1 D (NdO P w D []))) ∧ ∀ i m H, W i m H →
  (J.stop i H ∧ Q (.ref D) H) ∨ (J.go i H ∧ ∃ Nx : Hp → Prop, (∀ H', Nx H' → ∃ m', m' < m ∧ W (i + 1) m' H') ∧ ∀ x H', J.yld i H x H' → g x (wipe σ vs) H' fun σ2 H2 => wipe σ2 vs = wipe σ vs ∧ tt σ2 H2 fun b H3 =>
    if b = true then tk σ2 H3 fun y H4 => tv σ2 H4 fun z H5 => ∃ T k, IsKey H5 y k ∧ Nd P w H5 D T ∧ T.length < sizeLine ∧ (∀ o, Nd P w (upd H5 D o) D (putK T k z) → Nx (upd H5 D o)) else Nx H3)
theorem pe_dcn {kx vx tg iter : Expr} {ifs : List Expr} {scope : Scope} {own : List (Str × Nat)} {pos : PySem.Pos} {wi : TI} {g : TG} {tt : TT} {tk tv : TE} (hu : X.A.units + 60 < cLine) (hc : X.calm = true) (hN : X.N.Nodup) (hi : PI X tg iter wi) (ok : BlkOk X.N X.env.scope scope own)
    (hg : ∀ (s : Shared) (H : Hp) (C : Addr) (cl : List (Str × Addr)) (fp : List Addr), PG (X.blk s H scope (compEnvC scope cl C X.env) fp) tg g)
    (ht : ∀ (s : Shared) (H : Hp) (C : Addr) (cl : List (Str × Addr)) (fp : List Addr), PTs (X.blk s H scope (compEnvC scope cl C X.env) fp) ifs tt)
    (hk : ∀ (s : Shared) (H : Hp) (C : Addr) (cl : List (Str × Addr)) (fp : List Addr), PE (X.blk s H scope (compEnvC scope cl C X.env) fp) kx tk)
    (hv : ∀ (s : Shared) (H : Hp) (C : Addr) (cl : List (Str × Addr)) (fp : List Addr), PE (X.blk s H scope (compEnvC scope cl C X.env) fp) vx tv) (hs : ∀ x, foldedSetIterable iter X.env x = pure x := by intro _; rfl) :
    PE X (.DictComp kx vx [⟨tg, iter, ifs, 0⟩] scope pos) (tDcn X.prog X.w wi g tt tk tv (own.map (·.2))) := by
  constructor
  intro pins s σ H Q I h
  rw [arm_eval_DictComp]
  have frees : ∀ y ∈ scope.names, y.2 = .free → ∃ c, X.env.cells.lookup y.1 = some c := fun y hy e => (ok.free y hy e).elim (fun k => I.ok.has _ (.inl k)) fun k => I.ok.has _ (.inr k)
  refine wpAny_comprehension_free rfl hs (closure_ok frees) ok.kind (fun y hy e => by rw [ok.uniq y hy, e]) (thn (hi.run pins s σ H _ I h) fun xv s1 hx => thn hx fun itv s2 h2 => ?_)
  obtain ⟨it, fp, tn, J, H2, rfl, I2, T, st2, f2, q⟩ := h2
  refine wpAny_newObj_type (newEnv_comp ?_)
  -- the new dict at D
  obtain ⟨D, hD⟩ : ∃ D, s2.heap.objs.size = D := ⟨_, rfl⟩
  have newD : H2 D = none := I2.hok.fresh (Nat.le_of_eq hD)
  have at0 : NdAt X.prog X.w D [] (s2.heap.push { cls := .type "dict", data := .dict #[] }) := by
    rw [← hD]
    exact nd_empty s2.heap I2.big
  obtain ⟨W, ⟨m0, w0⟩, turn⟩ := q D newD ⟨[], upd_same, (show NdKeys _ [] from fun _ hx => by cases hx), rfl⟩
  obtain ⟨s3, hs3⟩ : ∃ s3 : Shared, ({ s2 with heap := s2.heap.push { cls := .type "dict", data := .dict #[] } } : Shared) = s3 := ⟨_, rfl⟩
  have I3 : Inv X pins σ (upd H2 D (NdO X.prog X.w D [])) s3 := by
    subst hs3
    exact I2.laid (t' := s2.toks) (fun b o e => Heap.get?_push_of_some _ e) (Nat.le_of_eq hD) (ndAt_obj at0)
  have hp3 : s3.heap = s2.heap.push { cls := .type "dict", data := .dict #[] } := by rw [← hs3]
  have f3 : ∀ b ∈ fp, FpOk X pins (upd H2 D (NdO X.prog X.w D [])) b ∧ b < s3.heap.objs.size := fun b hb => by
    obtain ⟨o, e, _⟩ := T.obj _ _ st2 b hb
    have lt := Heap.lt_size e
    exact ⟨⟨by rw [upd_ne (by rw [← hD]; exact Nat.ne_of_lt lt)]; exact (f2 b hb).1, (f2 b hb).2⟩, by rw [hp3, Heap.size_push]; exact Nat.lt_succ_of_lt lt⟩
  have st3 : tn 0 s3.heap := T.keep _ _ _ st2 fun b _ o e => by rw [hp3]; exact Heap.get?_push_of_some _ e
  have I4 := block_start I3 ok hN f3
  have pg := hg s3 (upd H2 D (NdO X.prog X.w D [])) s3.heap.objs.size (cellsFrom (s3.heap.objs.size + 1) scope.names (cloFrom X.env.cells scope.names [])) fp
  have pt := ht s3 (upd H2 D (NdO X.prog X.w D [])) s3.heap.objs.size (cellsFrom (s3.heap.objs.size + 1) scope.names (cloFrom X.env.cells scope.names [])) fp
  have pk := hk s3 (upd H2 D (NdO X.prog X.w D [])) s3.heap.objs.size (cellsFrom (s3.heap.objs.size + 1) scope.names (cloFrom X.env.cells scope.names [])) fp
  have pv' := hv s3 (upd H2 D (NdO X.prog X.w D [])) s3.heap.objs.size (cellsFrom (s3.heap.objs.size + 1) scope.names (cloFrom X.env.cells scope.names [])) fp
  rw [hD, hs3]
  show codeAny _ _ (.compStart (.DictComp kx vx [⟨tg, iter, ifs, 0⟩] scope pos) 0 (.ref it) (.ref D) (compEnvC scope (cellsFrom (s3.heap.objs.size + 1) scope.names (cloFrom X.env.cells scope.names [])) s3.heap.objs.size X.env)) (compPost (model X.prog X.w) X.A X.xe none (EP X pins σ Q) (.ref D) s3.heap.objs.size) { s3 with heap := pushCells (s3.heap.push { cls := .type "dict", data := .dict #[] }) scope.names }
  have nfp : ∀ b ∈ fp, (upd H2 D (NdO X.prog X.w D [])) b = none := fun b hb => (f3 b hb).1.1
  obtain ⟨ce, hce⟩ : ∃ ce, compEnvC scope (cellsFrom (s3.heap.objs.size + 1) scope.names (cloFrom X.env.cells scope.names [])) s3.heap.objs.size X.env = ce := ⟨_, rfl⟩
  have ceL : ce.locals = s3.heap.objs.size := by rw [← hce]; rfl
  rw [hce] at I4 pg pt pk pv' ⊢
  obtain ⟨s4, hs4⟩ : ∃ s4 : Shared, ({ s3 with heap := pushCells (s3.heap.push { cls := .type "dict", data := .dict #[] }) scope.names } : Shared) = s4 := ⟨_, rfl⟩
  rw [hs4] at I4 ⊢
  have st4 : tn 0 s4.heap := T.keep _ _ _ st3 fun b _ o e => by rw [← hs4]; exact pushCells_keeps _ _ _ _ (Heap.get?_push_of_some _ e)
  have hu4 : (X.blk s3 (upd H2 D (NdO X.prog X.w D [])) scope ce fp).A.units + 60 < cLine := hu
  generalize hB : X.blk s3 (upd H2 D (NdO X.prog X.w D [])) scope ce fp = B at I4 pg pt pk pv' hu4
  have bP : B.prog = X.prog := by rw [← hB]
  have bW : B.w = X.w := by rw [← hB]
  have bK : B.K = X.K := by rw [← hB]
  have bC : B.calm = true := by rw [← hB]; exact hc
  have bA : B.A = X.A := by rw [← hB]
  have still : ∀ {σ' : L2.St} {H' : Hp} {s' : Shared}, Inv B [] σ' H' s' → (∀ b ∈ fp, H' b = none) → ∀ b ∈ fp, FpOk B [] H' b := fun {σ' H' s'} I' hn b hb => by
    subst hB
    exact ⟨hn b hb, (I'.ok.exf b hb).1, I'.ok.exfs b hb, .inl hb, fun x c e => (I'.ok.exf b hb).2 x c e, fun p hp => absurd (show p ∈ ([] : List (Addr × Obj)) ++ [] from hp) (by simp)⟩
  have loop : codeAny (model X.prog X.w) X.A (.compLoop (.DictComp kx vx [⟨tg, iter, ifs, 0⟩] scope pos) 0 (.ref it) (.ref D) ce) (compPost (model X.prog X.w) X.A X.xe none (EP X pins σ Q) (.ref D) s3.heap.objs.size) s4 := by
    refine compLoop_anyD (fun n s' => ∃ i H', Inv B [] (wipe σ (own.map (·.2))) H' s' ∧ tn i s'.heap ∧ (∀ b ∈ fp, H' b = none) ∧ W i n H') ?_ m0 ⟨0, _, I4, st4, nfp, w0⟩
    rintro n s5 ⟨i, H5, I5, st5, n5, w5⟩
    rcases turn i n H5 w5 with ⟨stp0, qq⟩ | ⟨go, Nx, hNx, step⟩
    · have td := T.done B bP bW bK bC i [] s5 _ H5 (fun _ _ => False) I5 (still I5 n5) st5 stp0
      rw [bA] at td
      refine thnF td fun r s6 ⟨hr, I6⟩ => ?_
      subst hr
      subst hB
      have I7 : Inv X pins σ H5 s6 := I3.call' (ch := fp) I6.os I6.base I6.hok I6.bare fun b hb => ⟨(f3 b hb).1.2.2.2.1, (f3 b hb).1.2.1, (f3 b hb).1.2.2.2.2.1, (f3 b hb).1.2.2.2.2.2⟩
      obtain ⟨m, nsm, _⟩ := I6.loc
      have nsm' : s6.heap.Ns ce.locals m := nsm
      have noC : H5 ce.locals = none := I6.free
      rw [ceL] at nsm' noC
      obtain ⟨f0, f1, f2', f3', f4, f5⟩ := I3.fpOk (Nat.le_refl _) noC
      exact ⟨m, nsm', fun h'' sb => ⟨.ref D, H5, I7.turned (t' := s6.toks) (fun b o hb e => (sb.2 b hb).trans e) f0 f1 f3' f4 f5, rfl, qq⟩⟩
    · have ti := T.item B bP bW bK bC i [] s5 _ H5 (fun _ _ => False) I5 (still I5 n5) st5 go
      rw [bA] at ti
      refine thnF ti fun r s6 ⟨u, hr, h6⟩ => ?_
      subst hr
      refine thnF h6 fun _ s7 ⟨x, H7, I7, r7, y7, st7, n7⟩ => ?_
      have I7' := I7.pinned (still I7 n7) (T.obj _ _ st7)
      have gone : ∀ {σ8 : L2.St} {s' : Shared} {H' : Hp}, wipe σ8 (own.map (·.2)) = wipe σ (own.map (·.2)) → Inv B ([] ++ pinsAt fp s7.heap) σ8 H' s' → Nx H' → ∃ m, m < n ∧ ∃ i H', Inv B [] (wipe σ (own.map (·.2))) H' s' ∧ tn i s'.heap ∧ (∀ b ∈ fp, H' b = none) ∧ W i m H' := fun {σ8 s' H'} hw8 I' nx => by
        obtain ⟨m', hm, w'⟩ := hNx H' nx
        have fixed : ∀ b ∈ fp, ∀ o, s7.heap.get? b = some o → s'.heap.get? b = some o ∧ H' b = none := fun b hb o e =>
          have z := I'.pin (b, o) (List.mem_append_right _ (List.mem_append_right _ (mem_pinsAt hb e)))
          ⟨z.1, z.2.1⟩
        refine ⟨m', hm, i + 1, H', (I'.unpinned (pins := [])).weak (by rw [← hw8, wipe_length]) (fun j v e => ?_), T.keep _ _ _ st7 fun b hb o e => (fixed b hb o e).1, fun b hb => ?_, w'⟩
        · rw [← hw8] at e
          exact (wipe_some e).1
        · obtain ⟨o, e, _⟩ := T.obj _ _ st7 b hb
          exact (fixed b hb o e).2
      subst hB
      refine thnF (pg.run _ s7 _ H7 x u _ I7' r7 (step x H7 y7)) fun _ s8 ⟨σ8, H8, I8, hw8, q8⟩ => ?_
      refine thnF (pt.run _ s8 σ8 H8 _ I8 q8) fun b s9 ⟨H9, I9, q9⟩ => ?_
      cases b with
      | false =>
        simp only [Bool.false_eq_true, if_false] at q9 ⊢
        exact gone hw8 I9 q9
      | true =>
        simp only [if_true] at q9 ⊢
        refine thnF (pk.run _ s9 σ8 H9 _ I9 q9) fun z s10 ⟨yk, H10, I10, r10, q10⟩ => ?_
        refine thnF (pv'.run _ s10 σ8 H10 _ I10 q10) fun z2 s11 ⟨yv, H11, I11, r11, T0, k, hik, hN0, hl0, nx⟩ => ?_
        exact nd_dictSet (X := X.blk s3 (upd H2 D (NdO X.prog X.w D [])) scope ce fp) hu4 I11 hN0 hik hl0 r10 r11 fun o s12 hN' I12 => gone hw8 I12 (nx o hN')
  exact codeAny_compStart_dict loop (T.self X.A 0 _ _ _ st4 loop)

/-! ### dict(pairs) -/
abbrev PRow := Addr × NestedKey × Addr × V
def PRowOk (K : PySem.W.Frag) (H : Hp) (r : PRow) : Prop := SqT K H r.1 [.ref r.2.2.1, r.2.2.2] ∧ Nkv H (.ref r.2.2.1) r.2.1 ∧ r.2.1.depth ≤ 8
def rDictN (K : PySem.W.Frag) (P : Program) (w : World) : List V → Hp → VK → Prop := fun xs H Q => ∃ (a : Addr) (rows : List PRow), xs = [.ref a] ∧ SqL K H a (rows.map fun r => .ref r.1) ∧ (∀ r ∈ rows, PRowOk K H r) ∧
  ∀ p o, H p = none → Nd P w (upd H p o) p (rows.foldl (fun acc r => putK acc r.2.1 r.2.2.2) []) → Q (.ref p) (upd H p o)
theorem prow_vals {pins : List (Addr × Obj)} {σ : L2.St} {H : Hp} {s : Shared} (I : Inv X pins σ H s) : ∀ {rows : List PRow}, (∀ r ∈ rows, PRowOk X.K H r) →
    ∃ us : List Value, us.length = rows.length ∧ ∀ (j : Nat) (r : PRow) (u : Value), rows[j]? = some r → us[j]? = some u → RelV r.2.2.2 u ∧ IsTup s.heap r.1 #[.ref r.2.2.1, u]
  | [], _ => ⟨[], rfl, fun j r u h => by simp at h⟩
  | r :: rows, h => by
    obtain ⟨us, h1, h2⟩ := prow_vals I fun q hq => h q (List.mem_cons_of_mem _ hq)
    obtain ⟨its, rv, tp, _⟩ := I.tuple (h r List.mem_cons_self).1
    obtain ⟨u0, u1, rfl, r0, r1⟩ := vals2 rv
    cases r0
    refine ⟨u1 :: us, by rw [List.length_cons, h1, List.length_cons], fun j r' u e1 e2 => ?_⟩
    cases j with
    | zero =>
      obtain rfl : r = r' := by simpa using e1
      obtain rfl : u1 = u := by simpa using e2
      exact ⟨r1, tp⟩
    | succ j => exact h2 j r' u (by simpa using e1) (by simpa using e2)
theorem rows_all : ∀ {rows : List PRow} {us : List Value} {L : List Row} {xs : List (NestedKey × Addr × Value)}, us.length = rows.length → (∀ (j : Nat) (r : PRow) (u : Value), rows[j]? = some r → us[j]? = some u → RelV r.2.2.2 u) → Paired RowRel L xs →
    Paired RowRel (rows.foldl (fun acc r => putRow acc r.2.1 r.2.2.1 r.2.2.2) L) (storedAllH xs ((rows.zip us).map fun p => (p.1.2.1, p.1.2.2.1, p.2)))
  | [], _, _, _, _, _, r => by simpa [storedAllH] using r
  | r0 :: rows, [], _, _, h, _, _ => by cases h
  | r0 :: rows, u :: us, L, xs, h, hr, r => by
    have h0 := hr 0 r0 u rfl rfl
    exact rows_all (rows := rows) (us := us) (by simpa using h) (fun j r u e1 e2 => hr (j + 1) r u (by simpa using e1) (by simpa using e2)) (rows_put r r0.2.1 r0.2.2.1 h0)
theorem fold_tab : ∀ (rows : List PRow) (L : List Row), tab (rows.foldl (fun acc r => putRow acc r.2.1 r.2.2.1 r.2.2.2) L) = rows.foldl (fun acc r => putK acc r.2.1 r.2.2.2) (tab L)
  | [], _ => rfl
  | r :: rows, L => by
    rw [List.foldl_cons, List.foldl_cons, fold_tab rows, tab_put]
theorem fold_keys {H : Hp} : ∀ {rows : List PRow} {L : List Row}, (∀ r ∈ rows, Nkv H (.ref r.2.2.1) r.2.1 ∧ r.2.1.depth ≤ 8) → NdKeys H L → NdKeys H (rows.foldl (fun acc r => putRow acc r.2.1 r.2.2.1 r.2.2.2) L)
  | [], _, _, h => h
  | r :: rows, L, hr, h => by
    rw [List.foldl_cons]
    refine fold_keys (fun q hq => hr q (List.mem_cons_of_mem _ hq)) fun x hx => ?_
    rcases putRow_keys L r.2.1 r.2.2.1 r.2.2.2 x hx with ⟨h1, h2⟩ | ⟨z, hz, h1, h2⟩
    · rw [h1, h2]
      exact hr r List.mem_cons_self
    · rw [h1, h2]
      exact h z hz
theorem fold_len : ∀ (rows : List PRow) (L : List Row), (rows.foldl (fun acc r => putRow acc r.2.1 r.2.2.1 r.2.2.2) L).length ≤ L.length + rows.length
  | [], L => Nat.le_refl _
  | r :: rows, L => by
    have h1 := fold_len rows (putRow L r.2.1 r.2.2.1 r.2.2.2)
    have h2 := putRow_len L r.2.1 r.2.2.1 r.2.2.2
    rw [List.foldl_cons, List.length_cons]
    omega
theorem fold_nodup : ∀ {rows : List PRow} {L : List Row}, (L.map (·.1)).Nodup → ((rows.foldl (fun acc r => putRow acc r.2.1 r.2.2.1 r.2.2.2) L).map (·.1)).Nodup
  | [], _, h => h
  | r :: rows, L, h => by
    rw [List.foldl_cons]
    exact fold_nodup (putRow_nodup _ _ _ h)
theorem call_dictN (hu : X.A.units + 60 < cLine) (hc : X.calm = true) : CallR X (.type "dict") (rDictN X.K X.prog X.w) := by
  intro pins s σ H xs us Q I r h
  obtain ⟨a, rows, rfl, hl, hr, q⟩ := h
  obtain ⟨u, rfl, ru⟩ := vals1 r
  cases ru
  obtain ⟨its, rv, ⟨o, n, ho, hcl, hdi, hdt⟩, hz⟩ := I.list hl
  obtain ⟨vs, hvl, hv⟩ := prow_vals I hr
  rw [List.length_map] at hz
  have hil : its.length = rows.length := by rw [← rv.length, List.length_map]
  have item : ∀ (j : Nat) (r : PRow), rows[j]? = some r → its[j]? = some (.ref r.1) := fun j r e => by
    obtain ⟨u, hu1, hu2⟩ := rv.get (i := j) (x := .ref r.1) (by rw [List.getElem?_map, e]; rfl)
    cases hu2
    exact hu1
  have zipAt : ∀ (j : Nat) (r : PRow) (u : Value), (rows.zip vs)[j]? = some (r, u) → rows[j]? = some r ∧ vs[j]? = some u := fun j r u e => by
    rw [List.getElem?_zip_eq_some] at e
    exact e
  refine call_dict_pairsH (knd := nestedKind X.prog X.w) (ps := (rows.zip vs).map fun p => (p.1.2.1, p.1.2.2.1, p.2))
    (PairArg.list a its.toArray (fun j => ((rows[j]?).map (·.1)).getD 0) ((rows.zip vs).map fun p => (.ref p.1.2.2.1, p.2))) (I.ok.hd hc) (show X.A.units + 1 + 1 + 8 < cLine by omega) ⟨⟨o, n, ho, hcl, hdi, hdt⟩, ?_, ?_⟩ ⟨by simp, ?_⟩ ?_ ?_ fun h' tk dd kp => ?_
  · simp [hil, hvl]
  · intro j k v e
    rw [List.getElem?_map] at e
    cases e0 : (rows.zip vs)[j]? with
    | none => rw [e0] at e; cases e
    | some p =>
      rw [e0] at e
      obtain ⟨r, u⟩ := p
      have e' : ((.ref r.2.2.1 : Value), u) = (k, v) := Option.some.inj e
      obtain ⟨e1, e2⟩ := zipAt j r u e0
      have e3 := item j r e1
      have e4 : ((rows[j]?).map (·.1)).getD 0 = r.1 := by rw [e1]; rfl
      cases e'
      show its.toArray[j]? = some (.ref (((rows[j]?).map (·.1)).getD 0)) ∧ PairAt s.heap (((rows[j]?).map (·.1)).getD 0) _ _
      rw [e4]
      exact ⟨by simpa using e3, .inl (hv j r _ e1 e2).2⟩
  · intro j key v e
    have e : ((rows.zip vs).map fun p => ((.ref p.1.2.2.1 : Value), p.2))[j]? = some (key, v) := e
    rw [List.getElem?_map] at e ⊢
    cases e0 : (rows.zip vs)[j]? with
    | none => rw [e0] at e; cases e
    | some p =>
      rw [e0] at e
      have e' : ((.ref p.1.2.2.1 : Value), p.2) = (key, v) := Option.some.inj e
      cases e'
      exact ⟨_, _, rfl, rfl⟩
  · intro h' kp x hx
    obtain ⟨p, hp, rfl⟩ := List.mem_map.mp hx
    have := List.of_mem_zip hp
    obtain ⟨_, g1, g2⟩ := hr _ this.1
    exact ⟨NestedIs.at (fun b ob vs n hb _ => kp b ob (Nat.ne_of_lt (Heap.lt_size hb)) (fun z => nomatch z) hb) _ _ (Nkv.is I.hok _ _ _ g1 rfl), g2⟩
  · simp [hvl]
    exact hz
  · obtain ⟨o2, es, ep, h1, h2, h3, h4, _, _⟩ := dd
    have hm : (s.heap.objs.size == sysModules) = false := beq_eq_false_iff_ne.mpr (Nat.ne_of_gt I.big)
    have rr := rows_all (rows := rows) (us := vs) (L := []) (xs := []) hvl (fun j r u e1 e2 => (hv j r u e1 e2).1) .nil
    have new : NdAt X.prog X.w s.heap.objs.size (rows.foldl (fun acc r => putRow acc r.2.1 r.2.2.1 r.2.2.2) []) h' :=
      ⟨by have := fold_len rows []; rw [List.length_nil] at this; omega, hm, fold_nodup List.nodup_nil, _, o2, es, ep, rr, h1, h2, h3, h4⟩
    refine ⟨.ref _, _, I.laid (t' := tk) (fun b o e => kp b o (fun z => nomatch z) e) (Nat.le_refl _) (ndAt_obj new), rfl, q _ _ (I.hok.fresh (Nat.le_refl _)) ⟨_, upd_same, ?_, by rw [fold_tab]; rfl⟩⟩
    refine fold_keys (fun r hr' => ⟨Nkv.mono (fun b xs e => by rw [upd_ne (ne_of_none e (I.hok.fresh (Nat.le_refl _)))]; exact e) _ _ (hr r hr').2.1, (hr r hr').2.2⟩) (fun _ hx => by cases hx)
end
end Nj
set_option Elab.async false
set_option linter.all false
set_option maxRecDepth 100000
set_option maxHeartbeats 4000000
/-! Short words for the walk: defs that keep a promise, classes, constants, loops. -/
namespace Nj
open PySem PySem.Spec PyProof.Rows L2

theorem B_len : bootBuiltins "len" = some (.builtin "len") := by decide +kernel
theorem B_all : bootBuiltins "all" = some (.builtin "all") := by decide +kernel
theorem B_any : bootBuiltins "any" = some (.builtin "any") := by decide +kernel
theorem B_min : bootBuiltins "min" = some (.builtin "min") := by decide +kernel
theorem B_max : bootBuiltins "max" = some (.builtin "max") := by decide +kernel
theorem B_sum : bootBuiltins "sum" = some (.builtin "sum") := by decide +kernel
theorem B_abs : bootBuiltins "abs" = some (.builtin "abs") := by decide +kernel
theorem B_sorted : bootBuiltins "sorted" = some (.builtin "sorted") := by decide +kernel
theorem B_isinstance : bootBuiltins "isinstance" = some (.builtin "isinstance") := by decide +kernel
theorem B_int : bootBuiltins "int" = some (.type "int") := by decide +kernel
theorem B_bool : bootBuiltins "bool" = some (.type "bool") := by decide +kernel
theorem B_str : bootBuiltins "str" = some (.type "str") := by decide +kernel
theorem B_list : bootBuiltins "list" = some (.type "list") := by decide +kernel
theorem B_tuple : bootBuiltins "tuple" = some (.type "tuple") := by decide +kernel
theorem B_dict : bootBuiltins "dict" = some (.type "dict") := by decide +kernel
theorem B_range : bootBuiltins "range" = some (.type "range") := by decide +kernel
theorem B_enumerate : bootBuiltins "enumerate" = some (.type "enumerate") := by decide +kernel
theorem B_zip : bootBuiltins "zip" = some (.type "zip") := by decide +kernel

/-- the def x, as the top has written it -/
structure Df (K : PySem.W.Frag) (mg : Str → Option Value) (x : Str) (st : Stmt) (ps : List Str) : Prop where
  ex : ∃ f fd, Fun K x x st f fd ∧ Binds K fd ps [] ∧ mg x = some (.ref f)
/-- the def x keeps the promise sp at level k -/
structure Ok (P : Program) (w : World) (K : PySem.W.Frag) (mg : Str → Option Value) (base : Heap) (x : Str) (k : Nat) (ps : List Str) (sp : Sp) : Prop where
  ex : ∃ f fd, FnOk P w K mg base CX0 k f fd ps sp ∧ mg x = some (.ref f) ∧ PySem.W.keepIn K (.ref f) = true ∧ Binds K fd ps []
section
variable {P : Program} {w : World} {K : PySem.W.Frag} {mg : Str → Option Value} {base : Heap}
theorem Df.ok {x : Str} {st : Stmt} {N ps : List Str} {k : Nat} {sp : Sp} (D : Df K mg x st ps) (Sc : FnScope N ps (defScope st)) (len : ∀ vs H Q E, sp vs H Q E → vs.length = ps.length)
    (hbody : ∀ (f : Addr) (cdv : Value) (A : Around) (outer : List Env) (s : Shared) (H : Hp) (vs : List V) (Q : VK) (E : XK), Room k (A.deeper (envOfC x (defScope st) s.heap.objs.size f cdv)) → sp vs H Q E →
      ∃ t, PSs (cxOf CX0 P w K mg base N x (defScope st) f cdv A outer s H E).nox (defBody st) t ∧ t { nx := fun _ H' => Q .non H', rt := Q } (start N vs) H) : Ok P w K mg base x (k + 1) ps sp := by
  obtain ⟨f, fd, F, b, m⟩ := D.ex
  exact ⟨f, fd, F.ok Sc len (hbody f), m, F.kp, b⟩
/-- a method of a class of the text -/
structure DfM (K : PySem.W.Frag) (C : Addr) (m qual : Str) (st : Stmt) (ps : List Str) : Prop where
  ex : ∃ f fd, Fun K m qual st f fd ∧ Binds K fd ps [] ∧ Meth K C m f
structure OkM (P : Program) (w : World) (K : PySem.W.Frag) (mg : Str → Option Value) (base : Heap) (C : Addr) (m : Str) (k : Nat) (ps : List Str) (sp : Sp) : Prop where
  ex : ∃ f fd, FnOk P w K mg base CX0 k f fd ps sp ∧ Meth K C m f ∧ Binds K fd ps []
theorem DfM.ok {C : Addr} {m qual : Str} {st : Stmt} {N ps : List Str} {k : Nat} {sp : Sp} (D : DfM K C m qual st ps) (Sc : FnScope N ps (defScope st)) (len : ∀ vs H Q E, sp vs H Q E → vs.length = ps.length)
    (hbody : ∀ (f : Addr) (cdv : Value) (A : Around) (outer : List Env) (s : Shared) (H : Hp) (vs : List V) (Q : VK) (E : XK), Room k (A.deeper (envOfC qual (defScope st) s.heap.objs.size f cdv)) → sp vs H Q E →
      ∃ t, PSs (cxOf CX0 P w K mg base N qual (defScope st) f cdv A outer s H E).nox (defBody st) t ∧ t { nx := fun _ H' => Q .non H', rt := Q } (start N vs) H) : OkM P w K mg base C m (k + 1) ps sp := by
  obtain ⟨f, fd, F, b, m⟩ := D.ex
  exact ⟨f, fd, F.ok Sc len (hbody f), m, b⟩
/-- an own class is made: its __init__ -/
structure DfC (K : PySem.W.Frag) (C : Addr) (qual : Str) (st : Stmt) (ps : List Str) : Prop where
  ex : ∃ f fd, Fun K "__init__" qual st f fd ∧ Binds K fd ps [] ∧ Mk K C f
structure OkC (P : Program) (w : World) (K : PySem.W.Frag) (mg : Str → Option Value) (base : Heap) (C : Addr) (k : Nat) (ps : List Str) (sp : Sp) : Prop where
  ex : ∃ f fd, FnOk P w K mg base CX0 k f fd ps sp ∧ Mk K C f ∧ Binds K fd ps []
theorem DfC.ok {C : Addr} {qual : Str} {st : Stmt} {N ps : List Str} {k : Nat} {sp : Sp} (D : DfC K C qual st ps) (Sc : FnScope N ps (defScope st)) (len : ∀ vs H Q E, sp vs H Q E → vs.length = ps.length)
    (hbody : ∀ (f : Addr) (cdv : Value) (A : Around) (outer : List Env) (s : Shared) (H : Hp) (vs : List V) (Q : VK) (E : XK), Room k (A.deeper (envOfC qual (defScope st) s.heap.objs.size f cdv)) → sp vs H Q E →
      ∃ t, PSs (cxOf CX0 P w K mg base N qual (defScope st) f cdv A outer s H E).nox (defBody st) t ∧ t { nx := fun _ H' => Q .non H', rt := Q } (start N vs) H) : OkC P w K mg base C (k + 1) ps sp := by
  obtain ⟨f, fd, F, b, m⟩ := D.ex
  exact ⟨f, fd, F.ok Sc len (hbody f), m, b⟩
end
section
variable {X : Cx} {x m : Str} {p pos apos : PySem.Pos} {e o : Expr} {es : List Expr} {t : TA} {ta : TE} {k j : Nat} {ps : List Str} {sp : Sp} {C : Addr}
theorem pk (G : Ok X.prog X.w X.K X.mg X.base x k ps sp) (hr : Room j X.A) (hkj : k ≤ j) (hg : Gl X x) (ha : PA X (e :: es) t)
    (hdb : (x == ("__debug__" : Str)) = false := by decide) (he : starEach (e :: es) X.env = (false, eval e X.env) :: starEach es X.env := by rfl) (hpl : (backTo pos (starEach es X.env)).any (·.1) = false := by rfl) :
    PE X (.Call (.Name x p) (e :: es) [] pos) (tCall sp [] E0 t) := by
  obtain ⟨f, fd, F, hm, hk, hb⟩ := G.ex
  exact pe_call F (hr.mono hkj) hg hm hk hb .nil pass0 ha hdb he hpl
theorem mkO (G : OkC X.prog X.w X.K X.mg X.base C k ps sp) (hr : Room j X.A) (hkj : k + 1 ≤ j) (hg : Gl X x) (hm : X.mg x = some (.ref C)) (ha : PA X (e :: es) t)
    (hdb : (x == ("__debug__" : Str)) = false := by decide) (he : starEach (e :: es) X.env = (false, eval e X.env) :: starEach es X.env := by rfl) (hpl : (backTo pos (starEach es X.env)).any (·.1) = false := by rfl) :
    PE X (.Call (.Name x p) (e :: es) [] pos) (tMake C sp [] E0 t) := by
  obtain ⟨f, fd, F, M, hb⟩ := G.ex
  exact pe_make M F (hr.mono hkj) hg hm hb .nil pass0 ha hdb he hpl
theorem mm {pl : Sem Bool} (c : Cls X.K C) (G : OkM X.prog X.w X.K X.mg X.base C m k ps sp) (hr : Room j X.A) (hkj : k ≤ j) (he : PE X o ta) (ha : PA X (e :: es) t)
    (hst : starEach (e :: es) X.env = (false, eval e X.env) :: starEach es X.env := by rfl) (hpl : (backTo pos (starEach es X.env)).any (·.1) = false := by rfl)
    (ht : eval (.Call (.Attribute o m apos) (e :: es) [] pos) X.env = (do
      let ov ← eval o X.env
      standAt apos.atName
      let (f, first) ← holding [ov] (getMethod ov m pl)
      callWith pos f first (backTo pos (starEach (e :: es) X.env)) (backToKw pos (keywordEach [] X.env))) := by rfl) :
    PE X (.Call (.Attribute o m apos) (e :: es) [] pos) (tMeth C m sp [] E0 ta t) := by
  obtain ⟨f, fd, F, hm, hb⟩ := G.ex
  exact pe_meth he c hm F (hr.mono hkj) hb .nil pass0 ha hst hpl ht
theorem pgs {z : Str} (hg : Gl X x) (hm : ∃ t, X.mg x = some (.str z t)) (hd : (x == ("__debug__" : Str)) = false := by decide) : PE X (.Name x pos) (tC (.str z)) := by
  obtain ⟨t, h⟩ := hm
  exact pe_glob hg h ⟨t, rfl⟩ hd
theorem pgi {z : Int} (hg : Gl X x) (hm : ∃ t, X.mg x = some (.int z t)) (hd : (x == ("__debug__" : Str)) = false := by decide) : PE X (.Name x pos) (tC (.int z)) := by
  obtain ⟨t, h⟩ := hm
  exact pe_glob hg h ⟨t, rfl⟩ hd
end

/-! ### the rules with the written part told (within a comprehension's block) -/
section
variable {X : Cx} (K : PySem.W.Frag) {e o l : Expr} {te ta tl ty td tx : TE} {pos p apos cpos tpos : PySem.Pos}
theorem ixT (h : X.K = K := by rfl) : IxR X (rIxT K) := by subst h; exact ix_tup
theorem ixL (h : X.K = K := by rfl) : IxR X (rIxL K) := by subst h; exact ix_list
theorem slL (h : X.K = K := by rfl) : SlR X (rSlL K) := by subst h; exact sl_list
theorem ltD (hu : X.A.units + 64 < cLine) (h : X.K = K := by rfl) : OpR X (compareOp .Lt) (rLtD K) := by subst h; exact op_ltD hu
theorem inTD (hu : X.A.units + 65 < cLine) (h : X.K = K := by rfl) : OpR X (compareOp .In) (rInTD K) := by subst h; exact op_inTD hu
theorem inSq (h : X.K = K := by rfl) : OpR X (compareOp .In) (rIn K false) := by subst h; exact op_in_seq
theorem niSq (h : X.K = K := by rfl) : OpR X (compareOp .NotIn) (rIn K true) := by subst h; exact op_notIn_seq
theorem crAll (hc : X.calm = true) (h : X.K = K := by rfl) : CallR X (.builtin "all") (rAll K) := by subst h; exact cr_all hc
theorem crAny (hc : X.calm = true) (h : X.K = K := by rfl) : CallR X (.builtin "any") (rAny K) := by subst h; exact cr_any hc
theorem crSum (hc : X.calm = true) (h : X.K = K := by rfl) : CallR X (.builtin "sum") (rSum K) := by subst h; exact cr_sum hc
theorem crMax (hc : X.calm = true) (h : X.K = K := by rfl) : CallR X (.builtin "max") (rMax K) := by subst h; exact cr_max hc
theorem crSortD (hu : X.A.units + 64 < cLine) (h : X.K = K := by rfl) : CallR X (.builtin "sorted") (rSortD K) := by subst h; exact cr_sortD hu
def rLenS (K : PySem.W.Frag) : List V → Hp → VK → Prop := fun xs H Q => ∃ p ys, xs = [.ref p] ∧ (SqL K H p ys ∨ SqT K H p ys) ∧ Q (.int ys.length) H
theorem crLen (h : X.K = K := by rfl) : CallR X (.builtin "len") (rLenS K) := by subst h; exact call_len_seq
def rTupS (K : PySem.W.Frag) : List V → Hp → VK → Prop := fun xs H Q => ∃ p ys, xs = [.ref p] ∧ ((SqL K H p ys ∧ ∀ l, H l = none → Q (.ref l) (upd H l (.tup ys))) ∨ (SqT K H p ys ∧ Q (.ref p) H))
theorem crTup (h : X.K = K := by rfl) : CallR X (.type "tuple") (rTupS K) := by subst h; exact call_tuple_of
def rLstS (K : PySem.W.Frag) : List V → Hp → VK → Prop := fun xs H Q => ∃ p ys, xs = [.ref p] ∧ (SqL K H p ys ∨ SqT K H p ys) ∧ ∀ l, H l = none → Q (.ref l) (upd H l (.lst ys))
theorem crLst (h : X.K = K := by rfl) : CallR X (.type "list") (rLstS K) := by subst h; exact call_list_of
theorem crIsi (h : X.K = K := by rfl) : CallR X (.builtin "isinstance") (rIsi K) := by subst h; exact call_isi
theorem crIsiT (h : X.K = K := by rfl) : CallR X (.builtin "isinstance") (rIsiT K) := by subst h; exact call_isiT
theorem piL {tg : Expr} (hl : PE X l tl) (h : X.K = K := by rfl) : PI X tg l (iList K tl) := by subst h; exact pi_list hl
theorem piT {tg : Expr} (hl : PE X l tl) (h : X.K = K := by rfl) : PI X tg l (iTup K tl) := by subst h; exact pi_tup hl
theorem pgT {es : List Expr} {k : Nat} {t : TGs} {n : Nat} (hc : X.calm = true) (hp : PGs X es t) (h : X.K = K := by rfl) (hn : (assignEach es X.env).length = n := by rfl) (hst : (assignEach es X.env).findIdx? (·.1) = none := by rfl) : PG X (.Tuple es k pos) (gTup K n t) := by
  subst h
  exact pg_tup hc hp hn hst
theorem fld {f : Str} (he : PE X e ta) (hb : attributeBase e f X.env (eval e X.env) = eval e X.env) (h : X.K = K := by rfl) : PE X (.Attribute e f pos) (tFld K ta f) := by
  subst h
  exact pe_fld he hb
variable (P : Program) (w : World) {i : Expr}
theorem nget (hu : X.A.units + 60 < cLine) (ho : PE X o td) (hi : PE X i ty) (hs : NoSl i) (h1 : X.prog = P := by rfl) (h2 : X.w = w := by rfl) : PE X (.Subscript o i pos) (tNGet P w td ty) := by
  subst h1 h2
  exact pe_nget hu ho hi hs
end

/-! ### texts -/
/-- a text by its code points -/
def S (t : Tx) : Str := ⟨t.toArray⟩
theorem S_list (t : Tx) : (S t).cps.toList = t := by simp [S]
theorem S_inj {t u : Tx} (h : S t = S u) : t = u := by
  have := congrArg (fun x : Str => x.cps.toList) h
  simpa [S] using this
theorem S_len (t : Tx) : (S t).length = t.length := by simp [S, Str.length]
theorem S_app (t u : Tx) : S t ++ S u = S (t ++ u) := by
  show (⟨(S t).cps ++ (S u).cps⟩ : Str) = _
  simp [S]
theorem S_one (c : Nat) : S [c] = ⟨#[c]⟩ := rfl
theorem S_of (z : Str) : ∃ t, z = S t := ⟨z.cps.toList, by simp [S]⟩

/-! ### loops and comprehensions, by what is walked -/
/-- a walk of n items: G holds in every turn, item tells the i-th -/
structure Src (J : It) (n : Nat) (G : Hp → Prop) (item : Nat → V → Hp → Hp → Prop) : Prop where
  go : ∀ i H, i < n → G H → J.go i H
  yld : ∀ i H x H', i < n → G H → J.yld i H x H' → item i x H H'
  stop : ∀ H, G H → J.stop n H
theorem for_src {J : It} {n : Nat} {G : Hp → Prop} {item : Nat → V → Hp → Hp → Prop} (Sr : Src J n G item) {g : TG} {tb : TS} {D : Ends} {σ : L2.St} {H : Hp} (Pv : Nat → L2.St → Hp → Prop) (h0 : Pv 0 σ H) (hG : ∀ i σ H, i ≤ n → Pv i σ H → G H)
    (hs : ∀ i x σ H H', i < n → Pv i σ H → item i x H H' → g x σ H' fun σ2 H2 => tb { D with nx := Pv (i + 1), ct := Pv (i + 1), bk := D.nx } σ2 H2) (hd : ∀ σ H, Pv n σ H → D.nx σ H) :
    ∃ W : Nat → Nat → L2.St → Hp → Prop, (∃ m, W 0 m σ H) ∧ ∀ i m σ H, W i m σ H →
      (J.stop i H ∧ D.nx σ H) ∨ (J.go i H ∧ ∃ N : L2.St → Hp → Prop, (∀ σ' H', N σ' H' → ∃ m', m' < m ∧ W (i + 1) m' σ' H') ∧ ∀ x H', J.yld i H x H' → g x σ H' fun σ2 H2 => tb { D with nx := N, ct := N, bk := D.nx } σ2 H2) := by
  refine ⟨fun i m σ H => i + m = n ∧ Pv i σ H, ⟨n, by simp, h0⟩, ?_⟩
  rintro i m σ H ⟨e, p⟩
  have q := hG i σ H (by omega) p
  by_cases hlt : i < n
  · exact .inr ⟨Sr.go i H hlt q, Pv (i + 1), fun σ' H' p' => ⟨m - 1, by omega, by omega, p'⟩, fun x H' y => hs i x σ H H' hlt p (Sr.yld i H x H' hlt q y)⟩
  · obtain rfl : i = n := by omega
    exact .inl ⟨Sr.stop H q, hd σ H p⟩
theorem lc_src {J : It} {n : Nat} {G : Hp → Prop} {item : Nat → V → Hp → Hp → Prop} (Sr : Src J n G item) {g : TG} {tt : TT} {te : TE} {vs : List Nat} {σ : L2.St} {H1 : Hp} {D : Addr} {Qd : Hp → Prop} (Pv : Nat → Hp → Prop) (h0 : Pv 0 (upd H1 D (.lst []))) (hG : ∀ i H, i ≤ n → Pv i H → G H)
    (hs : ∀ i x H H', i < n → Pv i H → item i x H H' → g x (wipe σ vs) H' fun σ2 H2 => wipe σ2 vs = wipe σ vs ∧ tt σ2 H2 fun b H3 => if b = true then te σ2 H3 fun y H4 => ∃ acc, H4 D = some (.lst acc) ∧ acc.length < sizeLine ∧ Pv (i + 1) (upd H4 D (.lst (acc ++ [y]))) else Pv (i + 1) H3)
    (hd : ∀ H, Pv n H → Qd H) :
    ∃ W : Nat → Nat → Hp → Prop, (∃ m, W 0 m (upd H1 D (.lst []))) ∧ ∀ i m H, W i m H →
      (J.stop i H ∧ Qd H) ∨ (J.go i H ∧ ∃ Nx : Hp → Prop, (∀ H', Nx H' → ∃ m', m' < m ∧ W (i + 1) m' H') ∧ ∀ x H', J.yld i H x H' → g x (wipe σ vs) H' fun σ2 H2 => wipe σ2 vs = wipe σ vs ∧ tt σ2 H2 fun b H3 =>
        if b = true then te σ2 H3 fun y H4 => ∃ acc, H4 D = some (.lst acc) ∧ acc.length < sizeLine ∧ Nx (upd H4 D (.lst (acc ++ [y]))) else Nx H3) := by
  refine ⟨fun i m H => i + m = n ∧ Pv i H, ⟨n, by simp, h0⟩, ?_⟩
  rintro i m H ⟨e, p⟩
  have q := hG i H (by omega) p
  by_cases hlt : i < n
  · exact .inr ⟨Sr.go i H hlt q, Pv (i + 1), fun H' p' => ⟨m - 1, by omega, by omega, p'⟩, fun x H' y => hs i x H H' hlt p (Sr.yld i H x H' hlt q y)⟩
  · obtain rfl : i = n := by omega
    exact .inl ⟨Sr.stop H q, hd H p⟩
/-- what a comprehension of flat items makes -/
def made {α : Type} (n : Nat) (kp : Nat → Bool) (out : Nat → α) : List α := ((List.range n).filter kp).map out
theorem made_succ {α : Type} (n : Nat) (kp : Nat → Bool) (out : Nat → α) : made (n + 1) kp out = made n kp out ++ (if kp n = true then [out n] else []) := by
  unfold made
  rw [List.range_succ, List.filter_append, List.map_append]
  congr 1
  by_cases h : kp n = true
  · rw [if_pos h, List.filter_cons, if_pos h]; rfl
  · rw [if_neg h, List.filter_cons, if_neg h]; rfl
theorem made_len {α : Type} (n : Nat) (kp : Nat → Bool) (out : Nat → α) : (made n kp out).length ≤ n := by
  unfold made
  rw [List.length_map]
  exact Nat.le_trans (List.length_filter_le _ _) (by rw [List.length_range]; exact Nat.le_refl _)
/-- a comprehension whose steps make new objects at most, and whose items are told ahead -/
theorem lc_pure {J : It} {n : Nat} {G : Hp → Prop} {item : Nat → V → Hp → Hp → Prop} (Sr : Src J n G item) {g : TG} {tt : TT} {te : TE} {vs : List Nat} {σ : L2.St} {H1 : Hp} {D : Addr} {Qd : Hp → Prop} (kp : Nat → Bool) (out : Nat → V) (nD : H1 D = none) (hz : n ≤ 100000) (hG : ∀ H, Same H1 H → G H)
    (hs : ∀ i x H H', i < n → Same H1 H → item i x H H' → ∀ (Qy : VK) (Qn : Hp → Prop), (kp i = true → ∀ H4, Same H H4 → Qy (out i) H4) → (kp i = false → ∀ H3, Same H H3 → Qn H3) →
      g x (wipe σ vs) H' fun σ2 H2 => wipe σ2 vs = wipe σ vs ∧ tt σ2 H2 fun b H3 => if b = true then te σ2 H3 Qy else Qn H3)
    (hd : ∀ H, Same H1 H → H D = some (.lst (made n kp out)) → Qd H) :
    ∃ W : Nat → Nat → Hp → Prop, (∃ m, W 0 m (upd H1 D (.lst []))) ∧ ∀ i m H, W i m H →
      (J.stop i H ∧ Qd H) ∨ (J.go i H ∧ ∃ Nx : Hp → Prop, (∀ H', Nx H' → ∃ m', m' < m ∧ W (i + 1) m' H') ∧ ∀ x H', J.yld i H x H' → g x (wipe σ vs) H' fun σ2 H2 => wipe σ2 vs = wipe σ vs ∧ tt σ2 H2 fun b H3 =>
        if b = true then te σ2 H3 fun y H4 => ∃ acc, H4 D = some (.lst acc) ∧ acc.length < sizeLine ∧ Nx (upd H4 D (.lst (acc ++ [y]))) else Nx H3) := by
  refine lc_src Sr (fun i H => Same H1 H ∧ H D = some (.lst (made i kp out))) ⟨fun b o e => by rw [upd_ne (ne_of_none e nD)]; exact e, upd_same⟩ (fun i H _ h => hG H h.1) ?_ fun H h => hd H h.1 h.2
  rintro i x H H' hi ⟨sm, hD⟩ it
  refine hs i x H H' hi sm it _ _ (fun hk H4 s4 => ?_) fun hk H3 s3 => ?_
  · refine ⟨made i kp out, s4 _ _ hD, ?_, fun b o e => ?_, ?_⟩
    · have := made_len i kp out
      rw [sizeLine_eq]
      omega
    · rw [upd_ne (ne_of_none e nD)]
      exact s4 _ _ (sm _ _ e)
    · rw [upd_same, made_succ, if_pos hk]
  · refine ⟨sm.trans s3, ?_⟩
    rw [made_succ, if_neg (by rw [hk]; decide), List.append_nil]
    exact s3 _ _ hD
theorem yes_go {te : TE} {σ : L2.St} {H : Hp} {Qy : VK} {Qn : Hp → Prop} (h : te σ H Qy) : tYes σ H fun b H3 => if b = true then te σ H3 Qy else Qn H3 := by
  show (if true = true then te σ H Qy else Qn H)
  rw [if_pos rfl]
  exact h
/-! ### sources -/
theorem src_list {K : PySem.W.Frag} {a : Addr} {xs : List V} : Src (Itl K a) xs.length (fun H => SqL K H a xs) fun i x H H' => H' = H ∧ xs[i]? = some x :=
  ⟨fun i H hi hG => ⟨xs, xs[i], hG, by simp [hi]⟩, fun i H x H' hi hG y => ⟨y.1, y.2 xs hG⟩, fun H hG => ⟨xs, hG, Nat.le_refl _⟩⟩
theorem src_tup {K : PySem.W.Frag} {a : Addr} {xs : List V} : Src (Itt K a) xs.length (fun H => SqT K H a xs) fun i x H H' => H' = H ∧ xs[i]? = some x :=
  ⟨fun i H hi hG => ⟨xs, xs[i], hG, by simp [hi]⟩, fun i H x H' hi hG y => ⟨y.1, y.2 xs hG⟩, fun H hG => ⟨xs, hG, Nat.le_refl _⟩⟩
theorem src_rng {lo : Int} {n : Nat} : Src (Itr lo n) n (fun _ => True) fun i x H H' => H' = H ∧ x = .int (lo + i) :=
  ⟨fun i H hi _ => hi, fun i H x H' hi _ y => by obtain ⟨e1, e2⟩ := y; exact ⟨by first | exact e1 | exact e2, by first | exact e2 | exact e1⟩, fun H _ => Nat.le_refl _⟩
theorem src_str {t : Tx} : Src (Its (S t)) t.length (fun _ => True) fun i x H H' => H' = H ∧ ∃ c, t[i]? = some c ∧ x = .str (S [c]) :=
  ⟨fun i H hi _ => by show i < (S t).cps.size; simpa [S] using hi, fun i H x H' hi _ y => by
    obtain ⟨e, c, hc, hx⟩ := y
    exact ⟨e, c, by simpa [S] using hc, hx⟩, fun H _ => by show (S t).cps.size ≤ t.length; simp [S]⟩
theorem src_et {K : PySem.W.Frag} {a : Addr} {xs : List V} : Src (Iet K a xs) xs.length (fun H => SqT K H a xs) fun i v H H' => ∃ T x, v = .ref T ∧ H T = none ∧ H' = upd H T (.tup [.int (i : Nat), x]) ∧ xs[i]? = some x :=
  ⟨fun i H hi hG => ⟨hG, hi⟩, fun i H x H' hi hG y => y, fun H hG => ⟨hG, rfl⟩⟩
theorem src_nd {P : Program} {w : World} {d : Addr} {od : Obj} {T : List (NestedKey × V)} : Src (Itn P w d od T) T.length (fun H => NdF P w H d od T) fun i x H H' => H' = H ∧ ∃ k v, T[i]? = some (k, v) ∧ IsKey H x k :=
  ⟨fun i H hi hG => ⟨hG, hi⟩, fun i H x H' hi hG y => y, fun H hG => ⟨hG, Nat.le_refl _⟩⟩
theorem src_k {d : Addr} {o : Obj} {kvs : List (Key × V)} : Src (Itk d o kvs) kvs.length (fun H => H d = some (.frz o (.dK kvs))) fun i x H H' => H' = H ∧ ∃ k v, kvs[i]? = some (k, v) ∧ x = kV k :=
  ⟨fun i H hi hG => ⟨hG, hi⟩, fun i H x H' hi hG y => y, fun H hG => ⟨hG, Nat.le_refl _⟩⟩
theorem same_new {H : Hp} {p : Addr} {o : HO} (h : H p = none) : Same H (upd H p o) := fun b x e => by
  rw [upd_ne (ne_of_none e h)]
  exact e
theorem Same.tup {K : PySem.W.Frag} {H H' : Hp} {a : Addr} {xs : List V} (e : Same H H') (h : SqT K H a xs) : SqT K H' a xs := by
  rcases h with (h | ⟨o, h⟩) | h
  · exact .inl (.inl (e _ _ h))
  · exact .inl (.inr ⟨o, e _ _ h⟩)
  · exact .inr h
theorem Same.none {H H' : Hp} {p : Addr} (e : Same H H') (h : H' p = none) : H p = none := e.free h
end Nj
set_option Elab.async false
set_option linter.all false
set_option maxRecDepth 100000
set_option maxHeartbeats 4000000
/-! The text by places: printed by gentxt.py. -/
namespace Nj
open PySem PySem.Spec PyProof.Rows L2
def topS (i : Nat) : Stmt := PySem.Challenge.pw_neverjoin_k39_whole_readings_counted_by.main.body.getD i (.Pass ⟨0, 0, 0, 0⟩)
abbrev s_is_integer : Stmt := topS 7
abbrev s_is_within : Stmt := topS 8
abbrev s_is_letter : Stmt := topS 9
abbrev s_is_text : Stmt := topS 10
abbrev s_is_filled_text : Stmt := topS 11
abbrev s_are_ascending : Stmt := topS 12
abbrev s_check_number : Stmt := topS 13
abbrev s_is_arrow : Stmt := topS 17
abbrev s_are_arrows : Stmt := topS 18
abbrev s_reached : Stmt := topS 19
abbrev s_hangs : Stmt := topS 20
abbrev s_Web_init : Stmt := inClass (topS 21) 0
abbrev s_Web_keep : Stmt := inClass (topS 21) 1
abbrev s_Web_eq : Stmt := inClass (topS 21) 2
abbrev s_all_points : Stmt := topS 22
abbrev s_stepped : Stmt := topS 23
abbrev s_ends_from : Stmt := topS 24
abbrev s_ends_of : Stmt := topS 25
abbrev s_stretch_there : Stmt := topS 26
abbrev s_beginnings : Stmt := topS 30
abbrev s_endings : Stmt := topS 31
abbrev s_clash_of : Stmt := topS 32
abbrev s_are_words : Stmt := topS 33
abbrev s_Book_init : Stmt := inClass (topS 34) 0
abbrev s_Book_keep : Stmt := inClass (topS 34) 1
abbrev s_Book_eq : Stmt := inClass (topS 34) 2
abbrev s_levels_of : Stmt := topS 37
abbrev s_many_of : Stmt := topS 38
abbrev s_many_stretches : Stmt := topS 39
abbrev s_state_behind : Stmt := topS 42
abbrev s_ways_counts : Stmt := topS 43
abbrev s_l_hand : Stmt := topS 45
abbrev s_l_draw : Stmt := topS 46
abbrev s_l_is : Stmt := topS 47
abbrev s_l_some : Stmt := topS 48
abbrev s_l_web : Stmt := topS 49
abbrev s_l_ends : Stmt := topS 50
abbrev s_l_signs : Stmt := topS 51
abbrev s_l_longer : Stmt := topS 52
abbrev s_l_stretches : Stmt := topS 53
abbrev s_l_clashing : Stmt := topS 54
abbrev s_l_fits : Stmt := topS 55
abbrev s_l_comings : Stmt := topS 56
abbrev s_l_count : Stmt := topS 57
abbrev s_l_made : Stmt := topS 58
abbrev s_l_is_last : Stmt := topS 59
abbrev s_l_lot : Stmt := topS 60
abbrev s_l_full : Stmt := topS 61
abbrev s_l_words : Stmt := topS 62
abbrev s_law : Stmt := topS 63
theorem sc_is_integer : FnScope ["thing"] ["thing"] (defScope s_is_integer) := ⟨rfl, rfl, rfl, by decide +kernel, rfl, by decide +kernel, by decide +kernel⟩
theorem sc_is_within : FnScope ["thing", "least", "most"] ["thing", "least", "most"] (defScope s_is_within) := ⟨rfl, rfl, rfl, by decide +kernel, rfl, by decide +kernel, by decide +kernel⟩
theorem sc_is_letter : FnScope ["thing"] ["thing"] (defScope s_is_letter) := ⟨rfl, rfl, rfl, by decide +kernel, rfl, by decide +kernel, by decide +kernel⟩
theorem sc_is_text : FnScope ["thing", "sign"] ["thing"] (defScope s_is_text) := ⟨rfl, rfl, rfl, by decide +kernel, rfl, by decide +kernel, by decide +kernel⟩
theorem sc_is_filled_text : FnScope ["thing", "most"] ["thing", "most"] (defScope s_is_filled_text) := ⟨rfl, rfl, rfl, by decide +kernel, rfl, by decide +kernel, by decide +kernel⟩
theorem sc_are_ascending : FnScope ["things", "at"] ["things"] (defScope s_are_ascending) := ⟨rfl, rfl, rfl, by decide +kernel, rfl, by decide +kernel, by decide +kernel⟩
theorem sc_check_number : FnScope ["thing", "least", "most"] ["thing", "least", "most"] (defScope s_check_number) := ⟨rfl, rfl, rfl, by decide +kernel, rfl, by decide +kernel, by decide +kernel⟩
theorem sc_is_arrow : FnScope ["thing", "points"] ["thing", "points"] (defScope s_is_arrow) := ⟨rfl, rfl, rfl, by decide +kernel, rfl, by decide +kernel, by decide +kernel⟩
theorem sc_are_arrows : FnScope ["thing", "points", "arrow"] ["thing", "points"] (defScope s_are_arrows) := ⟨rfl, rfl, rfl, by decide +kernel, rfl, by decide +kernel, by decide +kernel⟩
theorem sc_reached : FnScope ["pairs", "start", "steps", "one", "other", "found", "todo", "goal"] ["pairs", "start"] (defScope s_reached) := ⟨rfl, rfl, rfl, by decide +kernel, rfl, by decide +kernel, by decide +kernel⟩
theorem sc_hangs : FnScope ["points", "arrows", "forth", "back", "one", "letter", "other"] ["points", "arrows"] (defScope s_hangs) := ⟨rfl, rfl, rfl, by decide +kernel, rfl, by decide +kernel, by decide +kernel⟩
theorem sc_Web_init : FnScope ["self", "points", "arrows"] ["self", "points", "arrows"] (defScope s_Web_init) := ⟨rfl, rfl, rfl, by decide +kernel, rfl, by decide +kernel, by decide +kernel⟩
theorem sc_Web_keep : FnScope ["self", "points", "arrows", "steps", "one", "letter", "other", "key"] ["self", "points", "arrows"] (defScope s_Web_keep) := ⟨rfl, rfl, rfl, by decide +kernel, rfl, by decide +kernel, by decide +kernel⟩
theorem sc_Web_eq : FnScope ["self", "other"] ["self", "other"] (defScope s_Web_eq) := ⟨rfl, rfl, rfl, by decide +kernel, rfl, by decide +kernel, by decide +kernel⟩
theorem sc_all_points : FnScope ["web"] ["web"] (defScope s_all_points) := ⟨rfl, rfl, rfl, by decide +kernel, rfl, by decide +kernel, by decide +kernel⟩
theorem sc_stepped : FnScope ["web", "points", "letter", "found", "point", "goal"] ["web", "points", "letter"] (defScope s_stepped) := ⟨rfl, rfl, rfl, by decide +kernel, rfl, by decide +kernel, by decide +kernel⟩
theorem sc_ends_from : FnScope ["web", "points", "text", "letter"] ["web", "points", "text"] (defScope s_ends_from) := ⟨rfl, rfl, rfl, by decide +kernel, rfl, by decide +kernel, by decide +kernel⟩
theorem sc_ends_of : FnScope ["web", "text"] ["web", "text"] (defScope s_ends_of) := ⟨rfl, rfl, rfl, by decide +kernel, rfl, by decide +kernel, by decide +kernel⟩
theorem sc_stretch_there : FnScope ["web", "text"] ["web", "text"] (defScope s_stretch_there) := ⟨rfl, rfl, rfl, by decide +kernel, rfl, by decide +kernel, by decide +kernel⟩
theorem sc_beginnings : FnScope ["texts", "found", "text", "size"] ["texts"] (defScope s_beginnings) := ⟨rfl, rfl, rfl, by decide +kernel, rfl, by decide +kernel, by decide +kernel⟩
theorem sc_endings : FnScope ["texts", "found", "text", "size"] ["texts"] (defScope s_endings) := ⟨rfl, rfl, rfl, by decide +kernel, rfl, by decide +kernel, by decide +kernel⟩
theorem sc_clash_of : FnScope ["texts", "known", "found", "text", "size", "part"] ["texts"] (defScope s_clash_of) := ⟨rfl, rfl, rfl, by decide +kernel, rfl, by decide +kernel, by decide +kernel⟩
theorem sc_are_words : FnScope ["thing", "word"] ["thing"] (defScope s_are_words) := ⟨rfl, rfl, rfl, by decide +kernel, rfl, by decide +kernel, by decide +kernel⟩
theorem sc_Book_init : FnScope ["self", "web", "words", "word"] ["self", "web", "words"] (defScope s_Book_init) := ⟨rfl, rfl, rfl, by decide +kernel, rfl, by decide +kernel, by decide +kernel⟩
theorem sc_Book_keep : FnScope ["self", "web", "words", "number", "word"] ["self", "web", "words"] (defScope s_Book_keep) := ⟨rfl, rfl, rfl, by decide +kernel, rfl, by decide +kernel, by decide +kernel⟩
theorem sc_Book_eq : FnScope ["self", "other"] ["self", "other"] (defScope s_Book_eq) := ⟨rfl, rfl, rfl, by decide +kernel, rfl, by decide +kernel, by decide +kernel⟩
theorem sc_levels_of : FnScope ["web", "length", "found", "turn", "later", "points", "letter", "goals"] ["web", "length"] (defScope s_levels_of) := ⟨rfl, rfl, rfl, by decide +kernel, rfl, by decide +kernel, by decide +kernel⟩
theorem sc_many_of : FnScope ["web", "length"] ["web", "length"] (defScope s_many_of) := ⟨rfl, rfl, rfl, by decide +kernel, rfl, by decide +kernel, by decide +kernel⟩
theorem sc_many_stretches : FnScope ["web", "length"] ["web", "length"] (defScope s_many_stretches) := ⟨rfl, rfl, rfl, by decide +kernel, rfl, by decide +kernel, by decide +kernel⟩
theorem sc_state_behind : FnScope ["book", "state", "letter", "text", "ended", "at"] ["book", "state", "letter"] (defScope s_state_behind) := ⟨rfl, rfl, rfl, by decide +kernel, rfl, by decide +kernel, by decide +kernel⟩
theorem sc_ways_counts : FnScope ["book", "length", "level", "turn", "later", "points", "state", "many", "letter", "goals", "there", "ended", "key", "found"] ["book", "length"] (defScope s_ways_counts) := ⟨rfl, rfl, rfl, by decide +kernel, rfl, by decide +kernel, by decide +kernel⟩
theorem sc_l_hand : FnScope ["_law_script", "_law_cells", "_law_cell"] ["_law_script"] (defScope s_l_hand) := ⟨rfl, rfl, rfl, by decide +kernel, rfl, by decide +kernel, by decide +kernel⟩
theorem sc_l_draw : FnScope ["_law_hand_here", "_law_many", "_law_cell", "_law_digit", "_law_number"] ["_law_hand_here", "_law_many"] (defScope s_l_draw) := ⟨rfl, rfl, rfl, by decide +kernel, rfl, by decide +kernel, by decide +kernel⟩
theorem sc_l_is : FnScope ["_law_told", "_law_due", "_law_one", "_law_two"] ["_law_told", "_law_due"] (defScope s_l_is) := ⟨rfl, rfl, rfl, by decide +kernel, rfl, by decide +kernel, by decide +kernel⟩
theorem sc_l_some : FnScope ["_law_hand_here", "_law_things"] ["_law_hand_here", "_law_things"] (defScope s_l_some) := ⟨rfl, rfl, rfl, by decide +kernel, rfl, by decide +kernel, by decide +kernel⟩
theorem sc_l_web : FnScope ["_law_hand_here", "_law_most", "_law_points", "_law_signs_here", "_law_found", "_law_point", "_law_turn", "_law_sign"] ["_law_hand_here", "_law_most"] (defScope s_l_web) := ⟨rfl, rfl, rfl, by decide +kernel, rfl, by decide +kernel, by decide +kernel⟩
theorem sc_l_ends : FnScope ["_law_parts", "_law_text", "_law_points", "_law_sign", "_law_goal", "_law_one"] ["_law_parts", "_law_text"] (defScope s_l_ends) := ⟨rfl, rfl, rfl, by decide +kernel, rfl, by decide +kernel, by decide +kernel⟩
theorem sc_l_signs : FnScope ["_law_parts", "_law_sign", "_law_arrow"] ["_law_parts"] (defScope s_l_signs) := ⟨rfl, rfl, rfl, by decide +kernel, rfl, by decide +kernel, by decide +kernel⟩
theorem sc_l_longer : FnScope ["_law_parts", "_law_texts", "_law_found", "_law_text", "_law_sign"] ["_law_parts", "_law_texts"] (defScope s_l_longer) := ⟨rfl, rfl, rfl, by decide +kernel, rfl, by decide +kernel, by decide +kernel⟩
theorem sc_l_stretches : FnScope ["_law_parts", "_law_length", "_law_found", "_law_turn"] ["_law_parts", "_law_length"] (defScope s_l_stretches) := ⟨rfl, rfl, rfl, by decide +kernel, rfl, by decide +kernel, by decide +kernel⟩
theorem sc_l_clashing : FnScope ["_law_one", "_law_other", "_law_short", "_law_long"] ["_law_one", "_law_other"] (defScope s_l_clashing) := ⟨rfl, rfl, rfl, by decide +kernel, rfl, by decide +kernel, by decide +kernel⟩
theorem sc_l_fits : FnScope ["_law_words_here", "_law_text", "_law_word"] ["_law_words_here", "_law_text"] (defScope s_l_fits) := ⟨rfl, rfl, rfl, by decide +kernel, rfl, by decide +kernel, by decide +kernel⟩
theorem sc_l_comings : FnScope ["_law_words_here", "_law_text", "_law_found", "_law_begin", "_law_end"] ["_law_words_here", "_law_text"] (defScope s_l_comings) := ⟨rfl, rfl, rfl, by decide +kernel, rfl, by decide +kernel, by decide +kernel⟩
theorem sc_l_count : FnScope ["_law_words_here", "_law_text"] ["_law_words_here", "_law_text"] (defScope s_l_count) := ⟨rfl, rfl, rfl, by decide +kernel, rfl, by decide +kernel, by decide +kernel⟩
theorem sc_l_made : FnScope ["_law_parts", "_law_lot_here", "_law_number", "_law_found", "_law_texts", "_law_length", "_law_few", "_law_text", "_law_word", "_law_more", "_law_last"] ["_law_parts", "_law_lot_here", "_law_number"] (defScope s_l_made) := ⟨rfl, rfl, rfl, by decide +kernel, rfl, by decide +kernel, by decide +kernel⟩
theorem sc_l_is_last : FnScope ["_law_lot_here", "_law_number", "_law_text", "_law_more"] ["_law_lot_here", "_law_number", "_law_text"] (defScope s_l_is_last) := ⟨rfl, rfl, rfl, by decide +kernel, rfl, by decide +kernel, by decide +kernel⟩
theorem sc_l_lot : FnScope ["_law_hand_here", "_law_parts", "_law_number", "_law_found", "_law_turn", "_law_text"] ["_law_hand_here", "_law_parts", "_law_number"] (defScope s_l_lot) := ⟨rfl, rfl, rfl, by decide +kernel, rfl, by decide +kernel, by decide +kernel⟩
theorem sc_l_full : FnScope ["_law_hand_here", "_law_parts", "_law_number", "_law_lot_here", "_law_found", "_law_text"] ["_law_hand_here", "_law_parts"] (defScope s_l_full) := ⟨rfl, rfl, rfl, by decide +kernel, rfl, by decide +kernel, by decide +kernel⟩
theorem sc_l_words : FnScope ["_law_hand_here", "_law_parts", "_law_kind", "_law_words_here", "_law_found", "_law_turn", "_law_text", "_law_word"] ["_law_hand_here", "_law_parts"] (defScope s_l_words) := ⟨rfl, rfl, rfl, by decide +kernel, rfl, by decide +kernel, by decide +kernel⟩
theorem sc_law : FnScope ["_law_script", "_law_hand_here", "_law_parts", "_law_web_here", "_law_turn", "_law_words_here", "_law_book", "_law_length", "_law_due", "_law_text", "_law_many", "_law_told", "_law_far", "_law_made_here", "_law_size", "_law_word"] ["_law_script"] (defScope s_law) := ⟨rfl, rfl, rfl, by decide +kernel, rfl, by decide +kernel, by decide +kernel⟩
/-- what the walk asks of the top as it is written -/
structure Txt (K : PySem.W.Frag) (mg : Str → Option Value) (CW CB : Addr) : Prop where
  b_abs : mg "abs" = none
  b_all : mg "all" = none
  b_any : mg "any" = none
  b_bool : mg "bool" = none
  b_dict : mg "dict" = none
  b_enumerate : mg "enumerate" = none
  b_int : mg "int" = none
  b_isinstance : mg "isinstance" = none
  b_len : mg "len" = none
  b_list : mg "list" = none
  b_max : mg "max" = none
  b_min : mg "min" = none
  b_range : mg "range" = none
  b_sorted : mg "sorted" = none
  b_str : mg "str" = none
  b_sum : mg "sum" = none
  b_tuple : mg "tuple" = none
  b_zip : mg "zip" = none
  g_LETTERS : ∃ t, mg "LETTERS" = some (.str (S AZ) t)
  g_MOST_POINTS : ∃ t, mg "MOST_POINTS" = some (.int (12) t)
  g_MOST_ARROWS : ∃ t, mg "MOST_ARROWS" = some (.int (60) t)
  g_MOST_WORDS : ∃ t, mg "MOST_WORDS" = some (.int (400) t)
  g_MOST_LETTERS : ∃ t, mg "MOST_LETTERS" = some (.int (60) t)
  g_MOST_LENGTH_stretches : ∃ t, mg "MOST_LENGTH_stretches" = some (.int (200) t)
  g_MOST_LENGTH_thin : ∃ t, mg "MOST_LENGTH_thin" = some (.int (60) t)
  g_Web : mg "Web" = some (.ref CW)
  cl_Web : Cls K CW
  g_Book : mg "Book" = some (.ref CB)
  cl_Book : Cls K CB
  n_Web_points : NoAttr K CW "points"
  n_Web_arrows : NoAttr K CW "arrows"
  n_Web_kept_letters : NoAttr K CW "kept_letters"
  n_Web_kept_steps : NoAttr K CW "kept_steps"
  n_Book_web : NoAttr K CB "web"
  n_Book_words : NoAttr K CB "words"
  n_Book_kept_words : NoAttr K CB "kept_words"
  n_Book_kept_begins : NoAttr K CB "kept_begins"
  n_Book_kept_ends : NoAttr K CB "kept_ends"
  n_Book_kept_longest : NoAttr K CB "kept_longest"
  n_Book_kept_ways : NoAttr K CB "kept_ways"
  d_is_integer : Df K mg "is_integer" s_is_integer ["thing"]
  d_is_within : Df K mg "is_within" s_is_within ["thing", "least", "most"]
  d_is_letter : Df K mg "is_letter" s_is_letter ["thing"]
  d_is_text : Df K mg "is_text" s_is_text ["thing"]
  d_is_filled_text : Df K mg "is_filled_text" s_is_filled_text ["thing", "most"]
  d_are_ascending : Df K mg "are_ascending" s_are_ascending ["things"]
  d_check_number : Df K mg "check_number" s_check_number ["thing", "least", "most"]
  d_is_arrow : Df K mg "is_arrow" s_is_arrow ["thing", "points"]
  d_are_arrows : Df K mg "are_arrows" s_are_arrows ["thing", "points"]
  d_reached : Df K mg "reached" s_reached ["pairs", "start"]
  d_hangs : Df K mg "hangs" s_hangs ["points", "arrows"]
  d_Web_init : DfC K CW "Web.__init__" s_Web_init ["self", "points", "arrows"]
  d_Web_keep : DfM K CW "keep" "Web.keep" s_Web_keep ["self", "points", "arrows"]
  d_all_points : Df K mg "all_points" s_all_points ["web"]
  d_stepped : Df K mg "stepped" s_stepped ["web", "points", "letter"]
  d_ends_from : Df K mg "ends_from" s_ends_from ["web", "points", "text"]
  d_ends_of : Df K mg "ends_of" s_ends_of ["web", "text"]
  d_stretch_there : Df K mg "stretch_there" s_stretch_there ["web", "text"]
  d_beginnings : Df K mg "beginnings" s_beginnings ["texts"]
  d_endings : Df K mg "endings" s_endings ["texts"]
  d_clash_of : Df K mg "clash_of" s_clash_of ["texts"]
  d_are_words : Df K mg "are_words" s_are_words ["thing"]
  d_Book_init : DfC K CB "Book.__init__" s_Book_init ["self", "web", "words"]
  d_Book_keep : DfM K CB "keep" "Book.keep" s_Book_keep ["self", "web", "words"]
  d_levels_of : Df K mg "levels_of" s_levels_of ["web", "length"]
  d_many_of : Df K mg "many_of" s_many_of ["web", "length"]
  d_many_stretches : Df K mg "many_stretches" s_many_stretches ["web", "length"]
  d_state_behind : Df K mg "state_behind" s_state_behind ["book", "state", "letter"]
  d_ways_counts : Df K mg "ways_counts" s_ways_counts ["book", "length"]
  d_l_hand : Df K mg "_law_hand" s_l_hand ["_law_script"]
  d_l_draw : Df K mg "_law_draw" s_l_draw ["_law_hand_here", "_law_many"]
  d_l_is : Df K mg "_law_is" s_l_is ["_law_told", "_law_due"]
  d_l_some : Df K mg "_law_some" s_l_some ["_law_hand_here", "_law_things"]
  d_l_web : Df K mg "_law_web" s_l_web ["_law_hand_here", "_law_most"]
  d_l_ends : Df K mg "_law_ends" s_l_ends ["_law_parts", "_law_text"]
  d_l_signs : Df K mg "_law_signs" s_l_signs ["_law_parts"]
  d_l_longer : Df K mg "_law_longer" s_l_longer ["_law_parts", "_law_texts"]
  d_l_stretches : Df K mg "_law_stretches" s_l_stretches ["_law_parts", "_law_length"]
  d_l_clashing : Df K mg "_law_clashing" s_l_clashing ["_law_one", "_law_other"]
  d_l_fits : Df K mg "_law_fits" s_l_fits ["_law_words_here", "_law_text"]
  d_l_comings : Df K mg "_law_comings" s_l_comings ["_law_words_here", "_law_text"]
  d_l_count : Df K mg "_law_count" s_l_count ["_law_words_here", "_law_text"]
  d_l_made : Df K mg "_law_made" s_l_made ["_law_parts", "_law_lot_here", "_law_number"]
  d_l_is_last : Df K mg "_law_is_last" s_l_is_last ["_law_lot_here", "_law_number", "_law_text"]
  d_l_lot : Df K mg "_law_lot" s_l_lot ["_law_hand_here", "_law_parts", "_law_number"]
  d_l_full : Df K mg "_law_full" s_l_full ["_law_hand_here", "_law_parts"]
  d_l_words : Df K mg "_law_words" s_l_words ["_law_hand_here", "_law_parts"]
  d_law : Df K mg "law" s_law ["_law_script"]
end Nj
set_option Elab.async false
set_option linter.all false
set_option maxRecDepth 100000
set_option maxHeartbeats 4000000
/-! Checks. -/
namespace Nj
open PySem PySem.Spec PyProof.Rows L2
theorem made_bl (n : Nat) (f : Nat → Bool) : made n (fun _ => true) (fun i => V.bl (f i)) = ((List.range n).map f).map V.bl := by
  unfold made
  rw [List.filter_eq_self.mpr fun _ _ => rfl, List.map_map]
  rfl
theorem le_line {n : Nat} (h : n ≤ 100000) : n ≤ sizeLine := by rw [sizeLine_eq]; omega
theorem lt_line {n : Nat} (h : n ≤ 100000) : n < sizeLine := by rw [sizeLine_eq]; omega
section
variable {P : Program} {w : World} {K : PySem.W.Frag} {mg : Str → Option Value} {base : Heap} {CW CB : Addr}
theorem kII : PySem.W.kitOne K (.type "int") (.type "int") = some true := kit_ty (by decide +kernel)
theorem kIB : PySem.W.kitOne K (.type "int") (.type "bool") = some false := kit_ty (by decide +kernel)
theorem kSS : PySem.W.kitOne K (.type "str") (.type "str") = some true := kit_ty (by decide +kernel)
theorem kTT : PySem.W.kitOne K (.type "tuple") (.type "tuple") = some true := kit_ty (by decide +kernel)
theorem kDD : PySem.W.kitOne K (.type "dict") (.type "dict") = some true := kit_ty (by decide +kernel)
theorem kLB : PySem.W.kitOne K (.type "list") (.type "bool") = some false := kit_ty (by decide +kernel)
theorem kTB : PySem.W.kitOne K (.type "tuple") (.type "bool") = some false := kit_ty (by decide +kernel)
theorem kLT : PySem.W.kitOne K (.type "list") (.type "tuple") = some false := kit_ty (by decide +kernel)

def spIsInt : Sp := fun vs H Q _ => ∃ i : Int, vs = [.int i] ∧ Q (.bl true) H
theorem ok_is_integer (T : Txt K mg CW CB) : Ok P w K mg base "is_integer" 1 ["thing"] spIsInt := by
  refine T.d_is_integer.ok sc_is_integer (fun vs H Q E h => ?_) (fun f cdv A outer s H vs Q E hr h => ?_)
  · obtain ⟨i, rfl, _⟩ := h
    rfl
  · obtain ⟨i, rfl, q⟩ := h
    refine ⟨_, (pss_one (ps_ret (pe_and (pe_callB (crIsi K) (by rfl) T.b_isinstance B_isinstance (pa_cons (pv 0) (pa_cons (pe_bltn (v := .ty "int") (by rfl) T.b_int B_int rfl) pa_nil))) (pe_one (pe_not (pe_callB (crIsi K) (by rfl) T.b_isinstance B_isinstance (pa_cons (pv 0) (pa_cons (pe_bltn (v := .ty "bool") (by rfl) T.b_bool B_bool rfl) pa_nil)))))))), ?_⟩
    refine ⟨_, rfl, .int i, .ty "int", _, _, true, rfl, .ty _, .base (.int i), kII, true, rfl, iteT ?_⟩
    exact ⟨_, rfl, .int i, .ty "bool", _, _, false, rfl, .ty _, .base (.int i), kIB, false, rfl, q⟩
def spIsWithin : Sp := fun vs H Q _ => ∃ i a b : Int, vs = [.int i, .int a, .int b] ∧ a ≤ i ∧ i ≤ b ∧ Q (.bl true) H
theorem ok_is_within (T : Txt K mg CW CB) : Ok P w K mg base "is_within" 2 ["thing", "least", "most"] spIsWithin := by
  have G_is_integer := ok_is_integer (P := P) (w := w) (base := base) T
  refine T.d_is_within.ok sc_is_within (fun vs H Q E h => ?_) (fun f cdv A outer s H vs Q E hr h => ?_)
  · obtain ⟨i, a, b, rfl, _⟩ := h
    rfl
  · obtain ⟨i, a, b, rfl, h1, h2, q⟩ := h
    refine ⟨_, (pss_one (ps_ret (pe_and (pk G_is_integer hr (by decide) (by rfl) (pa_cons (pv 0) pa_nil)) (pe_one (pe_chain op_le op_le (pv 1) (pv 0) (pv 2)))))), ?_⟩
    refine ⟨_, rfl, i, rfl, true, rfl, iteT ?_⟩
    refine ⟨_, rfl, _, rfl, a, i, rfl, rfl, true, ?_, iteT ?_⟩
    · show V.bl (decide (a ≤ i)) = .bl true
      rw [decide_eq_true h1]
    · refine ⟨_, rfl, i, b, rfl, rfl, ?_⟩
      show Q (.bl (decide (i ≤ b))) _
      rw [decide_eq_true h2]
      exact q
def spIsLetter : Sp := fun vs H Q _ => ∃ c : Nat, vs = [.str (S [c])] ∧ c ∈ AZ ∧ Q (.bl true) H
theorem ok_is_letter (T : Txt K mg CW CB) : Ok P w K mg base "is_letter" 1 ["thing"] spIsLetter := by
  refine T.d_is_letter.ok sc_is_letter (fun vs H Q E h => ?_) (fun f cdv A outer s H vs Q E hr h => ?_)
  · obtain ⟨c, rfl, _⟩ := h
    rfl
  · obtain ⟨c, rfl, hc, q⟩ := h
    refine ⟨_, (pss_one (ps_ret (pe_and (pe_callB (crIsi K) (by rfl) T.b_isinstance B_isinstance (pa_cons (pv 0) (pa_cons (pe_bltn (v := .ty "str") (by rfl) T.b_str B_str rfl) pa_nil))) (pe_and (pe_cmpR op_eq (pe_callB call_len_str (by rfl) T.b_len B_len (pa_cons (pv 0) pa_nil)) pe_int (nomark _)) (pe_one (pe_cmpR op_in_sign (pv 0) (pgs (by rfl) T.g_LETTERS) (by rfl))))))), ?_⟩
    refine ⟨_, rfl, .str (S [c]), .ty "str", _, _, true, rfl, .ty _, .base (.str _), kSS, true, rfl, iteT ?_⟩
    refine ⟨_, rfl, S [c], rfl, by rw [S_len]; exact le_line (by simp), rfl, true, ?_, iteT ?_⟩
    · rw [S_len]
      rfl
    · refine ⟨_, rfl, c, S AZ, rfl, rfl, ?_⟩
      rw [S_list, decide_eq_true hc]
      exact q
def spIsText : Sp := fun vs H Q _ => ∃ t : Tx, vs = [.str (S t)] ∧ (∀ c ∈ t, c ∈ AZ) ∧ t.length ≤ 100000 ∧ ∀ H', Same H H' → Q (.bl true) H'
theorem ok_is_text (T : Txt K mg CW CB) : Ok P w K mg base "is_text" 1 ["thing"] spIsText := by
  refine T.d_is_text.ok sc_is_text (fun vs H Q E h => ?_) (fun f cdv A outer s H vs Q E hr h => ?_)
  · obtain ⟨t, rfl, _⟩ := h
    rfl
  · obtain ⟨t, rfl, hc, hl, q⟩ := h
    refine ⟨_, (pss_one (ps_ret (pe_and (pe_callB (crIsi K) (by rfl) T.b_isinstance B_isinstance (pa_cons (pv 0) (pa_cons (pe_bltn (v := .ty "str") (by rfl) T.b_str B_str rfl) pa_nil))) (pe_one (pe_callB (crAll K rfl) (by rfl) T.b_all B_all (pa_cons (pe_lc (own := [("sign", 1)]) rfl sc_is_text.nd (pi_str (pv 0)) (blkOk_by (N := ["thing", "sign"]) (sc := defScope s_is_text) (by decide +kernel)) (fun _ _ _ _ _ => (pg_name (i := 1) sc_is_text.nd rfl (.inl rfl))) (fun _ _ _ _ _ => pts_nil) (fun _ _ _ _ _ => (pe_cmpR op_in_sign (pv 1) (pgs (by rfl) T.g_LETTERS) (by rfl)))) pa_nil)))))), ?_⟩
    refine ⟨_, rfl, .str (S t), .ty "str", _, _, true, rfl, .ty _, .base (.str _), kSS, true, rfl, iteT ?_⟩
    refine ⟨_, rfl, S t, rfl, fun D nD => lc_pure src_str (fun _ => true) (fun _ => .bl true) nD hl (fun _ _ => trivial) ?_ ?_⟩
    · rintro i x H2 H' hi sm ⟨rfl, c, hci, rfl⟩ Qy Qn h1 _
      refine ⟨rfl, yes_go ?_⟩
      refine ⟨_, rfl, c, S AZ, rfl, rfl, ?_⟩
      rw [S_list, decide_eq_true (hc c (List.mem_of_getElem? hci))]
      exact h1 rfl _ (Same.refl _)
    · intro H2 sm hD
      rw [made_bl _ fun _ => true] at hD
      refine ⟨D, _, rfl, .inl (.inl hD), ?_⟩
      have : ((List.range t.length).map fun _ => true).all id = true := by simp
      rw [this]
      exact q H2 sm

def spFilled : Sp := fun vs H Q _ => ∃ (t : Tx) (m : Nat), vs = [.str (S t), .int m] ∧ (∀ c ∈ t, c ∈ AZ) ∧ 1 ≤ t.length ∧ t.length ≤ m ∧ m ≤ 100000 ∧ ∀ H', Same H H' → Q (.bl true) H'
theorem ok_is_filled_text (T : Txt K mg CW CB) : Ok P w K mg base "is_filled_text" 2 ["thing", "most"] spFilled := by
  have G_is_text := ok_is_text (P := P) (w := w) (base := base) T
  refine T.d_is_filled_text.ok sc_is_filled_text (fun vs H Q E h => ?_) (fun f cdv A outer s H vs Q E hr h => ?_)
  · obtain ⟨t, m, rfl, _⟩ := h
    rfl
  · obtain ⟨t, m, rfl, hc, h1, h2, h3, q⟩ := h
    refine ⟨_, (pss_one (ps_ret (pe_and (pk G_is_text hr (by decide) (by rfl) (pa_cons (pv 0) pa_nil)) (pe_one (pe_chain op_le op_le pe_int (pe_callB call_len_str (by rfl) T.b_len B_len (pa_cons (pv 0) pa_nil)) (pv 1)))))), ?_⟩
    refine ⟨_, rfl, t, rfl, hc, by omega, fun H2 s2 => ⟨true, rfl, iteT ?_⟩⟩
    refine ⟨_, rfl, S t, rfl, by rw [S_len]; exact le_line (by omega), 1, t.length, rfl, by rw [S_len], true, ?_, iteT ?_⟩
    · show V.bl (decide ((1 : Int) ≤ t.length)) = .bl true
      rw [decide_eq_true (by omega)]
    · refine ⟨_, rfl, t.length, m, by rw [S_len], rfl, ?_⟩
      show Q (.bl (decide ((t.length : Int) ≤ m))) _
      rw [decide_eq_true (by omega)]
      exact q H2 s2
def spCheckNum : Sp := fun vs H Q _ => ∃ i a b : Int, vs = [.int i, .int a, .int b] ∧ a ≤ i ∧ i ≤ b ∧ Q .non H
theorem ok_check_number (T : Txt K mg CW CB) : Ok P w K mg base "check_number" 3 ["thing", "least", "most"] spCheckNum := by
  have G_is_within := ok_is_within (P := P) (w := w) (base := base) T
  refine T.d_check_number.ok sc_check_number (fun vs H Q E h => ?_) (fun f cdv A outer s H vs Q E hr h => ?_)
  · obtain ⟨i, a, b, rfl, _⟩ := h
    rfl
  · obtain ⟨i, a, b, rfl, h1, h2, q⟩ := h
    refine ⟨_, (pss_one (ps_if (pt_not (pt_val (pk G_is_within hr (by decide) (by rfl) (pa_cons (pv 0) (pa_cons (pv 1) (pa_cons (pv 2) pa_nil))))))
        (pss_one ps_never)
        pss_nil)), ?_⟩
    exact ⟨_, rfl, _, rfl, _, rfl, i, a, b, rfl, h1, h2, true, rfl, iteF q⟩
mutual
theorem Dp.same {K : PySem.W.Frag} {H H' : Hp} (e : Same H H') : ∀ (d : PyData) (v : V), Dp K H v d → Dp K H' v d
  | .none, _, h => by cases h; exact .non
  | .bool b, _, h => by cases h; exact .bl b
  | .int i, _, h => by cases h; exact .int i
  | .str x, _, h => by cases h; exact .str x
  | .list ds, _, h => by cases h with | lst hs ha => exact .lst (e.seq hs) (Dp.sameAll e ds _ ha)
  | .tuple ds, _, h => by cases h with | tup hs ha => exact .tup (Same.tup e hs) (Dp.sameAll e ds _ ha)
  | .dict _, _, h => by cases h
theorem Dp.sameAll {K : PySem.W.Frag} {H H' : Hp} (e : Same H H') : ∀ (ds : List PyData) (vs : List V), DpAll K H vs ds → DpAll K H' vs ds
  | [], _, h => by cases h; exact .nil
  | d :: ds, _, h => by cases h with | cons h1 h2 => exact .cons (Dp.same e d _ h1) (Dp.sameAll e ds _ h2)
end
def spAsc (K : PySem.W.Frag) : Sp := fun vs H Q _ => ∃ (a : Addr) (xs : List (V × PyData)), vs = [.ref a] ∧ SqT K H a (xs.map (·.1)) ∧ (∀ x ∈ xs, Dp K H x.1 x.2 ∧ x.2 ≠ .none ∧ x.2.depth ≤ 60) ∧ PySem.W.AllAlike (xs.map (·.2)) ∧
  (∀ i x y, xs[i]? = some x → xs[i + 1]? = some y → PySem.W.dataLt x.2 y.2 = true) ∧ xs.length ≤ 100000 ∧ ∀ H', Same H H' → Q (.bl true) H'
theorem ok_are_ascending (T : Txt K mg CW CB) : Ok P w K mg base "are_ascending" 1 ["things"] (spAsc K) := by
  refine T.d_are_ascending.ok sc_are_ascending (fun vs H Q E h => ?_) (fun f cdv A outer s H vs Q E hr h => ?_)
  · obtain ⟨a, xs, rfl, _⟩ := h
    rfl
  · obtain ⟨a, xs, rfl, hS, hx, hal, hlt, hl, q⟩ := h
    have hu2 : (A.deeper (envOfC "are_ascending" (defScope s_are_ascending) s.heap.objs.size f cdv)).units + 64 < cLine := by have := hr.un; omega
    refine ⟨_, (pss_one (ps_ret (pe_callB (crAll K rfl) (by rfl) T.b_all B_all (pa_cons (pe_lc (own := [("at", 1)]) rfl sc_are_ascending.nd (pi_range2 (by rfl) T.b_range (pa_cons pe_int (pa_cons (pe_callB (crLen K) (by rfl) T.b_len B_len (pa_cons (pv 0) pa_nil)) pa_nil))) (blkOk_by (N := ["things", "at"]) (sc := defScope s_are_ascending) (by decide +kernel)) (fun _ _ _ _ _ => (pg_name (i := 1) sc_are_ascending.nd rfl (.inl rfl))) (fun _ _ _ _ _ => pts_nil) (fun _ _ _ _ _ => (pe_cmpR (ltD K hu2) (pe_ix (ixT K) (pv 0) (pe_op op_sub (pv 1) pe_int) (fun _ _ => rfl)) (pe_ix (ixT K) (pv 0) (pv 1) (fun _ _ => rfl)) (nomark _)))) pa_nil)))), ?_⟩
    refine ⟨_, rfl, a, xs.map (·.1), rfl, .inr hS, 1, (xs.map (·.1)).length, rfl, ⟨by omega, by omega, by omega, by rw [List.length_map]; omega⟩, fun D nD => ?_⟩
    have hn : (((xs.map (·.1)).length : Int) - 1).toNat = xs.length - 1 := by rw [List.length_map]; omega
    rw [hn]
    refine lc_pure src_rng (fun _ => true) (fun _ => .bl true) nD (by omega) (fun _ _ => trivial) ?_ ?_
    · rintro i x H2 H' hi sm ⟨rfl, rfl⟩ Qy Qn h1 _
      refine ⟨rfl, yes_go ?_⟩
      have g1 : xs[i]? = some xs[i] := List.getElem?_eq_getElem (by omega)
      have g2 : xs[i + 1]? = some xs[i + 1] := List.getElem?_eq_getElem (by omega)
      have i1 : i < xs.length := by omega
      have i2 : i + 1 < xs.length := by omega
      obtain ⟨d1, d2, d3⟩ := hx xs[i] (List.getElem_mem i1)
      obtain ⟨d4, _, _⟩ := hx xs[i + 1] (List.getElem_mem i2)
      have hS2 := Same.tup (K := K) sm hS
      refine ⟨_, rfl, _, rfl, _, _, rfl, rfl, a, _, _, xs[i].1, rfl, rfl, hS2, ?_, _, rfl, _, rfl, a, _, _, xs[i + 1].1, rfl, rfl, hS2, ?_, xs[i].2, xs[i + 1].2, Dp.same sm _ _ d1, Dp.same sm _ _ d4, ?_, d2, d3, ?_⟩
      · rw [show (1 + (i : Int) - 1) = ((i : Nat) : Int) by omega]
        exact atI_nat (by rw [List.getElem?_map, g1]; rfl)
      · rw [show (1 + (i : Int)) = ((i + 1 : Nat) : Int) by omega]
        exact atI_nat (by rw [List.getElem?_map, g2]; rfl)
      · exact hal _ (List.mem_map.mpr ⟨_, List.getElem_mem i1, rfl⟩) _ (List.mem_map.mpr ⟨_, List.getElem_mem i2, rfl⟩)
      · rw [hlt i _ _ g1 g2]
        exact h1 rfl _ (Same.refl _)
    · intro H2 sm hD
      rw [made_bl _ fun _ => true] at hD
      refine ⟨D, _, rfl, .inl (.inl hD), ?_⟩
      have : ((List.range (xs.length - 1)).map fun _ => true).all id = true := by simp
      rw [this]
      exact q H2 sm
end
end Nj
set_option Elab.async false
set_option linter.all false
set_option maxRecDepth 100000
set_option maxHeartbeats 4000000
/-! Arrows. -/
namespace Nj
open PySem PySem.Spec PyProof.Rows L2
abbrev vI (n : Nat) : V := .int (n : Int)
/-- an arrow's tuple, as values, as data -/
def arV (r : Nat × Nat × Nat) : List V := [vI r.1, .str (S [r.2.1]), vI r.2.2]
def arD (r : Nat × Nat × Nat) : PyData := .tuple [.int r.1, .str (S [r.2.1]), .int r.2.2]
abbrev ArrAt (H : Hp) (as : List Addr) (AR : List (Nat × Nat × Nat)) : Prop := Paired (fun x r => H x = some (.tup (arV r))) as AR
/-- the arrows' tuple stands at a -/
def Arr (H : Hp) (a : Addr) (AR : List (Nat × Nat × Nat)) : Prop := ∃ as : List Addr, H a = some (.tup (as.map .ref)) ∧ ArrAt H as AR
theorem Arr.same {H H' : Hp} {a : Addr} {AR : List (Nat × Nat × Nat)} (e : Same H H') (h : Arr H a AR) : Arr H' a AR := let ⟨as, h1, h2⟩ := h; ⟨as, e _ _ h1, Paired.mapP h2 fun _ _ q => e _ _ q⟩
theorem ArrAt.get {H : Hp} {as : List Addr} {AR : List (Nat × Nat × Nat)} (h : ArrAt H as AR) {i : Nat} {x : V} (hx : (as.map V.ref)[i]? = some x) : ∃ a r, x = .ref a ∧ AR[i]? = some r ∧ H a = some (.tup (arV r)) := by
  rw [List.getElem?_map] at hx
  cases e : as[i]? with
  | none => rw [e] at hx; cases hx
  | some a =>
    rw [e] at hx
    obtain ⟨r, h1, h2⟩ := L2.paired_get h e
    exact ⟨a, r, (Option.some.inj hx).symm, h1, h2⟩
theorem arD_dp {K : PySem.W.Frag} {H : Hp} {x : Addr} {r : Nat × Nat × Nat} (h : H x = some (.tup (arV r))) : Dp K H (.ref x) (arD r) := .tup (SqT.of h) (.cons (.int _) (.cons (.str _) (.cons (.int _) .nil)))
theorem ArrAt.dps {K : PySem.W.Frag} {H : Hp} : ∀ {as : List Addr} {AR : List (Nat × Nat × Nat)}, ArrAt H as AR → DpAll K H (as.map .ref) (AR.map arD)
  | _, _, .nil => .nil
  | _, _, .cons h t => .cons (arD_dp h) (ArrAt.dps t)
theorem Arr.dp {K : PySem.W.Frag} {H : Hp} {a : Addr} {AR : List (Nat × Nat × Nat)} (h : Arr H a AR) : Dp K H (.ref a) (.tuple (AR.map arD)) := let ⟨as, h1, h2⟩ := h; .tup (SqT.of h1) h2.dps
theorem arD_depth (r : Nat × Nat × Nat) : (arD r).depth = 1 := by simp [arD, PyData.depth, PyData.depthAll]
theorem arD_alike (r s : Nat × Nat × Nat) : PySem.W.alike (arD r) (arD s) = true := by simp [arD, PySem.W.alike, PySem.W.alikeAll]
instance (r s : Nat × Nat × Nat) : Decidable (arLt r s) := by unfold arLt; infer_instance
theorem arD_lt (r s : Nat × Nat × Nat) : PySem.W.dataLt (arD r) (arD s) = decide (arLt r s) := by
  obtain ⟨a, b, c⟩ := r
  obtain ⟨a', b', c'⟩ := s
  have e0 : PyProof.Rows.lexLt itemOrd (PySem.W.keyToksAll []) (PySem.W.keyToksAll []) = false := lex_irrefl _
  unfold arD
  rw [PySem.W.dataLt_tuple, PySem.W.dataLt_cons (by simp [PySem.W.alike]), PySem.W.dataLt_cons (by simp [PySem.W.alike]), PySem.W.dataLt_cons (by simp [PySem.W.alike]), e0, PySem.W.dataLt_int, PySem.W.dataLt_int, PySem.W.dataLt_str, S_list, S_list]
  have es : PyData.eqv (.str (S [b])) (.str (S [b'])) = decide (b = b') := by
    simp only [PyData.eqv]
    by_cases e : b = b'
    · subst e; simp
    · have : ¬ S [b] = S [b'] := fun z => e (by simpa using S_inj z)
      simp [e, this]
  have el : decide ([b] < [b']) = decide (b < b') := by
    rw [decide_eq_decide, List.cons_lt_cons_iff]
    simp
  rw [es, el]
  simp only [PyData.eqv]
  by_cases h1 : a = a'
  · subst h1
    by_cases h2 : b = b'
    · subst h2
      by_cases h3 : c = c'
      · subst h3
        simp [arLt]
      · have : ¬ ((c : Int) = (c' : Int)) := by omega
        simp [arLt, this]
    · simp [arLt, h2]
  · have : ¬ ((a : Int) = (a' : Int)) := by omega
    simp [arLt, this, h1]
section
variable {P : Program} {w : World} {K : PySem.W.Frag} {mg : Str → Option Value} {base : Heap} {CW CB : Addr}
def spIsArrow : Sp := fun vs H Q _ => ∃ (x : Addr) (n : Nat) (r : Nat × Nat × Nat), vs = [.ref x, vI n] ∧ H x = some (.tup (arV r)) ∧ r.1 < n ∧ r.2.2 < n ∧ r.2.1 ∈ AZ ∧ Q (.bl true) H
theorem ok_is_arrow (T : Txt K mg CW CB) : Ok P w K mg base "is_arrow" 3 ["thing", "points"] spIsArrow := by
  have G_is_within := ok_is_within (P := P) (w := w) (base := base) T
  have G_is_letter := ok_is_letter (P := P) (w := w) (base := base) T
  refine T.d_is_arrow.ok sc_is_arrow (fun vs H Q E h => ?_) (fun f cdv A outer s H vs Q E hr h => ?_)
  · obtain ⟨x, n, r, rfl, _⟩ := h
    rfl
  · obtain ⟨x, n, r, rfl, hx, h1, h2, h3, q⟩ := h
    refine ⟨_, (pss_cons (ps_if (PW.pt (pw_or (pt_not (pt_val (pe_callB (crIsi K) (by rfl) T.b_isinstance B_isinstance (pa_cons (pv 0) (pa_cons (pe_bltn (v := .ty "tuple") (by rfl) T.b_tuple B_tuple rfl) pa_nil))))) (pw_or1 (pt_cmpR op_ne (pe_callB (crLen K) (by rfl) T.b_len B_len (pa_cons (pv 0) pa_nil)) pe_int (nomark _)))))
        (pss_one (ps_ret pe_bl))
        pss_nil)
      (pss_one (ps_ret (pe_and (pk G_is_within hr (by decide) (by rfl) (pa_cons (pe_ix (ixT K) (pv 0) pe_int (fun _ _ => rfl)) (pa_cons pe_int (pa_cons (pe_op op_sub (pv 1) pe_int) pa_nil)))) (pe_and (pk G_is_letter hr (by decide) (by rfl) (pa_cons (pe_ix (ixT K) (pv 0) pe_int (fun _ _ => rfl)) pa_nil)) (pe_one (pk G_is_within hr (by decide) (by rfl) (pa_cons (pe_ix (ixT K) (pv 0) pe_int (fun _ _ => rfl)) (pa_cons pe_int (pa_cons (pe_op op_sub (pv 1) pe_int) pa_nil)))))))))), ?_⟩
    have hS : SqT K H x (arV r) := SqT.of hx
    refine ⟨_, rfl, .ref x, .ty "tuple", _, _, true, rfl, .ty _, .base (.tup hx), kTT, true, rfl, iteF ?_⟩
    refine ⟨_, rfl, x, _, rfl, .inr hS, rfl, false, rfl, iteF ?_⟩
    refine ⟨_, rfl, x, _, _, vI r.1, rfl, rfl, hS, atI_nat (j := 0) rfl, _, rfl, _, _, rfl, rfl, r.1, 0, (n : Int) - 1, rfl, by omega, by omega, true, rfl, iteT ?_⟩
    refine ⟨_, rfl, x, _, _, .str (S [r.2.1]), rfl, rfl, hS, atI_nat (j := 1) rfl, r.2.1, rfl, h3, true, rfl, iteT ?_⟩
    exact ⟨_, rfl, x, _, _, vI r.2.2, rfl, rfl, hS, atI_nat (j := 2) rfl, _, rfl, _, _, rfl, rfl, r.2.2, 0, (n : Int) - 1, rfl, by omega, by omega, q⟩

theorem AR_small {W : Web} (G : GoodW W) : W.AR.length ≤ 60 := by
  have hn : W.AR.Nodup := G.srt.imp fun {a b} h e => by
    subst e
    unfold arLt at h
    omega
  have h := hn.length_le_of_subset (l₂ := (List.range 4).flatMap fun p => AB.flatMap fun c => (List.range 4).map fun q => (p, c, q)) fun r hr => by
    obtain ⟨h1, h2, h3⟩ := G.ran r hr
    have := G.p4
    exact List.mem_flatMap.mpr ⟨r.1, List.mem_range.mpr (by omega), List.mem_flatMap.mpr ⟨r.2.1, h2, List.mem_map.mpr ⟨r.2.2, List.mem_range.mpr (by omega), rfl⟩⟩⟩
  exact Nat.le_trans h (by decide)
theorem AB_AZ {c : Nat} (h : c ∈ AB) : c ∈ AZ := by
  have : c = 97 ∨ c = 98 ∨ c = 99 := by simpa [AB] using h
  rcases this with rfl | rfl | rfl <;> decide
theorem GoodW.some {W : Web} (G : GoodW W) : 1 ≤ W.AR.length := by
  obtain ⟨c, hc⟩ := G.rnd 0 G.p1
  exact List.length_pos_iff.mpr fun e => by rw [e] at hc; cases hc
def spAreArrows : Sp := fun vs H Q _ => ∃ (a : Addr) (W : Web), vs = [.ref a, vI W.P] ∧ GoodW W ∧ Arr H a W.AR ∧ ∀ H', Same H H' → Q (.bl true) H'
theorem ok_are_arrows (T : Txt K mg CW CB) : Ok P w K mg base "are_arrows" 4 ["thing", "points"] spAreArrows := by
  have G_is_arrow := ok_is_arrow (P := P) (w := w) (base := base) T
  have G_are_ascending := ok_are_ascending (P := P) (w := w) (base := base) T
  refine T.d_are_arrows.ok sc_are_arrows (fun vs H Q E h => ?_) (fun f cdv A outer s H vs Q E hr h => ?_)
  · obtain ⟨a, W, rfl, _⟩ := h
    rfl
  · obtain ⟨a, W, rfl, G, hA, q⟩ := h
    refine ⟨_, (pss_cons (ps_if (PW.pt (pw_or (pt_not (pt_val (pe_callB (crIsi K) (by rfl) T.b_isinstance B_isinstance (pa_cons (pv 0) (pa_cons (pe_bltn (v := .ty "tuple") (by rfl) T.b_tuple B_tuple rfl) pa_nil))))) (pw_or1 (pt_not (pt_chain op_le op_le pe_int (pe_callB (crLen K) (by rfl) T.b_len B_len (pa_cons (pv 0) pa_nil)) (pgi (by rfl) T.g_MOST_ARROWS))))))
        (pss_one (ps_ret pe_bl))
        pss_nil)
      (pss_one (ps_ret (pe_and (pe_callB (crAll K rfl) (by rfl) T.b_all B_all (pa_cons (pe_lc (own := [("arrow", 2)]) rfl sc_are_arrows.nd (piT K (pv 0)) (blkOk_by (N := ["thing", "points", "arrow"]) (sc := defScope s_are_arrows) (by decide +kernel)) (fun _ _ _ _ _ => (pg_name (i := 2) sc_are_arrows.nd rfl (.inl rfl))) (fun _ _ _ _ _ => pts_nil) (fun _ _ _ _ _ => (pk G_is_arrow hr (by decide) (by rfl) (pa_cons (pv 2) (pa_cons (pv 1) pa_nil))))) pa_nil)) (pe_one (pk G_are_ascending hr (by decide) (by rfl) (pa_cons (pv 0) pa_nil))))))), ?_⟩
    obtain ⟨as, ha, hp⟩ := id hA
    have hl : as.length = W.AR.length := Paired.length hp
    have hs := AR_small G
    have h1 := G.some
    have hS : SqT K H a (as.map .ref) := SqT.of ha
    refine ⟨_, rfl, .ref a, .ty "tuple", _, _, true, rfl, .ty _, .base (.tup ha), kTT, true, rfl, iteF ?_⟩
    refine ⟨_, rfl, a, _, rfl, .inr hS, 1, (as.map V.ref).length, rfl, rfl, true, ?_, iteT ?_⟩
    · show V.bl (decide ((1 : Int) ≤ (as.map V.ref).length)) = .bl true
      rw [decide_eq_true (by rw [List.length_map]; omega)]
    refine ⟨(as.map V.ref).length, 60, rfl, rfl, true, ?_, iteF ?_⟩
    · show V.bl (decide (((as.map V.ref).length : Int) ≤ 60)) = .bl true
      rw [decide_eq_true (by rw [List.length_map]; omega)]
    refine ⟨_, rfl, a, rfl, ⟨_, hS⟩, fun D nD => lc_pure src_tup (fun _ => true) (fun _ => .bl true) nD (by rw [List.length_map]; omega) (fun H2 sm => Same.tup sm hS) ?_ ?_⟩
    · rintro i x H2 H' hi sm ⟨rfl, hx⟩ Qy Qn k1 _
      refine ⟨rfl, yes_go ?_⟩
      obtain ⟨b, r, rfl, hr1, hb⟩ := hp.get hx
      obtain ⟨g1, g2, g3⟩ := G.ran r (List.mem_of_getElem? hr1)
      exact ⟨_, rfl, _, rfl, b, W.P, r, rfl, sm _ _ hb, g1, g3, AB_AZ g2, k1 rfl _ (Same.refl _)⟩
    · intro H2 sm hD
      rw [made_bl _ fun _ => true] at hD
      refine ⟨D, _, rfl, .inl (.inl hD), true, ?_, iteT ?_⟩
      · simp
      refine ⟨_, rfl, a, (as.zip W.AR).map fun p => (.ref p.1, arD p.2), rfl, ?_, ?_, ?_, ?_, ?_, fun H3 s3 => q H3 (sm.trans s3)⟩
      · have : ((as.zip W.AR).map fun p => ((.ref p.1 : V), arD p.2)).map (·.1) = as.map V.ref := by
          rw [List.map_map, show ((fun x : V × PyData => x.1) ∘ fun p : Addr × Nat × Nat × Nat => ((.ref p.1 : V), arD p.2)) = V.ref ∘ Prod.fst from rfl, ← List.map_map, List.map_fst_zip (by omega)]
        rw [this]
        exact Same.tup sm hS
      · intro x hx
        obtain ⟨p, hp', rfl⟩ := List.mem_map.mp hx
        obtain ⟨i, hi⟩ := List.mem_iff_getElem?.mp hp'
        obtain ⟨e1, e2⟩ := List.getElem?_zip_eq_some.mp hi
        obtain ⟨r, g1, g2⟩ := L2.paired_get hp e1
        rw [e2] at g1
        refine ⟨arD_dp (sm _ _ (by rw [Option.some.inj g1]; exact g2)), (fun z => nomatch z), by rw [arD_depth]; decide⟩
      · rw [List.map_map]
        exact PySem.W.AllAlike.of fun b b' => arD_alike _ _
      · intro i x y hx hy
        rw [List.getElem?_map] at hx hy
        cases e1 : (as.zip W.AR)[i]? with
        | none => rw [e1] at hx; cases hx
        | some p =>
          cases e2 : (as.zip W.AR)[i + 1]? with
          | none => rw [e2] at hy; cases hy
          | some p2 =>
            rw [e1] at hx
            rw [e2] at hy
            obtain rfl := Option.some.inj hx
            obtain rfl := Option.some.inj hy
            obtain ⟨_, f1⟩ := List.getElem?_zip_eq_some.mp e1
            obtain ⟨_, f2⟩ := List.getElem?_zip_eq_some.mp e2
            show PySem.W.dataLt (arD p.2) (arD p2.2) = true
            rw [arD_lt, decide_eq_true_eq]
            obtain ⟨i1, f1'⟩ := List.getElem?_eq_some_iff.mp f1
            obtain ⟨i2, f2'⟩ := List.getElem?_eq_some_iff.mp f2
            have := List.pairwise_iff_getElem.mp G.srt i (i + 1) i1 i2 (by omega)
            rw [f1', f2'] at this
            exact this
      · rw [List.length_map, List.length_zip]
        omega
end
end Nj
set_option Elab.async false
set_option linter.all false
set_option maxRecDepth 100000
set_option maxHeartbeats 4000000
/-! Dicts of lists; what is reached from a point. -/
namespace Nj
open PySem PySem.Spec PyProof.Rows L2
section
variable {κ : Type} [DecidableEq κ]
/-- lists by keys, made since H0 -/
structure DL (H0 H : Hp) (ls : List (κ × Addr × List Nat)) : Prop where
  sm : Same H0 H
  nd : (ls.map (·.1)).Nodup
  na : (ls.map (·.2.1)).Nodup
  at_ : ∀ e ∈ ls, H e.2.1 = some (.lst (e.2.2.map vI))
  fr : ∀ e ∈ ls, H0 e.2.1 = none
def has (ls : List (κ × Addr × List Nat)) (j : κ) (g : Nat) : Prop := ∃ e ∈ ls, e.1 = j ∧ g ∈ e.2.2
def bump (ls : List (κ × Addr × List Nat)) (k : κ) (g : Nat) : List (κ × Addr × List Nat) := ls.map fun e => if e.1 = k then (e.1, e.2.1, e.2.2 ++ [g]) else e
def rws {ι : Type} (fk : κ → ι) (ls : List (κ × Addr × List Nat)) : List (ι × V) := ls.map fun e => (fk e.1, .ref e.2.1)
variable {H0 H : Hp} {ls : List (κ × Addr × List Nat)} {k : κ} {l b : Addr} {g : Nat}
theorem DL.new (sm : Same H0 H) : DL H0 H ([] : List (κ × Addr × List Nat)) := ⟨sm, List.nodup_nil, List.nodup_nil, fun _ h => by simp at h, fun _ h => by simp at h⟩
theorem DL.put {o : HO} (D : DL H0 H ls) (hb : H0 b = none) (hn : ∀ e ∈ ls, e.2.1 ≠ b) : DL H0 (upd H b o) ls where
  sm := fun c x e => by rw [upd_ne (ne_of_none e hb)]; exact D.sm _ _ e
  nd := D.nd
  na := D.na
  at_ := fun e he => by rw [upd_ne (hn e he)]; exact D.at_ e he
  fr := D.fr
theorem DL.fresh {o : HO} (D : DL H0 H ls) (hb : H b = none) : DL H0 (upd H b o) ls := D.put (D.sm.free hb) fun e he z => by have := D.at_ e he; rw [z, hb] at this; cases this
theorem DL.dict {o o' : HO} (D : DL H0 H ls) (hb : H0 b = none) (h : H b = some o') (ho : ∀ xs, o' ≠ .lst xs) : DL H0 (upd H b o) ls := D.put hb fun e he z => by
  have := D.at_ e he
  rw [z, h] at this
  exact ho _ (Option.some.inj this)
theorem DL.snoc {xs : List Nat} (D : DL H0 H ls) (hk : k ∉ ls.map (·.1)) (hl : H l = some (.lst (xs.map vI))) (h0 : H0 l = none) (hn : ∀ e ∈ ls, e.2.1 ≠ l) : DL H0 H (ls ++ [(k, l, xs)]) where
  sm := D.sm
  nd := by
    rw [List.map_append]
    refine List.nodup_append.mpr ⟨D.nd, by simp, fun x hx y hy e => ?_⟩
    subst e
    have : x = k := by simpa using hy
    subst this
    exact hk hx
  na := by
    rw [List.map_append]
    refine List.nodup_append.mpr ⟨D.na, by simp, fun x hx y hy e => ?_⟩
    subst e
    have : x = l := by simpa using hy
    subst this
    obtain ⟨e, he, z⟩ := List.mem_map.mp hx
    exact hn e he z
  at_ := fun e he => by
    rcases List.mem_append.mp he with he | he
    · exact D.at_ e he
    · have : e = (k, l, xs) := by simpa using he
      subst this; exact hl
  fr := fun e he => by
    rcases List.mem_append.mp he with he | he
    · exact D.fr e he
    · have : e = (k, l, xs) := by simpa using he
      subst this; exact h0
theorem has_snoc {xs : List Nat} {j : κ} {x : Nat} : has (ls ++ [(k, l, xs)]) j x ↔ has ls j x ∨ (j = k ∧ x ∈ xs) := by
  unfold has
  constructor
  · rintro ⟨e, he, h1, h2⟩
    rcases List.mem_append.mp he with he | he
    · exact .inl ⟨e, he, h1, h2⟩
    · have : e = (k, l, xs) := by simpa using he
      subst this; exact .inr ⟨h1.symm, h2⟩
  · rintro (⟨e, he, h1, h2⟩ | ⟨h1, h2⟩)
    · exact ⟨e, by simp [he], h1, h2⟩
    · exact ⟨(k, l, xs), by simp, h1.symm, h2⟩
theorem key_eq {e e' : κ × Addr × List Nat} (nd : (ls.map (·.1)).Nodup) (he : e ∈ ls) (he' : e' ∈ ls) (h : e.1 = e'.1) : e = e' := by
  induction ls with
  | nil => cases he
  | cons p r ih =>
    rw [List.map_cons, List.nodup_cons] at nd
    rcases List.mem_cons.mp he with z | z <;> rcases List.mem_cons.mp he' with y | y
    · rw [z, y]
    · subst z; exact absurd (List.mem_map.mpr ⟨e', y, h.symm⟩) nd.1
    · subst y; exact absurd (List.mem_map.mpr ⟨e, z, h⟩) nd.1
    · exact ih nd.2 z y
theorem addr_eq {e e' : κ × Addr × List Nat} (na : (ls.map (·.2.1)).Nodup) (he : e ∈ ls) (he' : e' ∈ ls) (h : e.2.1 = e'.2.1) : e = e' := by
  induction ls with
  | nil => cases he
  | cons p r ih =>
    rw [List.map_cons, List.nodup_cons] at na
    rcases List.mem_cons.mp he with z | z <;> rcases List.mem_cons.mp he' with y | y
    · rw [z, y]
    · subst z; exact absurd (List.mem_map.mpr ⟨e', y, h.symm⟩) na.1
    · subst y; exact absurd (List.mem_map.mpr ⟨e, z, h⟩) na.1
    · exact ih na.2 z y
theorem DL.old {e : κ × Addr × List Nat} (D : DL H0 H ls) (he : e ∈ ls) (g : Nat) : DL H0 (upd H e.2.1 (.lst (e.2.2.map vI ++ [vI g]))) (bump ls e.1 g) where
  sm := fun c x q => by rw [upd_ne (ne_of_none q (D.fr e he))]; exact D.sm _ _ q
  nd := by
    unfold bump
    rw [List.map_map]
    have : (ls.map ((fun x => x.1) ∘ fun e' => if e'.1 = e.1 then (e'.1, e'.2.1, e'.2.2 ++ [g]) else e')) = ls.map (·.1) := List.map_congr_left fun x _ => by
      show (if x.1 = e.1 then (x.1, x.2.1, x.2.2 ++ [g]) else x).1 = x.1
      by_cases z : x.1 = e.1
      · rw [if_pos z]
      · rw [if_neg z]
    rw [this]; exact D.nd
  na := by
    unfold bump
    rw [List.map_map]
    have : (ls.map ((fun x => x.2.1) ∘ fun e' => if e'.1 = e.1 then (e'.1, e'.2.1, e'.2.2 ++ [g]) else e')) = ls.map (·.2.1) := List.map_congr_left fun x _ => by
      show (if x.1 = e.1 then (x.1, x.2.1, x.2.2 ++ [g]) else x).2.1 = x.2.1
      by_cases z : x.1 = e.1
      · rw [if_pos z]
      · rw [if_neg z]
    rw [this]; exact D.na
  at_ := fun x hx => by
    obtain ⟨y, hy, z⟩ := List.mem_map.mp hx
    by_cases q : y.1 = e.1
    · rw [if_pos q] at z
      have := key_eq D.nd hy he q
      subst this
      subst z
      rw [upd_same]
      simp
    · rw [if_neg q] at z
      subst z
      rw [upd_ne (fun w => q (by rw [addr_eq D.na hy he w]))]
      exact D.at_ _ hy
  fr := fun x hx => by
    obtain ⟨y, hy, z⟩ := List.mem_map.mp hx
    by_cases q : y.1 = e.1
    · rw [if_pos q] at z; subst z; exact D.fr y hy
    · rw [if_neg q] at z; subst z; exact D.fr y hy
theorem has_bump {j : κ} {x : Nat} (hk : k ∈ ls.map (·.1)) : has (bump ls k g) j x ↔ has ls j x ∨ (j = k ∧ x = g) := by
  unfold has bump
  constructor
  · rintro ⟨e, he, h1, h2⟩
    obtain ⟨y, hy, z⟩ := List.mem_map.mp he
    by_cases q : y.1 = k
    · rw [if_pos q] at z
      subst z
      rcases List.mem_append.mp h2 with h2 | h2
      · exact .inl ⟨y, hy, h1, h2⟩
      · exact .inr ⟨h1.symm.trans q, by simpa using h2⟩
    · rw [if_neg q] at z
      subst z
      exact .inl ⟨y, hy, h1, h2⟩
  · rintro (⟨e, he, h1, h2⟩ | ⟨h1, h2⟩)
    · by_cases q : e.1 = k
      · exact ⟨(e.1, e.2.1, e.2.2 ++ [g]), List.mem_map.mpr ⟨e, he, by rw [if_pos q]⟩, h1, by simp [h2]⟩
      · exact ⟨e, List.mem_map.mpr ⟨e, he, by rw [if_neg q]⟩, h1, h2⟩
    · obtain ⟨e, he, q⟩ := List.mem_map.mp hk
      exact ⟨(e.1, e.2.1, e.2.2 ++ [g]), List.mem_map.mpr ⟨e, he, by rw [if_pos q]⟩, q.trans h1.symm, by simp [h2]⟩
variable {ι : Type} [DecidableEq ι] {fk : κ → ι}
theorem rws_bump : rws fk (bump ls k g) = rws fk ls := by
  unfold rws bump
  rw [List.map_map]
  refine List.map_congr_left fun x _ => ?_
  show (fk (if x.1 = k then (x.1, x.2.1, x.2.2 ++ [g]) else x).1, V.ref (if x.1 = k then (x.1, x.2.1, x.2.2 ++ [g]) else x).2.1) = _
  by_cases z : x.1 = k
  · rw [if_pos z]
  · rw [if_neg z]
theorem rws_some {v : V} (hf : ∀ a b, fk a = fk b → a = b) (h : valV (rws fk ls) (fk k) = some v) : ∃ e ∈ ls, e.1 = k ∧ v = .ref e.2.1 := by
  induction ls with
  | nil => cases h
  | cons p r ih =>
    by_cases q : p.1 = k
    · rw [show rws fk (p :: r) = (fk p.1, .ref p.2.1) :: rws fk r from rfl, valV_pos (p := (fk p.1, V.ref p.2.1)) (by rw [q])] at h
      exact ⟨p, by simp, q, (Option.some.inj h).symm⟩
    · rw [show rws fk (p :: r) = (fk p.1, .ref p.2.1) :: rws fk r from rfl, valV_neg (p := (fk p.1, V.ref p.2.1)) (fun z => q (hf _ _ z))] at h
      obtain ⟨e, he, h1, h2⟩ := ih h
      exact ⟨e, by simp [he], h1, h2⟩
theorem rws_none (h : valV (rws fk ls) (fk k) = none) : k ∉ ls.map (·.1) := by
  induction ls with
  | nil => simp
  | cons p r ih =>
    by_cases q : p.1 = k
    · rw [show rws fk (p :: r) = (fk p.1, .ref p.2.1) :: rws fk r from rfl, valV_pos (p := (fk p.1, V.ref p.2.1)) (by rw [q])] at h
      cases h
    · rw [show rws fk (p :: r) = (fk p.1, .ref p.2.1) :: rws fk r from rfl] at h
      by_cases q2 : fk p.1 = fk k
      · rw [valV_pos (p := (fk p.1, V.ref p.2.1)) q2] at h
        cases h
      · rw [valV_neg (p := (fk p.1, V.ref p.2.1)) q2] at h
        rw [List.map_cons, List.mem_cons, not_or]
        exact ⟨fun z => q z.symm, ih h⟩
theorem rws_snoc {xs : List Nat} : rws fk (ls ++ [(k, l, xs)]) = rws fk ls ++ [(fk k, .ref l)] := by simp [rws]
end
section
variable {P : Program} {w : World} {K : PySem.W.Frag} {mg : Str → Option Value} {base : Heap} {CW CB : Addr}
abbrev PairAt (H : Hp) (as : List Addr) (E : List (Nat × Nat)) : Prop := Paired (fun x r => H x = some (.tup [vI r.1, vI r.2])) as E
def kN (n : Nat) : L2.Key := .inl (n : Int)
theorem kN_inj (a b : Nat) (h : kN a = kN b) : a = b := by
  unfold kN at h
  have := Sum.inl.inj h
  omega
/-- the found points, as pairs of a dict -/
def fnd (F : List Nat) : List (L2.Key × V) := F.map fun k => (kN k, .bl true)
theorem fnd_val {F : List Nat} {k : Nat} : (valV (fnd F) (kN k)).isSome = true ↔ k ∈ F := by
  induction F with
  | nil => simp [fnd, valV]
  | cons p r ih =>
    by_cases q : p = k
    · rw [show fnd (p :: r) = (kN p, .bl true) :: fnd r from rfl, valV_pos (p := (kN p, V.bl true)) (by rw [q])]
      simp [q]
    · rw [show fnd (p :: r) = (kN p, .bl true) :: fnd r from rfl, valV_neg (p := (kN p, V.bl true)) (fun z => q (kN_inj _ _ z)), ih]
      simp [Ne.symm q]
theorem fnd_put {F : List Nat} {k : Nat} (h : k ∉ F) : putK (fnd F) (kN k) (.bl true) = fnd (F ++ [k]) := by
  rw [putK_new]
  · simp [fnd]
  · cases e : valV (fnd F) (kN k) with
    | none => rfl
    | some v => exact absurd (fnd_val.mp (by rw [e]; rfl)) h
def spReached : Sp := fun vs H Q _ => ∃ (a : Addr) (as : List Addr) (E : List (Nat × Nat)) (s0 n : Nat), vs = [.ref a, vI s0] ∧ H a = some (.lst (as.map .ref)) ∧ PairAt H as E ∧ (∀ r ∈ E, r.2 < n) ∧ s0 < n ∧ n ≤ 100 ∧ E.length ≤ 1000 ∧
  ∀ H' d F, Same H H' → H' d = some (.dK (fnd F)) → F.Nodup → s0 ∈ F → (∀ x ∈ F, x < n) → (∀ r ∈ E, r.1 ∈ F → r.2 ∈ F) → Q (.ref d) H'
theorem ok_reached (T : Txt K mg CW CB) : Ok P w K mg base "reached" 1 ["pairs", "start"] spReached := by
  refine T.d_reached.ok sc_reached (fun vs H Q E h => ?_) (fun f cdv A outer s H vs Q E hr h => ?_)
  · obtain ⟨a, as, E, s0, n, rfl, _⟩ := h
    rfl
  · obtain ⟨a, as, E, s0, n, rfl, ha, hp, hE, hs0, hn, hlE, q⟩ := h
    have hu1 : (A.deeper (envOfC "reached" (defScope s_reached) s.heap.objs.size f cdv)).units + 1 < cLine := by have := hr.un; omega
    refine ⟨_, (pss_cons (ps_set (i := 2) sc_reached.nd rfl (.inl rfl) pe_dnewK)
      (pss_cons (ps_for PassesOwn.never rfl (piL K (pv 0)) (pgT K rfl (pgs_cons (pg_name (i := 3) sc_reached.nd rfl (.inl rfl)) (pgs_cons (pg_name (i := 4) sc_reached.nd rfl (.inl rfl)) pgs_nil)))
        (pss_one (ps_expr (pe_bm PySem.F.plainAttrs_list PySem.F.slot_list_append PySem.F.type_list_append mt_append (pe_dsetd (pv 2) (pv 3) (pe_lst pa_nil) ⟨rfl, rfl, rfl, rfl⟩) (pa_cons (pv 4) pa_nil)))))
      (pss_cons (ps_set (i := 5) sc_reached.nd rfl (.inl rfl) (pe_disp (pps_cons (pv 1) pe_bl pps_nil) (by rfl) (by rfl) (fun z => by cases z) (by decide)))
      (pss_cons (ps_set (i := 6) sc_reached.nd rfl (.inl rfl) (pe_lst (pa_cons (pv 1) pa_nil)))
      (pss_cons (ps_while PassesOwn.never (pt_cmpR op_gt (pe_callB (crLen K) (by rfl) T.b_len B_len (pa_cons (pv 6) pa_nil)) pe_int (nomark _))
        (pss_one (ps_for PassesOwn.never rfl (piL K (pe_dget2 hu1 (pv 2) (pe_bm0 PySem.F.plainAttrs_list PySem.F.slot_list_pop PySem.F.type_list_pop mt_pop (pv 6)) (pe_lst pa_nil) ⟨rfl, rfl, rfl, rfl⟩)) (pg_name (i := 7) sc_reached.nd rfl (.inl rfl))
          (pss_one (ps_if (pt_cmp (pc_dnotin hu1 (pv 7) (pv 5)))
            (pss_cons (ps_dput hu1 (pv 5) (pv 7) pe_bl rfl)
            (pss_one (ps_expr (pe_bm PySem.F.plainAttrs_list PySem.F.slot_list_append PySem.F.type_list_append mt_append (pv 6) (pa_cons (pv 7) pa_nil)))))
            pss_nil)))))
      (pss_one (ps_ret (pv 5)))))))), ?_⟩
    intro d nd
    have hl : as.length = E.length := Paired.length hp
    have sm0 : Same H (upd H d (.dK [])) := same_new nd
    refine ⟨_, rfl, a, rfl, ⟨_, SqL.of (sm0 _ _ ha)⟩, for_src (G := fun H2 => SqL K H2 a (as.map .ref)) src_list (fun i σ H2 => ∃ u1 u2 ls, σ = [some (.ref a), some (vI s0), some (.ref d), u1, u2, none, none, none] ∧ DL H H2 ls ∧ H2 d = some (.dK (rws kN ls)) ∧ ls.length ≤ i ∧ (∀ e ∈ ls, e.2.2.length ≤ i) ∧ ∀ j x, has ls j x ↔ (j, x) ∈ E.take i) ?_ ?_ ?_ ?_⟩
    · refine ⟨none, none, [], rfl, .new sm0, upd_same, Nat.le_refl _, fun e he => by simp at he, fun j x => ?_⟩
      simp [has]
    · rintro i σ H2 _ ⟨_, _, _, _, D, _⟩
      exact SqL.of (D.sm _ _ ha)
    · rintro i x σ H2 H3 hi ⟨u1, u2, ls, rfl, D, hd, hli, hle, hm⟩ ⟨rfl, hx⟩
      obtain ⟨b, r, rfl, hb, hr2⟩ : ∃ b r, x = .ref b ∧ H b = some (.tup [vI r.1, vI r.2]) ∧ E[i]? = some r := by
        rw [List.getElem?_map] at hx
        cases e : as[i]? with
        | none => rw [e] at hx; cases hx
        | some b =>
          rw [e] at hx
          obtain ⟨r, h1, h2⟩ := L2.paired_get hp e
          exact ⟨b, r, (Option.some.inj hx).symm, h2, h1⟩
      have hiE : i < E.length := by rw [List.length_map] at hi; omega
      refine ⟨b, _, rfl, SqT.of (D.sm _ _ hb), rfl, _, _, rfl, _, _, rfl, rfl, ?_⟩
      refine ⟨_, rfl, d, rfl, .inl ⟨_, .inl hd⟩, _, rfl, le_line (by simp), fun l nl => ?_⟩
      have dl : d ≠ l := fun z => by rw [z, nl] at hd; cases hd
      have hd3 : upd H3 l (.lst []) d = some (.dK (rws kN ls)) := by rw [upd_ne dl]; exact hd
      refine ⟨_, kN r.1, hd3, rfl, ?_, fun v hv => ?_, fun hv => ?_⟩
      · rw [rws, List.length_map]; exact lt_line (by omega)
      · obtain ⟨e, he, h1, rfl⟩ := rws_some kN_inj hv
        have D2 : DL H (upd H3 l (.lst [])) ls := D.fresh nl
        refine ⟨.inl ⟨rfl, _, SqL.of (D2.at_ e he)⟩, _, rfl, e.2.1, _, _, rfl, rfl, D2.at_ e he, ?_, ?_⟩
        · have := hle e he
          rw [List.length_map]; exact lt_line (by omega)
        · refine ⟨_, _, bump ls r.1 r.2, rfl, by rw [← h1]; exact D2.old he r.2, ?_, ?_, fun e' he' => ?_, fun j x => ?_⟩
          · rw [rws_bump, upd_ne]
            · exact hd3
            · intro z
              have := D2.at_ e he
              rw [← z, hd3] at this
              cases this
          · rw [bump, List.length_map]; omega
          · obtain ⟨y, hy, z⟩ := List.mem_map.mp he'
            have := hle y hy
            by_cases q : y.1 = r.1
            · rw [if_pos q] at z; subst z
              show (y.2.2 ++ [r.2]).length ≤ _
              rw [List.length_append, List.length_singleton]; omega
            · rw [if_neg q] at z; subst z; omega
          · rw [has_bump (List.mem_map.mpr ⟨e, he, h1⟩), hm, List.take_succ, hr2]
            simp [Prod.ext_iff]
      · have hk := rws_none hv
        have D2 : DL H (upd H3 l (.lst [])) ls := D.fresh nl
        have D3 : DL H (upd (upd H3 l (.lst [])) d (.dK (putK (rws kN ls) (kN r.1) (.ref l)))) ls := D2.dict nd hd3 fun _ z => nomatch z
        have hl3 : upd (upd H3 l (.lst [])) d (.dK (putK (rws kN ls) (kN r.1) (.ref l))) l = some (.lst []) := by rw [upd_ne (Ne.symm dl), upd_same]
        refine ⟨.inl ⟨rfl, _, SqL.of hl3⟩, _, rfl, l, [], vI r.2, rfl, rfl, hl3, lt_line (by simp), ?_⟩
        have hn2 : ∀ e ∈ ls, e.2.1 ≠ l := fun e he z => by have := D.at_ e he; rw [z, nl] at this; cases this
        refine ⟨_, _, ls ++ [(r.1, l, [r.2])], rfl, (D3.put (D.sm.free nl) hn2).snoc hk (by rw [upd_same]; rfl) (D.sm.free nl) hn2, ?_, ?_, fun e' he' => ?_, fun j x => ?_⟩
        · rw [upd_ne dl, upd_same, rws_snoc, putK_new _ hv]
        · rw [List.length_append, List.length_singleton]; omega
        · rcases List.mem_append.mp he' with he' | he'
          · have := hle e' he'; omega
          · have : e' = (r.1, l, [r.2]) := by simpa using he'
            subst this
            show 1 ≤ i + 1
            omega
        · rw [has_snoc, hm, List.take_succ, hr2]
          simp [Prod.ext_iff]
    · rintro σ H2 ⟨u1, u2, ls, rfl, D, hd, hli, hle, hm⟩
      rw [List.length_map, hl, List.take_length] at hm
      rw [List.length_map] at hli hle
      intro c nc
      refine ⟨_, rfl, upd_same, [(kN s0, .bl true)], rfl, by simp, ?_⟩
      refine ⟨_, rfl, le_line (by simp), fun t nt => ?_⟩
      have e0 : upd (upd H2 c (.dK [])) c (.dK (mergeK [] [(kN s0, .bl true)])) = upd H2 c (.dK (fnd [s0])) := by
        rw [upd_upd]; rfl
      rw [e0] at nt ⊢
      have cd : d ≠ c := fun z => by rw [z, nc] at hd; cases hd
      have ct : c ≠ t := fun z => by rw [← z, upd_same] at nt; cases nt
      have td : d ≠ t := fun z => by rw [← z, upd_ne cd, hd] at nt; cases nt
      have D2 : DL H (upd H2 c (.dK (fnd [s0]))) ls := D.fresh nc
      have lt : ∀ e ∈ ls, e.2.1 ≠ t := fun e he z => by have := D2.at_ e he; rw [z, nt] at this; cases this
      have fc : H c = none := D.sm.free nc
      have ft : H t = none := D2.sm.free nt
      refine ⟨fun m σ H2 => ∃ (u3 : Option V) (F T : List Nat), σ = [some (.ref a), some (vI s0), some (.ref d), u1, u2, some (.ref c), some (.ref t), u3] ∧ DL H H2 ls ∧ H2 d = some (.dK (rws kN ls)) ∧ H2 c = some (.dK (fnd F)) ∧ H2 t = some (.lst (T.map vI)) ∧
        F.Nodup ∧ s0 ∈ F ∧ (∀ x ∈ F, x < n) ∧ (∀ x ∈ T, x ∈ F) ∧ (∀ x ∈ F, x ∈ T ∨ ∀ g, has ls x g → g ∈ F) ∧ 2 * (n - F.length) + T.length = m ∧ m ≤ 1000, ⟨2 * (n - 1) + 1, none, [s0], [s0], rfl, D2.fresh nt, ?_, ?_, upd_same, by simp, by simp, by simpa using hs0, by simp, fun x hx => .inl hx, rfl, by omega⟩, ?_⟩
      · rw [upd_ne td, upd_ne cd]; exact hd
      · rw [upd_ne ct, upd_same]
      rintro m σ H3 ⟨u3, F, T, rfl, D3, hd3, hc3, ht3, nF, sF, rF, TF, cl, hm1, hm2⟩
      refine ⟨_, rfl, t, _, rfl, .inl (SqL.of ht3), (T.map vI).length, 0, rfl, rfl, decide (0 < T.length), ?_, ?_⟩
      · show V.bl _ = V.bl _
        rw [List.length_map]
        congr 1
        rw [decide_eq_decide]
        omega
      by_cases hT : T = []
      · subst hT
        refine iteF ?_
        refine ⟨_, rfl, q H3 c F D3.sm hc3 nF sF rF fun r hr h1 => ?_⟩
        rcases cl r.1 h1 with z | z
        · cases z
        · exact z _ ((hm r.1 r.2).mpr hr)
      · obtain ⟨T', x, rfl⟩ : ∃ T' x, T = T' ++ [x] := by
          rcases snoc_or T with h | ⟨t, c, h⟩
          · exact absurd h hT
          · exact ⟨t, c, h⟩
        have hpos : decide (0 < (T' ++ [x]).length) = true := by simp
        rw [hpos]
        refine iteT ⟨fun σ' H' => ∃ m', m' < m ∧ _, fun _ _ h => h, ?_⟩
        refine ⟨_, rfl, d, rfl, .inl ⟨_, .inl hd3⟩, _, rfl, .inl ⟨rfl, _, SqL.of ht3⟩, t, (T' ++ [x]).map vI, vI x, rfl, rfl, ht3, by simp, le_line (by simp), fun l nl => ?_⟩
        have e1 : ((T' ++ [x]).map vI).dropLast = T'.map vI := by rw [List.map_append]; exact List.dropLast_concat
        rw [e1] at nl ⊢
        have D4 : DL H (upd H3 t (.lst (T'.map vI))) ls := D3.put ft lt
        have hd4 : upd H3 t (.lst (T'.map vI)) d = some (.dK (rws kN ls)) := by rw [upd_ne td]; exact hd3
        have hc4 : upd H3 t (.lst (T'.map vI)) c = some (.dK (fnd F)) := by rw [upd_ne ct]; exact hc3
        have ht4 : upd H3 t (.lst (T'.map vI)) t = some (.lst (T'.map vI)) := upd_same
        generalize upd H3 t (.lst (T'.map vI)) = H4 at nl D4 hd4 hc4 ht4 ⊢
        have D5 : DL H (upd H4 l (.lst [])) ls := D4.fresh nl
        have dl : d ≠ l := fun z => by rw [z, nl] at hd4; cases hd4
        have cl' : c ≠ l := fun z => by rw [z, nl] at hc4; cases hc4
        have tl : t ≠ l := fun z => by rw [z, nl] at ht4; cases ht4
        have hd5 : upd H4 l (.lst []) d = some (.dK (rws kN ls)) := by rw [upd_ne dl]; exact hd4
        have hc5 : upd H4 l (.lst []) c = some (.dK (fnd F)) := by rw [upd_ne cl']; exact hc4
        have ht5 : upd H4 l (.lst []) t = some (.lst (T'.map vI)) := by rw [upd_ne tl]; exact ht4
        have hl5 : upd H4 l (.lst []) l = some (.lst []) := upd_same
        generalize upd H4 l (.lst []) = H5 at D5 hd5 hc5 ht5 hl5 ⊢
        obtain ⟨l2, xs, g1, g2, g3, g4⟩ : ∃ (l2 : Addr) (xs : List Nat), (valV (rws kN ls) (kN x)).getD (.ref l) = .ref l2 ∧ H5 l2 = some (.lst (xs.map vI)) ∧ (∀ g, has ls x g ↔ g ∈ xs) ∧ l2 ≠ t := by
          cases hv : valV (rws kN ls) (kN x) with
          | none =>
            refine ⟨l, [], rfl, hl5, fun g => ⟨?_, fun h => by simp at h⟩, Ne.symm tl⟩
            rintro ⟨e, he, h1, _⟩
            exact absurd (List.mem_map.mpr ⟨e, he, h1⟩) (rws_none hv)
          | some v =>
            obtain ⟨e, he, h1, rfl⟩ := rws_some kN_inj hv
            refine ⟨e.2.1, e.2.2, rfl, D5.at_ e he, fun g => ⟨?_, fun h => ⟨e, he, h1, h⟩⟩, lt e he⟩
            rintro ⟨e', he', h1', h2⟩
            rw [key_eq D5.nd he he' (h1.trans h1'.symm)]
            exact h2
        refine ⟨_, DGet.k (k := kN x) hd5, l2, g1, ⟨_, SqL.of g2⟩, for_src (G := fun H2 => SqL K H2 l2 (xs.map vI)) src_list (fun i σ H2 => ∃ (u3 : Option V) (F T : List Nat), σ = [some (.ref a), some (vI s0), some (.ref d), u1, u2, some (.ref c), some (.ref t), u3] ∧ DL H H2 ls ∧ H2 d = some (.dK (rws kN ls)) ∧ H2 c = some (.dK (fnd F)) ∧ H2 t = some (.lst (T.map vI)) ∧ H2 l2 = some (.lst (xs.map vI)) ∧
          F.Nodup ∧ s0 ∈ F ∧ (∀ x ∈ F, x < n) ∧ (∀ x ∈ T, x ∈ F) ∧ (∀ y ∈ F, y ∈ T ∨ (∀ g, has ls y g → g ∈ F) ∨ y = x) ∧ (∀ g ∈ xs.take i, g ∈ F) ∧ 2 * (n - F.length) + T.length < m) ?_ ?_ ?_ ?_⟩
        · refine ⟨u3, F, T', rfl, D5, hd5, hc5, ht5, g2, nF, sF, rF, fun y hy => TF y (by simp [hy]), fun y hy => ?_, by simp, by rw [List.length_append, List.length_singleton] at hm1; omega⟩
          rcases cl y hy with z | z
          · rcases List.mem_append.mp z with z | z
            · exact .inl z
            · exact .inr (.inr (by simpa using z))
          · exact .inr (.inl z)
        · rintro i σ H6 _ ⟨_, _, _, _, _, _, _, _, h, _⟩
          exact SqL.of h
        · rintro i y σ H6 H7 hi ⟨u3, F, T, rfl, D6, hd6, hc6, ht6, hl6, nF, sF, rF, TF, cl, tk, hms⟩ ⟨rfl, hy⟩
          obtain ⟨g, rfl, hg⟩ : ∃ g, y = vI g ∧ xs[i]? = some g := by
            rw [List.getElem?_map] at hy
            cases e : xs[i]? with
            | none => rw [e] at hy; cases hy
            | some g => rw [e] at hy; exact ⟨g, (Option.some.inj hy).symm, rfl⟩
          have hgE : g < n := hE (x, g) ((hm x g).mp ((g3 g).mpr (List.mem_of_getElem? hg)))
          have ltk : ∀ F' : List Nat, (∀ z ∈ xs.take i, z ∈ F') → g ∈ F' → ∀ z ∈ xs.take (i + 1), z ∈ F' := fun F' h1 h2 z hz => by
            rw [List.take_succ, hg] at hz
            rcases List.mem_append.mp hz with hz | hz
            · exact h1 z hz
            · have : z = g := by simpa using hz
              subst this; exact h2
          refine ⟨_, rfl, _, rfl, c, _, rfl, DGet.k (k := kN g) hc6, ?_⟩
          by_cases hgF : g ∈ F
          · rw [fnd_val.mpr hgF]
            refine ⟨_, rfl, iteF ?_⟩
            exact ⟨_, F, T, rfl, D6, hd6, hc6, ht6, hl6, nF, sF, rF, TF, cl, ltk F tk hgF, hms⟩
          · have : (valV (fnd F) (kN g)).isSome = false := by
              cases e : (valV (fnd F) (kN g)).isSome with
              | false => rfl
              | true => exact absurd (fnd_val.mp e) hgF
            rw [this]
            have lF : F.length ≤ n := by
              have := nF.length_le_of_subset (l₂ := List.range n) fun z hz => List.mem_range.mpr (rF z hz)
              simpa using this
            have nF2 : (F ++ [g]).Nodup := by
              refine List.nodup_append.mpr ⟨nF, by simp, fun x hx y hy e => ?_⟩
              subst e
              have : x = g := by simpa using hy
              subst this
              exact hgF hx
            have rF2 : ∀ z ∈ F ++ [g], z < n := fun z hz => by
              rcases List.mem_append.mp hz with hz | hz
              · exact rF z hz
              · have : z = g := by simpa using hz
                subst this; exact hgE
            have lF2 : F.length + 1 ≤ n := by
              have := nF2.length_le_of_subset (l₂ := List.range n) fun z hz => List.mem_range.mpr (rF2 z hz)
              simpa using this
            refine ⟨_, rfl, iteT ?_⟩
            have lc : l2 ≠ c := fun z => by rw [z, hc6] at hl6; cases hl6
            refine ⟨_, rfl, _, rfl, c, _, rfl, DPut.k (k := kN g) hc6 (by rw [fnd, List.length_map]; exact lt_line (by omega)), ?_⟩
            have ht7 : upd H7 c (.dK (putK (fnd F) (kN g) (.bl true))) t = some (.lst (T.map vI)) := by rw [upd_ne (Ne.symm ct)]; exact ht6
            refine ⟨_, rfl, .inl ⟨rfl, _, SqL.of ht7⟩, _, rfl, t, T.map vI, vI g, rfl, rfl, ht7, by rw [List.length_map]; exact lt_line (by omega), ?_⟩
            refine ⟨_, F ++ [g], T ++ [g], rfl, (D6.dict fc hc6 fun _ z => nomatch z).put ft lt, ?_, ?_, ?_, ?_, nF2, by simp [sF], rF2, fun z hz => ?_, fun z hz => ?_, ltk _ (fun z hz => by simp [tk z hz]) (by simp), ?_⟩
            · rw [upd_ne td, upd_ne cd]; exact hd6
            · rw [upd_ne ct, upd_same, fnd_put hgF]
            · rw [upd_same, List.map_append]; rfl
            · rw [upd_ne g4, upd_ne lc]; exact hl6
            · rcases List.mem_append.mp hz with hz | hz
              · simp [TF z hz]
              · simpa using .inr (by simpa using hz)
            · rcases List.mem_append.mp hz with hz | hz
              · rcases cl z hz with h | h | h
                · exact .inl (by simp [h])
                · exact .inr (.inl fun g hg => by simp [h g hg])
                · exact .inr (.inr h)
              · exact .inl (by simp only [List.mem_append]; exact .inr hz)
            · rw [List.length_append, List.length_append, List.length_singleton]; omega
        · rintro σ H6 ⟨u3, F, T, rfl, D6, hd6, hc6, ht6, hl6, nF, sF, rF, TF, cl, tk, hms⟩
          rw [List.length_map, List.take_length] at tk
          refine ⟨_, hms, u3, F, T, rfl, D6, hd6, hc6, ht6, nF, sF, rF, TF, fun y hy => ?_, rfl, by omega⟩
          rcases cl y hy with h | h | h
          · exact .inl h
          · exact .inr h
          · subst h
            exact .inr fun g hg => tk g ((g3 g).mp hg)
end
end Nj
set_option Elab.async false
set_option linter.all false
set_option maxRecDepth 100000
set_option maxHeartbeats 4000000
/-! A web hangs together; a web is made. -/
namespace Nj
open PySem PySem.Spec PyProof.Rows L2
theorem asc_eq : ∀ {l m : List Nat}, l.Pairwise (· < ·) → m.Pairwise (· < ·) → (∀ x, x ∈ l ↔ x ∈ m) → l = m
  | [], [], _, _, _ => rfl
  | [], b :: m, _, _, h => by have := (h b).mpr (by simp); simp at this
  | a :: l, [], _, _, h => by have := (h a).mp (by simp); simp at this
  | a :: l, b :: m, h1, h2, h => by
    rw [List.pairwise_cons] at h1 h2
    have e : a = b := by
      have g1 := (h a).mp (by simp)
      have g2 := (h b).mpr (by simp)
      rcases List.mem_cons.mp g1 with z | z
      · exact z
      · rcases List.mem_cons.mp g2 with y | y
        · exact y.symm
        · have := h2.1 a z
          have := h1.1 b y
          omega
    subst e
    rw [asc_eq h1.2 h2.2 fun x => ?_]
    have := h x
    rw [List.mem_cons, List.mem_cons] at this
    constructor
    · intro hx
      rcases this.mp (.inr hx) with z | z
      · have := h1.1 x hx; omega
      · exact z
    · intro hx
      rcases this.mpr (.inr hx) with z | z
      · have := h2.1 x hx; omega
      · exact z
theorem asc_of {l : List Nat} (h : l.Pairwise (· ≤ ·)) (n : l.Nodup) : l.Pairwise (· < ·) := by
  refine (List.pairwise_and_iff.mpr ⟨h, n⟩).imp fun {a b} h => ?_
  have := h.1
  have := h.2
  omega
theorem rising_asc : ∀ (cs : List Nat) (a : Nat), risingS (S [a]) (cs.map fun c => S [c]) = true → (a :: cs).Pairwise (· ≤ ·)
  | [], a, _ => by simp
  | c :: cs, a, h => by
    have h' : (!ltCps (S [c]).cps.toList (S [a]).cps.toList && risingS (S [c]) (cs.map fun c => S [c])) = true := h
    rw [Bool.and_eq_true, ltCps_eq, S_list, S_list] at h'
    have ih := rising_asc cs c h'.2
    have hac : a ≤ c := by
      have := h'.1
      simp [List.cons_lt_cons_iff] at this
      omega
    refine List.pairwise_cons.mpr ⟨fun x hx => ?_, ih⟩
    rcases List.mem_cons.mp hx with z | z
    · omega
    · have := (List.pairwise_cons.mp ih).1 x z
      omega
theorem sorted_asc {cs : List Nat} (h : sortedS (cs.map fun c => S [c]) = true) : cs.Pairwise (· ≤ ·) := by
  cases cs with
  | nil => simp
  | cons a cs => exact rising_asc cs a h
theorem AZ_asc : AZ.Pairwise (· < ·) := by decide
theorem signs_asc {W : Web} : (signs W).Pairwise (· < ·) := AZ_asc.sublist List.filter_sublist
theorem stp_asc {W : Web} (ps : List Nat) (c : Nat) : (stp W ps c).Pairwise (· < ·) := (List.pairwise_lt_range).sublist List.filter_sublist
theorem S_nil : S [] = Str.empty := rfl
theorem join_one : ∀ cs : List Nat, Str.join (S []) (cs.map fun c => S [c]) = S cs
  | [] => rfl
  | [c] => rfl
  | a :: b :: cs => by
    show S [a] ++ S [] ++ Str.join (S []) ((b :: cs).map fun c => S [c]) = _
    rw [join_one (b :: cs), S_app, S_app]
    rfl
theorem mem_signs {W : Web} (G : GoodW W) {c : Nat} : c ∈ signs W ↔ ∃ r ∈ W.AR, r.2.1 = c := by
  unfold signs
  rw [List.mem_filter, List.any_eq_true]
  constructor
  · rintro ⟨_, r, h, e⟩; exact ⟨r, h, of_decide_eq_true e⟩
  · rintro ⟨r, h, e⟩; exact ⟨by rw [← e]; exact AB_AZ (G.ran r h).2.1, r, h, decide_eq_true e⟩
/-- a comprehension of new tuples -/
theorem lc_tup {ρ : Type} {J : It} {n : Nat} {G : Hp → Prop} {item : Nat → V → Hp → Hp → Prop} (Sr : Src J n G item) {g : TG} {tt : TT} {te : TE} {vs : List Nat} {σ : L2.St} {H1 : Hp} {D : Addr} {Qd : Hp → Prop} (f : ρ → List V) (kp : Nat → Bool) (row : Nat → ρ) (nD : H1 D = none) (hz : n ≤ 100000) (hG : ∀ H, Same H1 H → G H)
    (hs : ∀ i x H H', i < n → Same H1 H → item i x H H' → ∀ (Qy : VK) (Qn : Hp → Prop), (kp i = true → ∀ H4 p, Same H H4 → H4 p = none → Qy (.ref p) (upd H4 p (.tup (f (row i))))) → (kp i = false → ∀ H3, Same H H3 → Qn H3) →
      g x (wipe σ vs) H' fun σ2 H2 => wipe σ2 vs = wipe σ vs ∧ tt σ2 H2 fun b H3 => if b = true then te σ2 H3 Qy else Qn H3)
    (hd : ∀ H as, Same H1 H → H D = some (.lst (as.map .ref)) → Paired (fun x r => H x = some (.tup (f r))) as (made n kp row) → Qd H) :
    ∃ W : Nat → Nat → Hp → Prop, (∃ m, W 0 m (upd H1 D (.lst []))) ∧ ∀ i m H, W i m H →
      (J.stop i H ∧ Qd H) ∨ (J.go i H ∧ ∃ Nx : Hp → Prop, (∀ H', Nx H' → ∃ m', m' < m ∧ W (i + 1) m' H') ∧ ∀ x H', J.yld i H x H' → g x (wipe σ vs) H' fun σ2 H2 => wipe σ2 vs = wipe σ vs ∧ tt σ2 H2 fun b H3 =>
        if b = true then te σ2 H3 fun y H4 => ∃ acc, H4 D = some (.lst acc) ∧ acc.length < sizeLine ∧ Nx (upd H4 D (.lst (acc ++ [y]))) else Nx H3) := by
  refine lc_src Sr (fun i H => Same H1 H ∧ ∃ as, H D = some (.lst (as.map .ref)) ∧ Paired (fun x r => H x = some (.tup (f r))) as (made i kp row)) ⟨fun b o e => by rw [upd_ne (ne_of_none e nD)]; exact e, [], upd_same, .nil⟩ (fun i H _ h => hG H h.1) ?_ fun H h => let ⟨h1, as, h2, h3⟩ := h; hd H as h1 h2 h3
  rintro i x H H' hi ⟨sm, as, hD, hp⟩ it
  refine hs i x H H' hi sm it _ _ (fun hk H4 p s4 np => ?_) fun hk H3 s3 => ?_
  · have hD4 : H4 D = some (.lst (as.map .ref)) := s4 _ _ hD
    have Dp : D ≠ p := fun z => by rw [z, np] at hD4; cases hD4
    refine ⟨as.map .ref, by rw [upd_ne Dp]; exact hD4, ?_, fun b o e => ?_, as ++ [p], ?_, ?_⟩
    · have h1 := made_len i kp row
      have h2 : as.length = _ := Paired.length hp
      rw [List.length_map, sizeLine_eq]
      omega
    · have e4 := s4 _ _ (sm _ _ e)
      rw [upd_ne (ne_of_none e nD), upd_ne (ne_of_none e4 np)]
      exact e4
    · rw [upd_same, List.map_append]; rfl
    · rw [made_succ, if_pos hk]
      refine Paired.snoc (Paired.mapP hp fun y r hy => ?_) ?_
      · have y4 := s4 _ _ hy
        rw [upd_ne (fun z => by rw [z, hD4] at y4; cases y4), upd_ne (ne_of_none y4 np)]
        exact y4
      · rw [upd_ne (Ne.symm Dp), upd_same]
  · refine ⟨sm.trans s3, as, s3 _ _ hD, ?_⟩
    rw [made_succ, if_neg (by rw [hk]; decide), List.append_nil]
    exact Paired.mapP hp fun y r hy => s3 _ _ hy
theorem made_all {α : Type} {β : Type} (l : List α) (f : α → β) (d : α) : made l.length (fun _ => true) (fun i => f (l[i]?.getD d)) = l.map f := by
  unfold made
  rw [List.filter_eq_self.mpr fun _ _ => rfl]
  refine List.ext_getElem? fun i => ?_
  rw [List.getElem?_map, List.getElem?_map]
  by_cases hi : i < l.length
  · rw [List.getElem?_range hi, List.getElem?_eq_getElem hi]
    simp [List.getElem?_eq_getElem hi]
  · rw [List.getElem?_eq_none (by simpa using hi), List.getElem?_eq_none (by simpa using hi)]
    rfl
section
variable {P : Program} {w : World} {K : PySem.W.Frag} {mg : Str → Option Value} {base : Heap} {CW CB : Addr}
def spHangs : Sp := fun vs H Q _ => ∃ (a : Addr) (W : Web), vs = [vI W.P, .ref a] ∧ GoodW W ∧ Arr H a W.AR ∧ ∀ H', Same H H' → Q (.bl true) H'
theorem ok_hangs (T : Txt K mg CW CB) : Ok P w K mg base "hangs" 2 ["points", "arrows"] spHangs := by
  have G_reached := ok_reached (P := P) (w := w) (base := base) T
  refine T.d_hangs.ok sc_hangs (fun vs H Q E h => ?_) (fun f cdv A outer s H vs Q E hr h => ?_)
  · obtain ⟨a, W, rfl, _⟩ := h
    rfl
  · obtain ⟨a, W, rfl, G, hA, q⟩ := h
    refine ⟨_, (pss_cons (ps_setLc (i := 2) (own := [("one", 4), ("letter", 5), ("other", 6)]) rfl sc_hangs.nd rfl rfl (sw_true rfl rfl rfl (by decide +kernel)) (piT K (pv 1)) (blkOk_by (N := ["points", "arrows", "forth", "back", "one", "letter", "other"]) (sc := defScope s_hangs) (by decide +kernel)) (fun _ _ _ _ _ => (pgT K (n := 3) rfl (pgs_cons (pg_name (i := 4) sc_hangs.nd rfl (.inl rfl)) (pgs_cons (pg_name (i := 5) sc_hangs.nd rfl (.inl rfl)) (pgs_cons (pg_name (i := 6) sc_hangs.nd rfl (.inl rfl)) pgs_nil))))) (fun _ _ _ _ _ => pts_nil) (fun _ _ _ _ _ => (pe_tup (pa_cons (pv 4) (pa_cons (pv 6) pa_nil)))))
      (pss_cons (ps_setLc (i := 3) (own := [("one", 4), ("letter", 5), ("other", 6)]) rfl sc_hangs.nd rfl rfl (sw_true rfl rfl rfl (by decide +kernel)) (piT K (pv 1)) (blkOk_by (N := ["points", "arrows", "forth", "back", "one", "letter", "other"]) (sc := defScope s_hangs) (by decide +kernel)) (fun _ _ _ _ _ => (pgT K (n := 3) rfl (pgs_cons (pg_name (i := 4) sc_hangs.nd rfl (.inl rfl)) (pgs_cons (pg_name (i := 5) sc_hangs.nd rfl (.inl rfl)) (pgs_cons (pg_name (i := 6) sc_hangs.nd rfl (.inl rfl)) pgs_nil))))) (fun _ _ _ _ _ => pts_nil) (fun _ _ _ _ _ => (pe_tup (pa_cons (pv 6) (pa_cons (pv 4) pa_nil)))))
      (pss_one (ps_ret (pe_and (pe_cmpR op_eq (pe_callB call_lenD (by rfl) T.b_len B_len (pa_cons (pk G_reached hr (by decide) (by rfl) (pa_cons (pv 2) (pa_cons pe_int pa_nil))) pa_nil)) (pv 0) (nomark _)) (pe_one (pe_cmpR op_eq (pe_callB call_lenD (by rfl) T.b_len B_len (pa_cons (pk G_reached hr (by decide) (by rfl) (pa_cons (pv 3) (pa_cons pe_int pa_nil))) pa_nil)) (pv 0) (nomark _)))))))), ?_⟩
    obtain ⟨as, ha, hp⟩ := id hA
    have hl : as.length = W.AR.length := Paired.length hp
    have hs := AR_small G
    have hS : SqT K H a (as.map .ref) := SqT.of ha
    refine ⟨_, rfl, a, rfl, ⟨_, hS⟩, fun D nD => lc_tup (ρ := Nat × Nat) src_tup (fun r => [vI r.1, vI r.2]) (fun _ => true) (fun i => (fun r : Nat × Nat × Nat => (r.1, r.2.2)) (W.AR[i]?.getD (0, 0, 0))) nD (by rw [List.length_map]; omega) (fun H2 sm => Same.tup sm hS) ?_ ?_⟩
    · rintro i x H2 H' hi sm ⟨rfl, hx⟩ Qy Qn k1 _
      obtain ⟨b, r, rfl, hr1, hb⟩ := hp.get hx
      refine ⟨b, _, rfl, SqT.of (sm _ _ hb), rfl, _, _, rfl, _, _, rfl, _, _, rfl, rfl, ?_⟩
      refine ⟨rfl, yes_go ?_⟩
      refine ⟨_, rfl, _, rfl, le_line (by simp), fun p np => ?_⟩
      have := k1 rfl _ p (Same.refl _) np
      rw [hr1] at this
      exact this
    · intro H2 bs sm hD hp2
      rw [List.length_map, hl, made_all W.AR (fun r => (r.1, r.2.2)) (0, 0, 0)] at hp2
      refine ⟨_, rfl, a, rfl, ⟨_, Same.tup sm hS⟩, fun D2 nD2 => lc_tup (ρ := Nat × Nat) src_tup (fun r => [vI r.1, vI r.2]) (fun _ => true) (fun i => (fun r : Nat × Nat × Nat => (r.2.2, r.1)) (W.AR[i]?.getD (0, 0, 0))) nD2 (by rw [List.length_map]; omega) (fun H3 s3 => Same.tup (sm.trans s3) hS) ?_ ?_⟩
      · rintro i x H3 H' hi s3 ⟨rfl, hx⟩ Qy Qn k1 _
        obtain ⟨b, r, rfl, hr1, hb⟩ := hp.get hx
        refine ⟨b, _, rfl, SqT.of (s3 _ _ (sm _ _ hb)), rfl, _, _, rfl, _, _, rfl, _, _, rfl, rfl, ?_⟩
        refine ⟨rfl, yes_go ?_⟩
        refine ⟨_, rfl, _, rfl, le_line (by simp), fun p np => ?_⟩
        have := k1 rfl _ p (Same.refl _) np
        rw [hr1] at this
        exact this
      · intro H3 cs s3 hD2 hp3
        rw [List.length_map, hl, made_all W.AR (fun r => (r.2.2, r.1)) (0, 0, 0)] at hp3
        have p1 := G.p1
        have p4 := G.p4
        have full : ∀ F : List Nat, F.Nodup → (∀ x ∈ F, x < W.P) → (∀ p, p < W.P → p ∈ F) → F.length = W.P := fun F n1 n2 n3 => by
          have h1 := n1.length_le_of_subset (l₂ := List.range W.P) fun x hx => List.mem_range.mpr (n2 x hx)
          have h2 := List.nodup_range.length_le_of_subset (l₁ := List.range W.P) (l₂ := F) fun x hx => n3 x (List.mem_range.mp hx)
          rw [List.length_range] at h1 h2
          omega
        refine ⟨_, rfl, D, bs, W.AR.map fun r => (r.1, r.2.2), 0, W.P, rfl, s3 _ _ hD, Paired.mapP hp2 fun x r h => s3 _ _ h, ?_, by omega, by omega, by rw [List.length_map]; omega, ?_⟩
        · intro r hr
          obtain ⟨r', h1, rfl⟩ := List.mem_map.mp hr
          exact (G.ran r' h1).2.2
        intro H4 d F s4 hd nF z0 rF cl
        have e1 : F.length = W.P := full F nF rF fun p hp => by
          induction p with
          | zero => exact z0
          | succ p ih =>
            obtain ⟨c, hc⟩ := G.rnd p (by omega)
            have := cl (p, (p + 1) % W.P) (List.mem_map.mpr ⟨_, hc, rfl⟩) (ih (by omega))
            rw [Nat.mod_eq_of_lt hp] at this
            exact this
        have q1 : (fnd F).length = W.P := by rw [fnd, List.length_map, e1]
        refine ⟨d, _, rfl, hd, _, rfl, rfl, ?_⟩
        rw [q1, decide_eq_true rfl]
        refine ⟨true, rfl, iteT ?_⟩
        refine ⟨_, rfl, D2, cs, W.AR.map fun r => (r.2.2, r.1), 0, W.P, rfl, s4 _ _ hD2, Paired.mapP hp3 fun x r h => s4 _ _ h, ?_, by omega, by omega, by rw [List.length_map]; omega, ?_⟩
        · intro r hr
          obtain ⟨r', h1, rfl⟩ := List.mem_map.mp hr
          exact (G.ran r' h1).1
        intro H5 d2 F2 s5 hd2 nF2 z02 rF2 cl2
        have e2 : F2.length = W.P := full F2 nF2 rF2 fun p hp => by
          have down : ∀ j, j < W.P → W.P - 1 - j ∈ F2 := fun j => by
            induction j with
            | zero =>
              intro _
              obtain ⟨c, hc⟩ := G.rnd (W.P - 1) (by omega)
              have := cl2 ((W.P - 1 + 1) % W.P, W.P - 1) (List.mem_map.mpr ⟨_, hc, rfl⟩) (by rw [Nat.sub_add_cancel p1, Nat.mod_self]; exact z02)
              exact this
            | succ j ih =>
              intro hj
              obtain ⟨c, hc⟩ := G.rnd (W.P - 1 - (j + 1)) (by omega)
              have := cl2 ((W.P - 1 - (j + 1) + 1) % W.P, W.P - 1 - (j + 1)) (List.mem_map.mpr ⟨_, hc, rfl⟩) (by rw [Nat.mod_eq_of_lt (by omega), show W.P - 1 - (j + 1) + 1 = W.P - 1 - j by omega]; exact ih (by omega))
              exact this
          have := down (W.P - 1 - p) (by omega)
          rw [show W.P - 1 - (W.P - 1 - p) = p by omega] at this
          exact this
        have q2 : (fnd F2).length = W.P := by rw [fnd, List.length_map, e2]
        refine ⟨d2, _, rfl, hd2, _, rfl, rfl, ?_⟩
        rw [q2, decide_eq_true rfl]
        exact q H5 (sm.trans (s3.trans (s4.trans s5)))
end
end Nj
set_option Elab.async false
set_option linter.all false
set_option maxRecDepth 100000
set_option maxHeartbeats 4000000
/-! A web is made. -/
namespace Nj
open PySem PySem.Spec PyProof.Rows L2
/-- dict comprehensions by their source -/
theorem dc_src {J : It} {n : Nat} {G : Hp → Prop} {item : Nat → V → Hp → Hp → Prop} (Sr : Src J n G item) {g : TG} {tt : TT} {tk tv : TE} {vs : List Nat} {σ : L2.St} {H1 : Hp} {D : Addr} {Qd : Hp → Prop} (Pv : Nat → Hp → Prop) (h0 : Pv 0 (upd H1 D (.dK []))) (hG : ∀ i H, i ≤ n → Pv i H → G H)
    (hs : ∀ i x H H', i < n → Pv i H → item i x H H' → g x (wipe σ vs) H' fun σ2 H2 => wipe σ2 vs = wipe σ vs ∧ tt σ2 H2 fun b H3 => if b = true then tk σ2 H3 fun y H4 => tv σ2 H4 fun z H5 => ∃ kvs k, y = kV k ∧ H5 D = some (.dK kvs) ∧ kvs.length < sizeLine ∧ Pv (i + 1) (upd H5 D (.dK (putK kvs k z))) else Pv (i + 1) H3)
    (hd : ∀ H, Pv n H → Qd H) :
    ∃ W : Nat → Nat → Hp → Prop, (∃ m, W 0 m (upd H1 D (.dK []))) ∧ ∀ i m H, W i m H →
      (J.stop i H ∧ Qd H) ∨ (J.go i H ∧ ∃ Nx : Hp → Prop, (∀ H', Nx H' → ∃ m', m' < m ∧ W (i + 1) m' H') ∧ ∀ x H', J.yld i H x H' → g x (wipe σ vs) H' fun σ2 H2 => wipe σ2 vs = wipe σ vs ∧ tt σ2 H2 fun b H3 =>
        if b = true then tk σ2 H3 fun y H4 => tv σ2 H4 fun z H5 => ∃ kvs k, y = kV k ∧ H5 D = some (.dK kvs) ∧ kvs.length < sizeLine ∧ Nx (upd H5 D (.dK (putK kvs k z))) else Nx H3) := by
  refine ⟨fun i m H => i + m = n ∧ Pv i H, ⟨n, by simp, h0⟩, ?_⟩
  rintro i m H ⟨e, p⟩
  have q := hG i H (by omega) p
  by_cases hlt : i < n
  · exact .inr ⟨Sr.go i H hlt q, Pv (i + 1), fun H' p' => ⟨m - 1, by omega, by omega, p'⟩, fun x H' y => hs i x H H' hlt p (Sr.yld i H x H' hlt q y)⟩
  · obtain rfl : i = n := by omega
    exact .inl ⟨Sr.stop H q, hd H p⟩
theorem dcn_src {P : Program} {w : World} {J : It} {n : Nat} {G : Hp → Prop} {item : Nat → V → Hp → Hp → Prop} (Sr : Src J n G item) {g : TG} {tt : TT} {tk tv : TE} {vs : List Nat} {σ : L2.St} {H1 : Hp} {D : Addr} {o0 : HO} {Qd : Hp → Prop} (Pv : Nat → Hp → Prop) (h0 : Pv 0 (upd H1 D o0)) (hG : ∀ i H, i ≤ n → Pv i H → G H)
    (hs : ∀ i x H H', i < n → Pv i H → item i x H H' → g x (wipe σ vs) H' fun σ2 H2 => wipe σ2 vs = wipe σ vs ∧ tt σ2 H2 fun b H3 => if b = true then tk σ2 H3 fun y H4 => tv σ2 H4 fun z H5 => ∃ T k, IsKey H5 y k ∧ Nd P w H5 D T ∧ T.length < sizeLine ∧ (∀ o, Nd P w (upd H5 D o) D (putK T k z) → Pv (i + 1) (upd H5 D o)) else Pv (i + 1) H3)
    (hd : ∀ H, Pv n H → Qd H) :
    ∃ W : Nat → Nat → Hp → Prop, (∃ m, W 0 m (upd H1 D o0)) ∧ ∀ i m H, W i m H →
      (J.stop i H ∧ Qd H) ∨ (J.go i H ∧ ∃ Nx : Hp → Prop, (∀ H', Nx H' → ∃ m', m' < m ∧ W (i + 1) m' H') ∧ ∀ x H', J.yld i H x H' → g x (wipe σ vs) H' fun σ2 H2 => wipe σ2 vs = wipe σ vs ∧ tt σ2 H2 fun b H3 =>
        if b = true then tk σ2 H3 fun y H4 => tv σ2 H4 fun z H5 => ∃ T k, IsKey H5 y k ∧ Nd P w H5 D T ∧ T.length < sizeLine ∧ (∀ o, Nd P w (upd H5 D o) D (putK T k z) → Nx (upd H5 D o)) else Nx H3) := by
  refine ⟨fun i m H => i + m = n ∧ Pv i H, ⟨n, by simp, h0⟩, ?_⟩
  rintro i m H ⟨e, p⟩
  have q := hG i H (by omega) p
  by_cases hlt : i < n
  · exact .inr ⟨Sr.go i H hlt q, Pv (i + 1), fun H' p' => ⟨m - 1, by omega, by omega, p'⟩, fun x H' y => hs i x H H' hlt p (Sr.yld i H x H' hlt q y)⟩
  · obtain rfl : i = n := by omega
    exact .inl ⟨Sr.stop H q, hd H p⟩
theorem same_mut {H0 H : Hp} {b : Addr} {o : HO} (sm : Same H0 H) (h : H0 b = none) : Same H0 (upd H b o) := fun c x e => by
  rw [upd_ne (ne_of_none e h)]
  exact sm _ _ e
theorem putF_small {f : Str} {v : V} : ∀ {fs : List (Str × V)} {n : Nat}, fs.length ≤ n → (putF f v fs).length ≤ n + 1
  | [], n, h => by show 1 ≤ n + 1; omega
  | (g, x) :: r, n, h => by
    rw [List.length_cons] at h
    rw [show putF f v ((g, x) :: r) = (if g = f then (g, v) :: r else (g, x) :: putF f v r) from rfl]
    by_cases e : g = f
    · rw [if_pos e, List.length_cons]; omega
    · rw [if_neg e, List.length_cons]
      have := putF_small (f := f) (v := v) (fs := r) (n := n - 1) (by omega)
      omega
theorem yes_dc {a b : Hp → Prop} {σ : L2.St} {H : Hp} (h : a H) : tYes σ H fun c H3 => if c = true then a H3 else b H3 := by
  show (if true = true then a H else b H)
  rw [if_pos rfl]
  exact h
theorem perm_map {α β : Type} {f : α → β} {g : β → α} (hg : ∀ a, g (f a) = a) {ys : List β} {cs : List α} (h : ys.Perm (cs.map f)) : ∃ cs2 : List α, cs2.Perm cs ∧ ys = cs2.map f := by
  refine ⟨ys.map g, ?_, ?_⟩
  · have := h.map g
    rw [List.map_map, show g ∘ f = id from funext hg, List.map_id] at this
    exact this
  · rw [List.map_map]
    refine (List.map_id ys).symm.trans (List.map_congr_left fun y hy => ?_)
    obtain ⟨c, _, e⟩ := List.mem_map.mp (h.mem_iff.mp hy)
    show y = f (g y)
    rw [← e, hg]
/-- all but x stays -/
def But (x : Addr) (H H' : Hp) : Prop := ∀ b o, b ≠ x → H b = some o → H' b = some o
theorem But.upd {x : Addr} {H : Hp} {o : HO} : But x H (upd H x o) := fun b z n e => by rw [upd_ne n]; exact e
theorem But.same {x : Addr} {H H' H2 : Hp} (h : But x H H') (e : Same H' H2) : But x H H2 := fun b z n q => e _ _ (h b z n q)
theorem But.trans {x : Addr} {H H' H2 : Hp} (h : But x H H') (e : But x H' H2) : But x H H2 := fun b z n q => e b z n (h b z n q)
theorem Same.but {x : Addr} {H H' : Hp} (e : Same H H') : But x H H' := fun b z _ q => e _ _ q
theorem Arr.but {H H' : Hp} {a x : Addr} {AR : List (Nat × Nat × Nat)} (h : Arr H a AR) (e : But x H H') (hx : ∀ xs, H x ≠ some (.tup xs)) : Arr H' a AR := by
  obtain ⟨as, h1, h2⟩ := h
  refine ⟨as, e _ _ (fun z => hx _ (by rw [← z]; exact h1)) h1, Paired.mapP h2 fun y r q => e _ _ (fun z => hx _ (by rw [← z]; exact q)) q⟩
theorem Nd.upd {P : Program} {w : World} {H : Hp} {a b : Addr} {o : HO} {T : List (NestedKey × V)} (h : Nd P w H a T) (ab : a ≠ b) (hb : ∀ xs, H b ≠ some (.tup xs)) : Nd P w (L2.upd H b o) a T := by
  obtain ⟨L, h1, h2, h3⟩ := h
  refine ⟨L, by rw [upd_ne ab]; exact h1, h2.mono fun c xs q => ?_, h3⟩
  rw [upd_ne (fun z => hb xs (by rw [← z]; exact q))]
  exact q
theorem Nd.ne {P : Program} {w : World} {H : Hp} {a b : Addr} {T : List (NestedKey × V)} (h : Nd P w H a T) (hb : ∀ R, H b ≠ some (.ext R)) : a ≠ b := fun z => by
  obtain ⟨L, h1, _, _⟩ := h
  rw [z] at h1
  exact hb _ h1
theorem Nd.some {P : Program} {w : World} {H : Hp} {a : Addr} {T : List (NestedKey × V)} (h : Nd P w H a T) : ∃ R, H a = some (.ext R) := let ⟨L, h1, _, _⟩ := h; ⟨_, h1⟩
theorem Same.unlock {H H' : Hp} {d : Addr} {od : Obj} {u : HO} (h : H d = some u) (e : Same (upd H d (.frz od u)) H') : Same H (upd H' d u) := fun b o q => by
  by_cases z : b = d
  · rw [z, h] at q
    rw [z, upd_same, ← Option.some.inj q]
  · rw [upd_ne z]
    exact e _ _ (by rw [upd_ne z]; exact q)
section
variable {κ : Type} [DecidableEq κ] {ι : Type} [DecidableEq ι]
def mks (fk : κ → ι) (F : List κ) : List (ι × V) := F.map fun k => (fk k, V.bl true)
def ins (F : List κ) (k : κ) : List κ := if k ∈ F then F else F ++ [k]
theorem mem_ins {F : List κ} {k j : κ} : j ∈ ins F k ↔ j ∈ F ∨ j = k := by
  unfold ins
  by_cases h : k ∈ F
  · rw [if_pos h]
    constructor
    · exact .inl
    · rintro (z | z)
      · exact z
      · rw [z]; exact h
  · rw [if_neg h, List.mem_append, List.mem_singleton]
theorem ins_nodup {F : List κ} {k : κ} (n : F.Nodup) : (ins F k).Nodup := by
  unfold ins
  by_cases h : k ∈ F
  · rw [if_pos h]; exact n
  · rw [if_neg h]
    refine List.nodup_append.mpr ⟨n, by simp, fun x hx y hy e => ?_⟩
    subst e
    have : x = k := by simpa using hy
    subst this
    exact h hx
theorem ins_len (F : List κ) (k : κ) : (ins F k).length ≤ F.length + 1 := by
  unfold ins
  by_cases h : k ∈ F
  · rw [if_pos h]; omega
  · rw [if_neg h, List.length_append, List.length_singleton]
    omega
theorem mks_val {fk : κ → ι} (hf : ∀ a b, fk a = fk b → a = b) {F : List κ} {k : κ} : (valV (mks fk F) (fk k)).isSome = true ↔ k ∈ F := by
  induction F with
  | nil => simp [mks, valV]
  | cons p r ih =>
    by_cases q : p = k
    · rw [show mks fk (p :: r) = (fk p, .bl true) :: mks fk r from rfl, valV_pos (p := (fk p, V.bl true)) (by rw [q])]
      simp [q]
    · rw [show mks fk (p :: r) = (fk p, .bl true) :: mks fk r from rfl, valV_neg (p := (fk p, V.bl true)) (fun z => q (hf _ _ z)), ih]
      simp [Ne.symm q]
theorem mks_put {fk : κ → ι} (hf : ∀ a b, fk a = fk b → a = b) {F : List κ} {k : κ} : putK (mks fk F) (fk k) (.bl true) = mks fk (ins F k) := by
  unfold ins
  by_cases h : k ∈ F
  · rw [if_pos h]
    unfold putK
    rw [if_pos (by rw [valV_any]; exact (mks_val hf).mpr h)]
    unfold mks
    rw [List.map_map]
    refine List.map_congr_left fun x _ => ?_
    show (if fk x = fk k then (fk x, V.bl true) else (fk x, V.bl true)) = _
    by_cases z : fk x = fk k
    · rw [if_pos z]
    · rw [if_neg z]
  · rw [if_neg h, putK_new]
    · simp [mks]
    · cases e : valV (mks fk F) (fk k) with
      | none => rfl
      | some v => exact absurd ((mks_val hf).mp (by rw [e]; rfl)) h
theorem rws_val {ls : List (κ × Addr × List Nat)} {fk : κ → ι} (hf : ∀ a b, fk a = fk b → a = b) (nd : (ls.map (·.1)).Nodup) {e : κ × Addr × List Nat} (he : e ∈ ls) : valV (rws fk ls) (fk e.1) = some (.ref e.2.1) := by
  cases h : valV (rws fk ls) (fk e.1) with
  | none => exact absurd (List.mem_map.mpr ⟨e, he, rfl⟩) (rws_none h)
  | some v =>
    obtain ⟨e', he', h1, rfl⟩ := rws_some hf h
    rw [key_eq nd he' he h1]
theorem rws_out {ls : List (κ × Addr × List Nat)} {fk : κ → ι} (hf : ∀ a b, fk a = fk b → a = b) {k : κ} (h : k ∉ ls.map (·.1)) : valV (rws fk ls) (fk k) = none := by
  cases e : valV (rws fk ls) (fk k) with
  | none => rfl
  | some v =>
    obtain ⟨e', he', h1, _⟩ := rws_some hf e
    exact absurd (List.mem_map.mpr ⟨e', he', h1⟩) h
end
section
variable {P : Program} {w : World} {K : PySem.W.Frag} {mg : Str → Option Value} {base : Heap} {CW CB : Addr}
def kC (c : Nat) : L2.Key := .inr (S [c])
theorem kC_inj (a b : Nat) (h : kC a = kC b) : a = b := by
  have := S_inj (Sum.inr.inj h)
  simpa using this
def kS (t : Tx) : L2.Key := .inr (S t)
theorem kS_inj (a b : Tx) (h : kS a = kS b) : a = b := S_inj (Sum.inr.inj h)
theorem take_next {α : Type} {l : List α} {i : Nat} {x : α} (h : l[i]? = some x) : l.take (i + 1) = l.take i ++ [x] := by
  rw [List.take_succ, h]
  rfl
def fkW (p : Nat × Nat) : NestedKey := .tup [.num p.1, .text (S [p.2])]
theorem fkW_inj (a b : Nat × Nat) (h : fkW a = fkW b) : a = b := by
  unfold fkW at h
  injection h with h
  injection h with h1 h2
  injection h2 with h2 _
  injection h1 with h1
  injection h2 with h2
  have := S_inj h2
  obtain ⟨a1, a2⟩ := a
  obtain ⟨b1, b2⟩ := b
  simp only at h1 this
  rw [show a1 = b1 by omega, show a2 = b2 by simpa using this]
theorem fkW_is {H : Hp} {a : Addr} {p c : Nat} (h : H a = some (.tup [vI p, .str (S [c])])) : IsKey H (.ref a) (fkW (p, c)) := ⟨a, rfl, .tup h (.cons (.num _) (.cons (.text _) .nil)), by simp [fkW, NestedKey.depth, NestedKey.depthAll]⟩
def StepsOk (H : Hp) (T : List (NestedKey × V)) (W : Web) : Prop := ∀ p c, (valV T (fkW (p, c)) = none ∧ ∀ g, (p, c, g) ∉ W.AR) ∨ ∃ (a : Addr) (gs : List Nat), valV T (fkW (p, c)) = some (.ref a) ∧ H a = some (.tup (gs.map vI)) ∧ (∀ g, g ∈ gs ↔ (p, c, g) ∈ W.AR) ∧ gs.length ≤ 60
abbrev fl (fs : List (Str × V)) (f : Str) : Option V := fs.lookup f
theorem fl_eq {f : Str} {v : V} {fs : List (Str × V)} : fl (putF f v fs) f = Option.some v := by
  show (putF f v fs).lookup f = _
  rw [lookup_putF, if_pos rfl]
theorem fl_ne {f g : Str} {v : V} {fs : List (Str × V)} {r : Option V} (h : fl fs g = r) (n : g ≠ f := by decide) : fl (putF f v fs) g = r := by
  show (putF f v fs).lookup g = _
  rw [lookup_putF, if_neg n]
  exact h
/-- the web W stands at x -/
def WebAt (P : Program) (w : World) (CW : Addr) (H : Hp) (x : Addr) (W : Web) : Prop := ∃ dx fs aa sd T, H x = some (.ins CW dx fs) ∧ fl fs "points" = some (vI W.P) ∧ fl fs "arrows" = some (.ref aa) ∧ Arr H aa W.AR ∧
  fl fs "kept_letters" = some (.str (S (signs W))) ∧ fl fs "kept_steps" = some (.ref sd) ∧ Nd P w H sd T ∧ StepsOk H T W
theorem StepsOk.same {H H' : Hp} {T : List (NestedKey × V)} {W : Web} (e : Same H H') (h : StepsOk H T W) : StepsOk H' T W := fun p c => by
  rcases h p c with h | ⟨a, gs, h1, h2, h3⟩
  · exact .inl h
  · exact .inr ⟨a, gs, h1, e _ _ h2, h3⟩
theorem WebAt.same {H H' : Hp} {x : Addr} {W : Web} (e : Same H H') (h : WebAt P w CW H x W) : WebAt P w CW H' x W := by
  obtain ⟨dx, fs, aa, sd, T, h1, h2, h3, h4, h5, h6, h7, h8⟩ := h
  exact ⟨dx, fs, aa, sd, T, e _ _ h1, h2, h3, h4.same e, h5, h6, h7.same e, h8.same e⟩
def spWKeep (P : Program) (w : World) (CW : Addr) : Sp := fun vs H Q _ => ∃ (x dx aa : Addr) (W : Web), vs = [.ref x, vI W.P, .ref aa] ∧ GoodW W ∧ H x = some (.ins CW dx []) ∧ Arr H aa W.AR ∧ ∀ H', But x H H' → WebAt P w CW H' x W → Q .non H'
theorem ok_Web_keep (T : Txt K mg CW CB) : OkM P w K mg base CW "keep" 1 ["self", "points", "arrows"] (spWKeep P w CW) := by
  refine T.d_Web_keep.ok sc_Web_keep (fun vs H Q E h => ?_) (fun f cdv A outer s H vs Q E hr h => ?_)
  · obtain ⟨x, dx, aa, W, rfl, _⟩ := h
    rfl
  · obtain ⟨x, dx, aa, W, rfl, G, hx, hA, q⟩ := h
    have hu : (A.deeper (envOfC "Web.keep" (defScope s_Web_keep) s.heap.objs.size f cdv)).units + 60 < cLine := by have := hr.un; omega
    have hu1 : (A.deeper (envOfC "Web.keep" (defScope s_Web_keep) s.heap.objs.size f cdv)).units + 1 < cLine := by have := hr.un; omega
    refine ⟨_, (pss_cons (ps_fld (pv 0) (pv 1) rfl)
      (pss_cons (ps_fld (pv 0) (pv 2) rfl)
      (pss_cons (ps_fld (pv 0) (pe_join pe_str (pe_callB ((call_sortedD rfl)) (by rfl) T.b_sorted B_sorted (pa_cons (pe_dc (own := [("one", 4), ("letter", 5), ("other", 6)]) rfl sc_Web_keep.nd (piT K (pv 2)) (blkOk_by (N := ["self", "points", "arrows", "steps", "one", "letter", "other", "key"]) (sc := defScope s_Web_keep) (by decide +kernel)) (fun _ _ _ _ _ => (pgT K (n := 3) rfl (pgs_cons (pg_name (i := 4) sc_Web_keep.nd rfl (.inl rfl)) (pgs_cons (pg_name (i := 5) sc_Web_keep.nd rfl (.inl rfl)) (pgs_cons (pg_name (i := 6) sc_Web_keep.nd rfl (.inl rfl)) pgs_nil))))) (fun _ _ _ _ _ => pts_nil) (fun _ _ _ _ _ => (pv 5)) (fun _ _ _ _ _ => pe_bl)) pa_nil))) rfl)
      (pss_cons (ps_set (i := 3) sc_Web_keep.nd rfl (.inr rfl) pe_new)
      (pss_cons (ps_for PassesOwn.never rfl (piT K (pv 2)) (pgT K (n := 3) rfl (pgs_cons (pg_name (i := 4) sc_Web_keep.nd rfl (.inl rfl)) (pgs_cons (pg_name (i := 5) sc_Web_keep.nd rfl (.inl rfl)) (pgs_cons (pg_name (i := 6) sc_Web_keep.nd rfl (.inl rfl)) pgs_nil))))
        (pss_one (ps_expr (pe_bm PySem.F.plainAttrs_list PySem.F.slot_list_append PySem.F.type_list_append mt_append (pe_nsetd hu (pv 3) (pe_tup (pa_cons (pv 4) (pa_cons (pv 5) pa_nil))) (pe_lst pa_nil) ⟨rfl, rfl, rfl, rfl⟩) (pa_cons (pv 6) pa_nil)))))
      (pss_one (ps_fld (pv 0) (pe_lock (pe_dcn (own := [("key", 7)]) hu rfl sc_Web_keep.nd (pi_keysN (pv 3)) (blkOk_by (N := ["self", "points", "arrows", "steps", "one", "letter", "other", "key"]) (sc := defScope s_Web_keep) (by decide +kernel)) (fun _ _ _ _ _ => (pg_name (i := 7) sc_Web_keep.nd rfl (.inl rfl))) (fun _ _ _ _ _ => pts_nil) (fun _ _ _ _ _ => (pv 7)) (fun _ _ _ _ _ => (pe_callTy (crTup K) (by rfl) T.b_tuple B_tuple (pa_cons (nget P w hu (pv 3) (pv 7) (fun _ _ => rfl)) pa_nil))))) rfl))))))), ?_⟩
    have hs := AR_small G
    refine ⟨_, rfl, _, rfl, x, CW, dx, _, rfl, hx, T.cl_Web, T.n_Web_points, by simp, ?_⟩
    refine ⟨_, rfl, _, rfl, x, CW, dx, _, rfl, upd_same, T.cl_Web, T.n_Web_arrows, by simp [putF], ?_⟩
    rw [upd_upd]
    have eB0 : ∀ o, But x H (upd H x o) := fun o => But.upd
    have nx : ∀ xs, H x ≠ some (.tup xs) := fun xs z => by rw [hx] at z; cases z
    generalize hH1 : upd H x (.ins CW dx (putF "arrows" (V.ref aa) (putF "points" (vI W.P) []))) = H1
    have hx1 : H1 x = some (.ins CW dx (putF "arrows" (V.ref aa) (putF "points" (vI W.P) []))) := by rw [← hH1, upd_same]
    have B1 : But x H H1 := by rw [← hH1]; exact But.upd
    clear hH1
    have hA1 : Arr H1 aa W.AR := hA.but B1 nx
    obtain ⟨as, ha, hp⟩ := id hA1
    have hl : as.length = W.AR.length := Paired.length hp
    have hS : SqT K H1 aa (as.map .ref) := SqT.of ha
    refine ⟨⟨_, rfl⟩, _, rfl, aa, rfl, ⟨_, hS⟩, fun D nD => dc_src (G := fun H2 => SqT K H2 aa (as.map .ref)) src_tup (fun i H2 => Same H1 H2 ∧ ∃ cs : List Nat, H2 D = some (.dK (mks kC cs)) ∧ cs.Nodup ∧ cs.length ≤ i ∧ ∀ c, c ∈ cs ↔ ∃ r ∈ W.AR.take i, r.2.1 = c) ?_ ?_ ?_ ?_⟩
    · exact ⟨same_new nD, [], upd_same, List.nodup_nil, Nat.le_refl _, by simp⟩
    · rintro i H2 _ ⟨sm, _⟩
      exact Same.tup sm hS
    · rintro i v H2 H' hi ⟨sm, cs, hD, nc, lc, mc⟩ ⟨rfl, hv⟩
      obtain ⟨b, r, rfl, hr1, hb⟩ := hp.get hv
      refine ⟨b, _, rfl, SqT.of (sm _ _ hb), rfl, _, _, rfl, _, _, rfl, _, _, rfl, rfl, ?_⟩
      refine ⟨rfl, yes_dc ?_⟩
      refine ⟨_, rfl, _, kC r.2.1, rfl, hD, by rw [mks, List.length_map]; rw [List.length_map] at hi; exact lt_line (by omega), ?_, ins cs r.2.1, by rw [upd_same, mks_put kC_inj], ins_nodup nc, Nat.le_trans (ins_len _ _) (by omega), fun c => ?_⟩
      · exact same_mut sm nD
      · rw [mem_ins, mc, take_next hr1]
        simp [eq_comm]
    rintro H2 ⟨sm, cs, hD, nc, lc, mc⟩
    rw [List.length_map, hl, List.take_length] at mc
    refine ⟨D, _, cs.map fun c => S [c], rfl, .inl hD, ?_, ?_, fun ys p hy hys np => ?_⟩
    · rw [mks, List.map_map, List.map_map]; rfl
    · rw [List.length_map]; rw [List.length_map] at lc; omega
    obtain ⟨cs2, hperm, rfl⟩ : ∃ cs2 : List Nat, cs2.Perm cs ∧ ys = cs2.map fun c => S [c] := perm_map (g := fun s => s.cps.toList.headD 0) (fun a => by rw [S_list]; rfl) hy
    have e2 : cs2 = signs W := by
      refine asc_eq (asc_of (sorted_asc hys) (hperm.nodup_iff.mpr nc)) signs_asc fun c => ?_
      rw [hperm.mem_iff, mc, mem_signs G]
    subst e2
    refine ⟨_, p, (signs W).map fun c => S [c], rfl, rfl, .inl (SqL.of upd_same), ?_, ?_⟩
    · have hl3 : (signs W).length ≤ 60 := by rw [hperm.length_eq]; rw [List.length_map] at lc; omega
      have e1 : (((signs W).map fun c => S [c]).map (·.length)).sum = (signs W).length := by
        rw [List.map_map]
        have : ((fun x : Str => x.length) ∘ fun c => S [c]) = fun _ => 1 := funext fun c => S_len [c]
        rw [this, List.map_const']
        simp
      have e2 : (Str.ofString "").length = 0 := rfl
      rw [e1, e2]
      omega
    have ej : Txt.join (Str.ofString "") ((signs W).map fun c => S [c]) = S (signs W) := by
      rw [TL.join_eq]; exact join_one _
    rw [ej]
    have hx2 : upd H2 p (.lst (((signs W).map fun c => S [c]).map V.str)) x = some (.ins CW dx (putF "arrows" (V.ref aa) (putF "points" (vI W.P) []))) := by
      rw [upd_ne (fun z => by have := sm _ _ hx1; rw [z, np] at this; cases this)]; exact sm _ _ hx1
    refine ⟨_, rfl, x, CW, dx, _, rfl, hx2, T.cl_Web, T.n_Web_kept_letters, Nat.lt_of_le_of_lt (putF_small (putF_small (Nat.le_refl _))) (by decide), ?_⟩
    have B2 : But x H1 (upd H2 p (.lst (((signs W).map fun c => S [c]).map V.str))) := Same.but (sm.trans (same_new np))
    generalize upd H2 p (.lst (((signs W).map fun c => S [c]).map V.str)) = H3 at hx2 B2 ⊢
    have B3 := B2.trans (But.upd (H := H3) (o := .ins CW dx (putF "kept_letters" (V.str (S (signs W))) (putF "arrows" (V.ref aa) (putF "points" (vI W.P) [])))))
    have hx4 : upd H3 x (.ins CW dx (putF "kept_letters" (V.str (S (signs W))) (putF "arrows" (V.ref aa) (putF "points" (vI W.P) [])))) x = some (.ins CW dx (putF "kept_letters" (V.str (S (signs W))) (putF "arrows" (V.ref aa) (putF "points" (vI W.P) [])))) := upd_same
    generalize upd H3 x (.ins CW dx (putF "kept_letters" (V.str (S (signs W))) (putF "arrows" (V.ref aa) (putF "points" (vI W.P) [])))) = H4 at hx4 B3 ⊢
    have nx1 : ∀ xs, H1 x ≠ some (.tup xs) := fun xs z => by rw [hx1] at z; cases z
    have hA4 : Arr H4 aa W.AR := hA1.but B3 nx1
    obtain ⟨as4, ha4, hp4⟩ := id hA4
    have hl4 : as4.length = W.AR.length := Paired.length hp4
    have hS4 : SqT K H4 aa (as4.map .ref) := SqT.of ha4
    intro d nd hNd
    have sm5 : Same H4 (upd H4 d (NdO P w d [])) := same_new nd
    refine ⟨_, rfl, aa, rfl, ⟨_, Same.tup sm5 hS4⟩, for_src (G := fun H2 => SqT K H2 aa (as4.map .ref)) src_tup (fun i σ H2 => ∃ (u1 u2 u3 : Option V) (ls : List ((Nat × Nat) × Addr × List Nat)), σ = [some (.ref x), some (vI W.P), some (.ref aa), some (.ref d), u1, u2, u3, none] ∧ DL H4 H2 ls ∧ Nd P w H2 d (rws fkW ls) ∧ ls.length ≤ i ∧ (∀ e ∈ ls, e.2.2.length ≤ i) ∧ ∀ j g, has ls j g ↔ (j.1, j.2, g) ∈ W.AR.take i) ?_ ?_ ?_ ?_⟩
    · exact ⟨none, none, none, [], rfl, .new sm5, hNd, Nat.le_refl _, fun _ h => by simp at h, fun j g => by simp [has]⟩
    · rintro i σ H2 _ ⟨_, _, _, _, _, D, _⟩
      exact Same.tup D.sm hS4
    · rintro i v σ H5 H6 hi ⟨u1, u2, u3, ls, rfl, D, hN, hli, hle, hm⟩ ⟨rfl, hv⟩
      obtain ⟨b, r, rfl, hr1, hb⟩ := hp4.get hv
      have hi60 : i < 60 := by rw [List.length_map] at hi; omega
      refine ⟨b, _, rfl, SqT.of (D.sm _ _ hb), rfl, _, _, rfl, _, _, rfl, _, _, rfl, rfl, ?_⟩
      refine ⟨_, rfl, d, rfl, ⟨_, hN.r⟩, _, rfl, _, rfl, le_line (by simp), fun kt nkt => ?_⟩
      have D1 : DL H4 (upd H6 kt (.tup [vI r.1, .str (S [r.2.1])])) ls := D.fresh nkt
      have hkt : upd H6 kt (.tup [vI r.1, .str (S [r.2.1])]) kt = some (.tup [vI r.1, .str (S [r.2.1])]) := upd_same
      have hN1 : Nd P w (upd H6 kt (.tup [vI r.1, .str (S [r.2.1])])) d (rws fkW ls) := hN.same (same_new nkt)
      refine ⟨le_line (by simp), fun l nl => ?_⟩
      generalize upd H6 kt (.tup [vI r.1, .str (S [r.2.1])]) = H7 at D1 hkt hN1 nl ⊢
      have D2 : DL H4 (upd H7 l (.lst [])) ls := D1.fresh nl
      have hN2 : Nd P w (upd H7 l (.lst [])) d (rws fkW ls) := hN1.same (same_new nl)
      have hkt2 : upd H7 l (.lst []) kt = some (.tup [vI r.1, .str (S [r.2.1])]) := same_new nl _ _ hkt
      have hl2 : upd H7 l (.lst []) l = some (.lst []) := upd_same
      have hn2 : ∀ e ∈ ls, e.2.1 ≠ l := fun e he z => by have := D1.at_ e he; rw [z, nl] at this; cases this
      have f0 : H4 l = none := D1.sm.free nl
      generalize upd H7 l (.lst []) = H8 at D2 hN2 hkt2 hl2 ⊢
      refine ⟨_, fkW (r.1, r.2.1), hN2, fkW_is hkt2, by rw [rws, List.length_map]; exact lt_line (by omega), fun v hv => ?_, fun hv o hNo => ?_⟩
      · obtain ⟨e, he, h1, rfl⟩ := rws_some fkW_inj hv
        have hel := hle e he
        refine ⟨.inl ⟨rfl, _, SqL.of (D2.at_ e he)⟩, _, rfl, e.2.1, _, _, rfl, rfl, D2.at_ e he, by rw [List.length_map]; exact lt_line (by omega), ?_⟩
        refine ⟨_, _, _, bump ls (r.1, r.2.1) r.2.2, rfl, by rw [← h1]; exact D2.old he r.2.2, ?_, ?_, fun e' he' => ?_, fun j g => ?_⟩
        · rw [rws_bump]
          exact hN2.upd (hN2.ne fun R z => by rw [D2.at_ e he] at z; cases z) fun xs z => by rw [D2.at_ e he] at z; cases z
        · rw [bump, List.length_map]; omega
        · obtain ⟨y, hy, z⟩ := List.mem_map.mp he'
          have := hle y hy
          by_cases q : y.1 = (r.1, r.2.1)
          · rw [if_pos q] at z; subst z
            show (y.2.2 ++ [r.2.2]).length ≤ _
            rw [List.length_append, List.length_singleton]; omega
          · rw [if_neg q] at z; subst z; omega
        · rw [has_bump (List.mem_map.mpr ⟨e, he, h1⟩), hm, take_next hr1]
          obtain ⟨j1, j2⟩ := j
          obtain ⟨r1, r2, r3⟩ := r
          simp [and_assoc]
      · have hk := rws_none hv
        obtain ⟨R, hR⟩ := hN2.some
        have dl : d ≠ l := fun z => by rw [z, hl2] at hR; cases hR
        have D3 : DL H4 (upd H8 d o) ls := D2.dict nd hR fun _ z => nomatch z
        have hl3 : upd H8 d o l = some (.lst []) := by rw [upd_ne (Ne.symm dl)]; exact hl2
        refine ⟨.inl ⟨rfl, _, SqL.of hl3⟩, _, rfl, l, [], vI r.2.2, rfl, rfl, hl3, lt_line (by simp), ?_⟩
        refine ⟨_, _, _, ls ++ [((r.1, r.2.1), l, [r.2.2])], rfl, (D3.put f0 hn2).snoc hk (by rw [upd_same]; rfl) f0 hn2, ?_, ?_, fun e' he' => ?_, fun j g => ?_⟩
        · rw [rws_snoc, ← putK_new _ hv]
          exact hNo.upd dl fun xs z => by rw [hl3] at z; cases z
        · rw [List.length_append, List.length_singleton]; omega
        · rcases List.mem_append.mp he' with he' | he'
          · have := hle e' he'; omega
          · have : e' = ((r.1, r.2.1), l, [r.2.2]) := by simpa using he'
            subst this
            show 1 ≤ i + 1
            omega
        · rw [has_snoc, hm, take_next hr1]
          obtain ⟨j1, j2⟩ := j
          obtain ⟨r1, r2, r3⟩ := r
          simp [and_assoc]
    · rintro σ H5 ⟨u1, u2, u3, ls, rfl, D, hN, hli, hle, hm⟩
      rw [List.length_map, hl4, List.take_length] at hm
      rw [List.length_map, hl4] at hli hle
      obtain ⟨L, hL1, hL2, hL3⟩ := id hN
      refine ⟨d, _, hL1, True.intro, fun od => ?_⟩
      have hF : NdF P w (upd H5 d (.frz od (NdO P w d L))) d od (rws fkW ls) := ⟨L, upd_same, hL2.mono fun b xs z => by
        rw [upd_ne (fun y => by rw [y, hL1] at z; cases z)]; exact z, hL3⟩
      have hLs : ∀ e ∈ ls, upd H5 d (.frz od (NdO P w d L)) e.2.1 = some (.lst (e.2.2.map vI)) := fun e he => by
        have := D.at_ e he
        rw [upd_ne (fun z => by rw [z, hL1] at this; cases this)]
        exact this
      have hLd : upd H5 d (.frz od (NdO P w d L)) d = some (.frz od (NdO P w d L)) := upd_same
      have un : ∀ H', Same (upd H5 d (.frz od (NdO P w d L))) H' → Same H5 (upd H' d (NdO P w d L)) := fun H' e => Same.unlock hL1 e
      generalize upd H5 d (.frz od (NdO P w d L)) = HL at hF hLs hLd un ⊢
      refine ⟨_, rfl, d, od, _, rfl, hF, fun D2 nD2 hNew => dcn_src (G := fun H => NdF P w H d od (rws fkW ls)) src_nd (fun i H => Same HL H ∧ ∃ T2, Nd P w H D2 T2 ∧ T2.length ≤ i ∧ (∀ e ∈ ls.take i, ∃ a, valV T2 (fkW e.1) = some (.ref a) ∧ H a = some (.tup (e.2.2.map vI))) ∧ (∀ k, k ∉ (ls.take i).map (·.1) → valV T2 (fkW k) = none)) ?_ ?_ ?_ ?_⟩
      · exact ⟨same_new nD2, [], hNew, Nat.le_refl _, fun e he => by simp at he, fun _ _ => rfl⟩
      · rintro i H2 _ ⟨sm, _⟩
        exact hF.same sm
      · rintro i v H6 H7 hi ⟨sm, T2, hN2, hT2, hin, hout⟩ ⟨rfl, k, v', hkv, hik⟩
        obtain ⟨e, he, rfl, rfl⟩ : ∃ e, ls[i]? = some e ∧ k = fkW e.1 ∧ v' = .ref e.2.1 := by
          unfold rws at hkv
          rw [List.getElem?_map] at hkv
          cases q0 : ls[i]? with
          | none => rw [q0] at hkv; cases hkv
          | some e =>
            rw [q0] at hkv
            have := Option.some.inj hkv
            exact ⟨e, rfl, (congrArg Prod.fst this).symm, (congrArg Prod.snd this).symm⟩
        have hem := List.mem_of_getElem? he
        refine ⟨rfl, yes_dc ?_⟩
        refine ⟨_, rfl, _, rfl, _, rfl, d, _, fkW e.1, .ref e.2.1, rfl, (hF.same sm).r, hik, rws_val fkW_inj D.nd hem, e.2.1, _, rfl, .inl ⟨SqL.of (sm _ _ (hLs e hem)), fun l nl => ?_⟩⟩
        have s2 : Same H7 (upd H7 l (.tup (e.2.2.map vI))) := same_new nl
        refine ⟨T2, fkW e.1, hik.same s2, hN2.same s2, lt_line (by rw [rws, List.length_map] at hi; omega), fun o hNo => ?_⟩
        obtain ⟨R, hR⟩ := (hN2.same s2).some
        have Dl : D2 ≠ l := fun z => by rw [z, upd_same] at hR; cases hR
        refine ⟨same_mut (sm.trans s2) nD2, _, hNo, Nat.le_trans (length_putK _ _ _) (by omega), fun e' he' => ?_, fun k hk => ?_⟩
        · rw [take_next he] at he'
          rw [valV_put]
          by_cases q0 : fkW e'.1 = fkW e.1
          · rw [if_pos q0]
            have hem' : e' ∈ ls := by
              rcases List.mem_append.mp he' with z | z
              · exact List.mem_of_mem_take z
              · rw [List.mem_singleton.mp z]; exact hem
            have := key_eq D.nd hem' hem (fkW_inj _ _ q0)
            subst this
            exact ⟨l, rfl, by rw [upd_ne (Ne.symm Dl), upd_same]⟩
          · rw [if_neg q0]
            rcases List.mem_append.mp he' with z | z
            · obtain ⟨a, h1, h2⟩ := hin e' z
              refine ⟨a, h1, ?_⟩
              have h3 := s2 _ _ h2
              rw [upd_ne (fun z => by rw [z, hR] at h3; cases h3)]
              exact h3
            · exact absurd (by rw [List.mem_singleton.mp z]) q0
        · rw [take_next he, List.map_append, List.mem_append, not_or] at hk
          rw [valV_put, if_neg (fun z => hk.2 (by rw [fkW_inj _ _ z]; simp)), hout k hk.1]
      · rintro H6 ⟨sm, T2, hN2, hT2, hin, hout⟩
        have hlr : (rws fkW ls).length = ls.length := by rw [rws, List.length_map]
        rw [hlr, List.take_length] at hin hout
        refine ⟨sm _ _ hLd, ?_⟩
        have s5 := D.sm.trans (un H6 sm)
        have nN2 : Nd P w (upd H6 d (NdO P w d L)) D2 T2 := hN2.upd (fun z => by rw [z, ] at nD2; rw [hLd] at nD2; cases nD2) fun xs z => by rw [sm _ _ hLd] at z; cases z
        refine ⟨_, rfl, x, CW, dx, _, rfl, s5 _ _ hx4, T.cl_Web, T.n_Web_kept_steps, Nat.lt_of_le_of_lt (putF_small (putF_small (putF_small (Nat.le_refl _)))) (by decide), ?_⟩
        have nx6 : ∀ xs, upd H6 d (NdO P w d L) x ≠ some (.tup xs) := fun xs z => by rw [s5 _ _ hx4] at z; cases z
        refine q _ ((B1.trans (B3.same s5)).trans But.upd) ⟨dx, _, aa, D2, T2, upd_same, fl_ne (fl_ne (fl_ne fl_eq)), fl_ne (fl_ne fl_eq), (hA4.same s5).but But.upd nx6, fl_ne fl_eq, fl_eq, nN2.upd (nN2.ne fun R z => by rw [s5 _ _ hx4] at z; cases z) nx6, fun p c => ?_⟩
        by_cases hk : (p, c) ∈ ls.map (·.1)
        · obtain ⟨e, he, e1⟩ := List.mem_map.mp hk
          obtain ⟨a, h1, h2⟩ := hin e he
          refine .inr ⟨a, e.2.2, by rw [← e1]; exact h1, ?_, fun g => ?_, by have := hle e he; omega⟩
          · have h3 : upd H6 d (NdO P w d L) a = some (.tup (e.2.2.map vI)) := by rw [upd_ne (fun z => by rw [z, sm _ _ hLd] at h2; cases h2)]; exact h2
            rw [upd_ne (fun z => nx6 _ (by rw [← z]; exact h3))]
            exact h3
          · rw [← hm (p, c) g]
            constructor
            · intro h; exact ⟨e, he, e1, h⟩
            · rintro ⟨e', he', e1', h⟩
              rw [key_eq D.nd he he' (e1.trans e1'.symm)]
              exact h
        · refine .inl ⟨hout _ hk, fun g hg => ?_⟩
          obtain ⟨e, he, e1, _⟩ := (hm (p, c) g).mpr hg
          exact hk (List.mem_map.mpr ⟨e, he, e1⟩)
def spWInit (P : Program) (w : World) (CW : Addr) : Sp := fun vs H Q _ => ∃ (x dx aa : Addr) (W : Web), vs = [.ref x, vI W.P, .ref aa] ∧ GoodW W ∧ H x = some (.ins CW dx []) ∧ Arr H aa W.AR ∧ ∀ H', But x H H' → WebAt P w CW H' x W → Q .non H'
theorem ok_Web_init (T : Txt K mg CW CB) : OkC P w K mg base CW 5 ["self", "points", "arrows"] (spWInit P w CW) := by
  have G_is_within := ok_is_within (P := P) (w := w) (base := base) T
  have G_are_arrows := ok_are_arrows (P := P) (w := w) (base := base) T
  have G_hangs := ok_hangs (P := P) (w := w) (base := base) T
  have G_Web_keep := ok_Web_keep (P := P) (w := w) (base := base) T
  refine T.d_Web_init.ok sc_Web_init (fun vs H Q E h => ?_) (fun f cdv A outer s H vs Q E hr h => ?_)
  · obtain ⟨x, dx, aa, W, rfl, _⟩ := h
    rfl
  · obtain ⟨x, dx, aa, W, rfl, G, hx, hA, q⟩ := h
    refine ⟨_, (pss_cons (ps_if (pt_not (pt_val (pk G_is_within hr (by decide) (by rfl) (pa_cons (pv 1) (pa_cons pe_int (pa_cons (pgi (by rfl) T.g_MOST_POINTS) pa_nil))))))
        (pss_one ps_never)
        pss_nil)
      (pss_cons (ps_if (pt_not (pt_val (pk G_are_arrows hr (by decide) (by rfl) (pa_cons (pv 2) (pa_cons (pv 1) pa_nil)))))
        (pss_one ps_never)
        pss_nil)
      (pss_cons (ps_if (pt_not (pt_val (pk G_hangs hr (by decide) (by rfl) (pa_cons (pv 1) (pa_cons (pv 2) pa_nil)))))
        (pss_one ps_never)
        pss_nil)
      (pss_one (ps_expr (mm T.cl_Web G_Web_keep hr (by decide) (pv 0) (pa_cons (pv 1) (pa_cons (pv 2) pa_nil)))))))), ?_⟩
    have p1 := G.p1
    have p4 := G.p4
    refine ⟨_, rfl, W.P, 1, 12, rfl, by omega, by omega, true, rfl, iteF ?_⟩
    refine ⟨_, rfl, _, rfl, aa, W, rfl, G, hA, fun H2 s2 => ⟨true, rfl, iteF ?_⟩⟩
    refine ⟨_, rfl, _, rfl, aa, W, rfl, G, hA.same s2, fun H3 s3 => ⟨true, rfl, iteF ?_⟩⟩
    have s13 := s2.trans s3
    refine ⟨_, rfl, x, dx, [], rfl, s13 _ _ hx, rfl, _, rfl, _, rfl, x, dx, aa, W, rfl, G, s13 _ _ hx, hA.same s13, fun H4 B hW => ?_⟩
    exact q H4 (fun b o n e => B b o n (s13 _ _ e)) hW
end
end Nj
set_option Elab.async false
set_option linter.all false
set_option maxRecDepth 100000
set_option maxHeartbeats 4000000
/-! Steps in a web. -/
namespace Nj
open PySem PySem.Spec PyProof.Rows L2
abbrev TupN (H : Hp) (p : Addr) (ns : List Nat) : Prop := H p = some (.tup (ns.map vI))
theorem rgV_nat (n : Nat) : rgV 0 (n : Int) = (List.range n).map vI := by
  unfold rgV
  rw [show ((n : Int) - 0).toNat = n by omega]
  exact List.map_congr_left fun i _ => by rw [Int.zero_add]
theorem stp_len {W : Web} (G : GoodW W) (ps : List Nat) (c : Nat) : (stp W ps c).length ≤ 4 := by
  have h : (stp W ps c).length ≤ (List.range W.P).length := List.length_filter_le _ _
  rw [List.length_range] at h
  exact Nat.le_trans h G.p4
theorem kN_inl (F : List Nat) : (mks kN F).map (·.1) = (F.map fun n : Nat => (n : Int)).map Sum.inl := by
  unfold mks
  rw [List.map_map, List.map_map]
  rfl
theorem endsF_cat {W : Web} (ps : List Nat) (t u : Tx) : endsF W ps (t ++ u) = endsF W (endsF W ps t) u := by
  unfold endsF
  rw [List.foldl_append]
theorem ends_len {W : Web} (G : GoodW W) (t : Tx) : (ends W t).length ≤ 4 := by
  rcases snoc_or t with e | ⟨u, c, e⟩
  · rw [e]
    show (List.range W.P).length ≤ 4
    rw [List.length_range]
    exact G.p4
  · rw [e, ends_snoc]
    exact stp_len G _ _
section
variable {P : Program} {w : World} {K : PySem.W.Frag} {mg : Str → Option Value} {base : Heap} {CW CB : Addr}
def spAllPoints (P : Program) (w : World) (CW : Addr) : Sp := fun vs H Q _ => ∃ (x : Addr) (W : Web), vs = [.ref x] ∧ GoodW W ∧ WebAt P w CW H x W ∧ ∀ H' p, Same H H' → TupN H' p (List.range W.P) → Q (.ref p) H'
theorem ok_all_points (T : Txt K mg CW CB) : Ok P w K mg base "all_points" 1 ["web"] (spAllPoints P w CW) := by
  refine T.d_all_points.ok sc_all_points (fun vs H Q E h => ?_) (fun f cdv A outer s H vs Q E hr h => ?_)
  · obtain ⟨x, W, rfl, _⟩ := h
    rfl
  · obtain ⟨x, W, rfl, G, hW, q⟩ := h
    refine ⟨_, (pss_one (ps_ret (pe_tupRg rfl (by rfl) T.b_tuple (prg_1 (by rfl) T.b_range (fld K (pv 0) rfl))))), ?_⟩
    obtain ⟨dx, fs, aa, sd, TT, hx, f1, f2, hA, f3, f4, hN, hS⟩ := hW
    have p4 := G.p4
    refine ⟨_, rfl, x, CW, dx, fs, _, rfl, hx, T.cl_Web, T.n_Web_points, f1, ?_⟩
    refine ⟨_, rfl, .of_le (by omega) (by omega) (by omega) (by omega), fun p np => q _ p (same_new np) ?_⟩
    rw [rgV_nat]
    exact upd_same
def spStepped (P : Program) (w : World) (CW : Addr) : Sp := fun vs H Q _ => ∃ (x a : Addr) (W : Web) (ps : List Nat) (c : Nat), vs = [.ref x, .ref a, .str (S [c])] ∧ GoodW W ∧ WebAt P w CW H x W ∧ TupN H a ps ∧ ps.length ≤ 100 ∧ ∀ H' p, Same H H' → TupN H' p (stp W ps c) → Q (.ref p) H'
theorem ok_stepped (T : Txt K mg CW CB) : Ok P w K mg base "stepped" 1 ["web", "points", "letter"] (spStepped P w CW) := by
  refine T.d_stepped.ok sc_stepped (fun vs H Q E h => ?_) (fun f cdv A outer s H vs Q E hr h => ?_)
  · obtain ⟨x, a, W, ps, c, rfl, _⟩ := h
    rfl
  · obtain ⟨x, a, W, ps, c, rfl, G, hW, ha, hl, q⟩ := h
    have hu : (A.deeper (envOfC "stepped" (defScope s_stepped) s.heap.objs.size f cdv)).units + 60 < cLine := by have := hr.un; omega
    have hu1 : (A.deeper (envOfC "stepped" (defScope s_stepped) s.heap.objs.size f cdv)).units + 1 < cLine := by have := hr.un; omega
    refine ⟨_, (pss_cons (ps_set (i := 3) sc_stepped.nd rfl (.inl rfl) pe_dnewK)
      (pss_cons (ps_for PassesOwn.never rfl (piT K (pv 1)) (pg_name (i := 4) sc_stepped.nd rfl (.inl rfl))
        (pss_one (ps_for PassesOwn.never rfl (piT K (pe_nget2 hu (fld K (pv 0) rfl) (pe_tup (pa_cons (pv 4) (pa_cons (pv 2) pa_nil))) (pe_tup pa_nil) ⟨rfl, rfl, rfl, rfl⟩)) (pg_name (i := 5) sc_stepped.nd rfl (.inl rfl))
          (pss_one (ps_dput hu1 (pv 3) (pv 5) pe_bl rfl)))))
      (pss_one (ps_ret (pe_callTy (crTup K) (by rfl) T.b_tuple B_tuple (pa_cons (pe_callB ((call_sortedDI rfl)) (by rfl) T.b_sorted B_sorted (pa_cons (pv 3) pa_nil)) pa_nil)))))), ?_⟩
    obtain ⟨dx, fs, aa, sd, TT, hx, f1, f2, hA, f3, f4, hN, hSt⟩ := hW
    have p4 := G.p4
    intro d nd
    have sm0 : Same H (upd H d (.dK [])) := same_new nd
    refine ⟨_, rfl, a, rfl, ⟨_, SqT.of (sm0 _ _ ha)⟩, for_src (G := fun H2 => SqT K H2 a (ps.map vI)) src_tup (fun i σ H2 => ∃ (u1 u2 : Option V) (F : List Nat), σ = [some (.ref x), some (.ref a), some (.str (S [c])), some (.ref d), u1, u2] ∧ Same H H2 ∧ H2 d = some (.dK (mks kN F)) ∧ F.Nodup ∧ ∀ g, g ∈ F ↔ ∃ o ∈ ps.take i, (o, c, g) ∈ W.AR) ?_ ?_ ?_ ?_⟩
    · exact ⟨none, none, [], rfl, sm0, upd_same, List.nodup_nil, by simp⟩
    · rintro i σ H2 _ ⟨_, _, _, _, sm, _⟩
      exact SqT.of (sm _ _ ha)
    · rintro i v σ H2 H3 hi ⟨u1, u2, F, rfl, sm, hd, nF, mF⟩ ⟨rfl, hv⟩
      obtain ⟨o, rfl, ho⟩ : ∃ o, v = vI o ∧ ps[i]? = some o := by
        rw [List.getElem?_map] at hv
        cases e : ps[i]? with
        | none => rw [e] at hv; cases hv
        | some g => rw [e] at hv; exact ⟨g, (Option.some.inj hv).symm, rfl⟩
      refine ⟨_, rfl, x, CW, dx, fs, _, rfl, sm _ _ hx, T.cl_Web, T.n_Web_kept_steps, f4, sd, rfl, ⟨_, (hN.same sm).r⟩, _, rfl, _, rfl, le_line (by simp), fun kt nkt => ⟨by simp, fun l nl => ?_⟩⟩
      have s2 := same_new (o := .tup [vI o, .str (S [c])]) nkt
      have s3 := same_new (o := .tup []) nl
      have hkt := s3 _ _ (show upd H3 kt (.tup [vI o, .str (S [c])]) kt = some (.tup [vI o, .str (S [c])]) from upd_same)
      have hll : upd (upd H3 kt (.tup [vI o, .str (S [c])])) l (.tup []) l = some (.tup []) := upd_same
      generalize upd (upd H3 kt (.tup [vI o, .str (S [c])])) l (.tup []) = H4 at s3 hkt hll ⊢
      have s23 := s2.trans s3
      have s4 := sm.trans s23
      refine ⟨TT, fkW (o, c), (hN.same s4).r, fkW_is hkt, ?_⟩
      obtain ⟨a2, gs, e1, e2, e3⟩ : ∃ (a2 : Addr) (gs : List Nat), (valV TT (fkW (o, c))).getD (.ref l) = .ref a2 ∧ TupN H4 a2 gs ∧ ∀ g, g ∈ gs ↔ (o, c, g) ∈ W.AR := by
        rcases hSt o c with ⟨h1, h2⟩ | ⟨a2, gs, h1, h2, h3, _⟩
        · exact ⟨l, [], by rw [h1]; rfl, hll, fun g => ⟨fun h => by simp at h, fun h => absurd h (h2 g)⟩⟩
        · exact ⟨a2, gs, by rw [h1]; rfl, s4 _ _ h2, h3⟩
      have hd4 := s23 _ _ hd
      refine ⟨a2, e1, ⟨_, SqT.of e2⟩, for_src (G := fun H2 => SqT K H2 a2 (gs.map vI)) src_tup (fun j σ H2 => ∃ (u1 u2 : Option V) (F : List Nat), σ = [some (.ref x), some (.ref a), some (.str (S [c])), some (.ref d), u1, u2] ∧ Same H H2 ∧ TupN H2 a2 gs ∧ H2 d = some (.dK (mks kN F)) ∧ F.Nodup ∧ ∀ g, g ∈ F ↔ (∃ o ∈ ps.take i, (o, c, g) ∈ W.AR) ∨ g ∈ gs.take j) ?_ ?_ ?_ ?_⟩
      · exact ⟨_, _, F, rfl, s4, e2, hd4, nF, fun g => by rw [mF]; simp⟩
      · rintro j σ H2 _ ⟨_, _, _, _, _, h, _⟩
        exact SqT.of h
      · rintro j v σ H5 H6 hj ⟨u1, u2, F, rfl, sm, h2, hd, nF, mF⟩ ⟨rfl, hv⟩
        obtain ⟨g, rfl, hg⟩ : ∃ o, v = vI o ∧ gs[j]? = some o := by
          rw [List.getElem?_map] at hv
          cases e : gs[j]? with
          | none => rw [e] at hv; cases hv
          | some g => rw [e] at hv; exact ⟨g, (Option.some.inj hv).symm, rfl⟩
        have lF : F.length ≤ 4 := by
          have h := nF.length_le_of_subset (l₂ := List.range W.P) fun z hz => by
            rcases (mF z).mp hz with ⟨o, _, h⟩ | h
            · exact List.mem_range.mpr (G.ran _ h).2.2
            · exact List.mem_range.mpr (G.ran _ ((e3 z).mp (List.mem_of_mem_take h))).2.2
          rw [List.length_range] at h
          omega
        refine ⟨_, rfl, _, rfl, d, _, rfl, DPut.k (k := kN g) hd (by rw [mks, List.length_map]; exact lt_line (by omega)), ?_⟩
        refine ⟨_, _, ins F g, rfl, same_mut sm nd, ?_, by rw [upd_same, mks_put kN_inj], ins_nodup nF, fun z => ?_⟩
        · show upd _ _ _ a2 = _
          have h2' : H6 a2 = some (.tup (gs.map vI)) := h2
          rw [upd_ne (fun z => by rw [z, hd] at h2'; cases h2')]; exact h2
        · rw [mem_ins, mF, take_next hg, List.mem_append, List.mem_singleton, or_assoc]
      · rintro σ H5 ⟨u1, u2, F, rfl, sm, h2, hd, nF, mF⟩
        rw [List.length_map, List.take_length] at mF
        refine ⟨_, _, F, rfl, sm, hd, nF, fun g => ?_⟩
        rw [mF, take_next ho, e3]
        constructor
        · rintro (⟨o', h1, h2⟩ | h)
          · exact ⟨o', by simp [h1], h2⟩
          · exact ⟨o, by simp, h⟩
        · rintro ⟨o', h1, h2⟩
          rcases List.mem_append.mp h1 with h1 | h1
          · exact .inl ⟨o', h1, h2⟩
          · rw [List.mem_singleton.mp h1] at h2; exact .inr h2
    · rintro σ H2 ⟨u1, u2, F, rfl, sm, hd, nF, mF⟩
      rw [List.length_map, List.take_length] at mF
      have mF2 : ∀ g, g ∈ F ↔ g ∈ stp W ps c := fun g => by
        rw [mF, mem_stp]
        constructor
        · rintro ⟨o, h1, h2⟩
          exact ⟨(G.ran _ h2).2.2, o, h1, h2⟩
        · rintro ⟨_, o, h1, h2⟩
          exact ⟨o, h1, h2⟩
      have lF : F.length ≤ 4 := by
        have h := nF.length_le_of_subset (l₂ := stp W ps c) fun z hz => (mF2 z).mp hz
        exact Nat.le_trans h (stp_len G ps c)
      refine ⟨_, rfl, d, _, F.map fun n : Nat => (n : Int), rfl, .inl hd, kN_inl F, by rw [List.length_map]; omega, fun ys p hy hys np => ?_⟩
      obtain ⟨F2, hperm, rfl⟩ : ∃ F2 : List Nat, F2.Perm F ∧ ys = F2.map fun n : Nat => (n : Int) := perm_map (g := Int.toNat) (fun a => by simp) hy
      have e2 : F2 = stp W ps c := by
        refine asc_eq (asc_of ?_ (hperm.nodup_iff.mpr nF)) (stp_asc ps c) fun g => by rw [hperm.mem_iff, mF2]
        rw [List.pairwise_map] at hys
        exact hys.imp fun {a b} h => by omega
      subst e2
      refine ⟨p, _, rfl, .inl ⟨SqL.of upd_same, fun l nl => q _ l (sm.trans ((same_new np).trans (same_new nl))) ?_⟩⟩
      show upd _ l _ l = _
      rw [upd_same, List.map_map]
      rfl
def spEndsFrom (P : Program) (w : World) (CW : Addr) : Sp := fun vs H Q _ => ∃ (x a : Addr) (W : Web) (ps : List Nat) (t : Tx), vs = [.ref x, .ref a, .str (S t)] ∧ GoodW W ∧ WebAt P w CW H x W ∧ TupN H a ps ∧ ps.length ≤ 100 ∧ ∀ H' p, Same H H' → TupN H' p (endsF W ps t) → Q (.ref p) H'
theorem ok_ends_from (T : Txt K mg CW CB) : Ok P w K mg base "ends_from" 2 ["web", "points", "text"] (spEndsFrom P w CW) := by
  have G_stepped := ok_stepped (P := P) (w := w) (base := base) T
  refine T.d_ends_from.ok sc_ends_from (fun vs H Q E h => ?_) (fun f cdv A outer s H vs Q E hr h => ?_)
  · obtain ⟨x, a, W, ps, c, rfl, _⟩ := h
    rfl
  · obtain ⟨x, a, W, ps, t, rfl, G, hW, ha, hl, q⟩ := h
    refine ⟨_, (pss_cons (ps_for PassesOwn.never rfl (pi_str (pv 2)) (pg_name (i := 3) sc_ends_from.nd rfl (.inl rfl))
        (pss_cons (ps_if (pt_cmpR op_eq (pe_callB (crLen K) (by rfl) T.b_len B_len (pa_cons (pv 1) pa_nil)) pe_int (nomark _))
          (pss_one ps_break)
          pss_nil)
        (pss_one (ps_set (i := 1) sc_ends_from.nd rfl (.inl rfl) (pk G_stepped hr (by decide) (by rfl) (pa_cons (pv 0) (pa_cons (pv 1) (pa_cons (pv 3) pa_nil))))))))
      (pss_one (ps_ret (pv 1)))), ?_⟩
    refine ⟨_, rfl, S t, rfl, for_src (G := fun _ => True) src_str (fun i σ H2 => ∃ (u : Option V) (a2 : Addr), σ = [some (.ref x), some (.ref a2), some (.str (S t)), u] ∧ Same H H2 ∧ TupN H2 a2 (endsF W ps (t.take i)) ∧ (endsF W ps (t.take i)).length ≤ 100) ?_ ?_ ?_ ?_⟩
    · exact ⟨none, a, rfl, Same.refl _, ha, hl⟩
    · intros; trivial
    · rintro i v σ H2 H3 hi ⟨u, a2, rfl, sm, h2, l2⟩ ⟨rfl, c, hc, rfl⟩
      refine ⟨_, rfl, a2, _, rfl, .inr (SqT.of h2), rfl, ?_⟩
      by_cases h0 : endsF W ps (t.take i) = []
      · rw [h0] at h2 ⊢
        refine ⟨_, rfl, iteT ?_⟩
        refine ⟨_, rfl, q H3 a2 sm ?_⟩
        have e : endsF W ps t = [] := by
          have := endsF_cat (W := W) ps (t.take i) (t.drop i)
          rw [List.take_append_drop, h0, endsF_nil] at this
          exact this
        rw [e]
        exact h2
      · have : ¬ ((endsF W ps (t.take i)).map vI).length = 0 := fun z => h0 (List.length_eq_zero_iff.mp (by rw [List.length_map] at z; exact z))
        refine ⟨false, ?_, iteF ?_⟩
        · congr 1
          rw [decide_eq_false]
          intro z
          have := V.int.inj z
          omega
        refine ⟨_, rfl, _, rfl, _, rfl, x, a2, W, _, c, rfl, G, hW.same sm, h2, l2, fun H4 p s4 hp => ?_⟩
        refine ⟨_, p, rfl, sm.trans s4, ?_⟩
        rw [take_next hc, endsF_snoc]
        exact ⟨hp, Nat.le_trans (stp_len G _ _) (by decide)⟩
    · rintro σ H2 ⟨u, a2, rfl, sm, h2, _⟩
      rw [List.take_length] at h2
      exact ⟨_, rfl, q H2 a2 sm h2⟩
def spEndsOf (P : Program) (w : World) (CW : Addr) : Sp := fun vs H Q _ => ∃ (x : Addr) (W : Web) (t : Tx), vs = [.ref x, .str (S t)] ∧ GoodW W ∧ WebAt P w CW H x W ∧ ∀ H' p, Same H H' → TupN H' p (ends W t) → Q (.ref p) H'
theorem ok_ends_of (T : Txt K mg CW CB) : Ok P w K mg base "ends_of" 3 ["web", "text"] (spEndsOf P w CW) := by
  have G_ends_from := ok_ends_from (P := P) (w := w) (base := base) T
  have G_all_points := ok_all_points (P := P) (w := w) (base := base) T
  refine T.d_ends_of.ok sc_ends_of (fun vs H Q E h => ?_) (fun f cdv A outer s H vs Q E hr h => ?_)
  · obtain ⟨x, W, t, rfl, _⟩ := h
    rfl
  · obtain ⟨x, W, t, rfl, G, hW, q⟩ := h
    refine ⟨_, (pss_one (ps_ret (pk G_ends_from hr (by decide) (by rfl) (pa_cons (pv 0) (pa_cons (pk G_all_points hr (by decide) (by rfl) (pa_cons (pv 0) pa_nil)) (pa_cons (pv 1) pa_nil)))))), ?_⟩
    have p4 := G.p4
    refine ⟨_, rfl, _, rfl, x, W, rfl, G, hW, fun H2 p s2 hp => ⟨_, rfl, x, p, W, _, t, rfl, G, hW.same s2, hp, by rw [List.length_range]; omega, fun H3 p3 s3 hp3 => q H3 p3 (s2.trans s3) hp3⟩⟩
def spStretchThere (P : Program) (w : World) (CW : Addr) : Sp := fun vs H Q _ => ∃ (x : Addr) (W : Web) (t : Tx), vs = [.ref x, .str (S t)] ∧ GoodW W ∧ WebAt P w CW H x W ∧ FW W t ∧ ∀ H', Same H H' → Q (.bl true) H'
theorem ok_stretch_there (T : Txt K mg CW CB) : Ok P w K mg base "stretch_there" 4 ["web", "text"] (spStretchThere P w CW) := by
  have G_ends_of := ok_ends_of (P := P) (w := w) (base := base) T
  refine T.d_stretch_there.ok sc_stretch_there (fun vs H Q E h => ?_) (fun f cdv A outer s H vs Q E hr h => ?_)
  · obtain ⟨x, W, t, rfl, _⟩ := h
    rfl
  · obtain ⟨x, W, t, rfl, G, hW, hF, q⟩ := h
    refine ⟨_, (pss_one (ps_ret (pe_cmpR op_gt (pe_callB (crLen K) (by rfl) T.b_len B_len (pa_cons (pk G_ends_of hr (by decide) (by rfl) (pa_cons (pv 0) (pa_cons (pv 1) pa_nil))) pa_nil)) pe_int (nomark _)))), ?_⟩
    refine ⟨_, rfl, _, rfl, x, W, t, rfl, G, hW, fun H2 p s2 hp => ⟨p, _, rfl, .inr (SqT.of hp), _, _, rfl, rfl, ?_⟩⟩
    have := (FW_iff t).mp hF
    show Q (V.bl (decide ((0 : Int) < _))) _
    rw [decide_eq_true (by rw [List.length_map]; omega)]
    exact q H2 s2
end
end Nj
set_option Elab.async false
set_option linter.all false
set_option maxRecDepth 100000
set_option maxHeartbeats 4000000
/-! Books. -/
namespace Nj
open PySem PySem.Spec PyProof.Rows L2
abbrev vS (t : Tx) : V := .str (S t)
abbrev TupS (H : Hp) (p : Addr) (ws : List Tx) : Prop := H p = some (.tup (ws.map vS))
theorem S_empty : Str.ofString "" = S [] := rfl
/-! cuts -/
theorem cut_by {t : Tx} {lo hi : Option Int} {a b : Nat} (h1 : HT.sIx t.length 0 lo = a) (h2 : HT.sIx t.length t.length hi = b) : cutS (S t) lo hi = S ((t.drop a).take (b - a)) := by
  unfold cutS
  rw [S_len, h1, h2, S_list]
  rfl
theorem cut_take (t : Tx) (n : Nat) : cutS (S t) Option.none (Option.some (n : Int)) = S (t.take n) := by
  rw [cut_by (HT.sIx_none _ _) (HT.sIx_nat _ _ _), List.drop_zero, Nat.sub_zero]
  by_cases h : n ≤ t.length
  · rw [Nat.min_eq_left h]
  · rw [Nat.min_eq_right (by omega), List.take_of_length_le (Nat.le_refl _), List.take_of_length_le (by omega)]
theorem cut_drop (t : Tx) (n : Nat) : cutS (S t) (Option.some (n : Int)) Option.none = S (t.drop n) := by
  rw [cut_by (HT.sIx_nat _ _ _) (HT.sIx_none _ _)]
  by_cases h : n ≤ t.length
  · rw [Nat.min_eq_left h, List.take_of_length_le (by rw [List.length_drop]; omega)]
  · rw [Nat.min_eq_right (by omega), List.drop_of_length_le (Nat.le_refl _), List.drop_of_length_le (by omega), List.take_nil]
theorem get_vS {ws : List Tx} {i : Nat} {v : V} (h : (ws.map vS)[i]? = Option.some v) : ∃ t, v = vS t ∧ ws[i]? = Option.some t := by
  rw [List.getElem?_map] at h
  cases e : ws[i]? with
  | none => rw [e] at h; cases h
  | some g => rw [e] at h; exact ⟨g, (Option.some.inj h).symm, rfl⟩
section
variable {P : Program} {w : World} {K : PySem.W.Frag} {mg : Str → Option Value} {base : Heap} {CW CB : Addr}
def spBegin (r : Tx → Nat → Tx) : Sp := fun vs H Q _ => ∃ (a : Addr) (ws : List Tx), vs = [.ref a] ∧ TupS H a ws ∧ ws.length ≤ 400 ∧ (∀ u ∈ ws, u.length ≤ 10) ∧
  ∀ H' d F, Same H H' → H' d = some (.dK (mks kS F)) → (∀ u, u ∈ F ↔ u = [] ∨ ∃ t ∈ ws, ∃ n, 1 ≤ n ∧ n < t.length ∧ u = r t n) → Q (.ref d) H'
theorem ok_beginnings (T : Txt K mg CW CB) : Ok P w K mg base "beginnings" 1 ["texts"] (spBegin fun t n => t.take n) := by
  refine T.d_beginnings.ok sc_beginnings (fun vs H Q E h => ?_) (fun f cdv A outer s H vs Q E hr h => ?_)
  · obtain ⟨a, ws, rfl, _⟩ := h
    rfl
  · obtain ⟨a, ws, rfl, ha, l4, l10, q⟩ := h
    have hu1 : (A.deeper (envOfC "beginnings" (defScope s_beginnings) s.heap.objs.size f cdv)).units + 1 < cLine := by have := hr.un; omega
    refine ⟨_, (pss_cons (ps_set (i := 1) sc_beginnings.nd rfl (.inl rfl) (pe_disp (pps_cons pe_str pe_bl pps_nil) (by rfl) (by rfl) (fun z => by cases z) (by decide)))
      (pss_cons (ps_for PassesOwn.never rfl (piT K (pv 0)) (pg_name (i := 2) sc_beginnings.nd rfl (.inl rfl))
        (pss_one (ps_for PassesOwn.never rfl (pi_range2 (by rfl) T.b_range (pa_cons pe_int (pa_cons (pe_callB call_len_str (by rfl) T.b_len B_len (pa_cons (pv 2) pa_nil)) pa_nil))) (pg_name (i := 3) sc_beginnings.nd rfl (.inl rfl))
          (pss_one (ps_dput hu1 (pv 1) (pe_slice sl_str (pv 2) po_none (po_some (pv 3))) pe_bl rfl)))))
      (pss_one (ps_ret (pv 1))))), ?_⟩
    intro d nd
    refine ⟨upd_same, [(kS [], .bl true)], rfl, by simp, ?_⟩
    have sm0 : Same H (upd (upd H d (.dK [])) d (.dK (mergeK [] [(kS [], .bl true)]))) := by rw [upd_upd]; exact same_new nd
    refine ⟨_, rfl, a, rfl, ⟨_, SqT.of (sm0 _ _ ha)⟩, for_src (G := fun H2 => SqT K H2 a (ws.map vS)) src_tup (fun i σ H2 => ∃ (u1 u2 : Option V) (F : List Tx), σ = [some (.ref a), some (.ref d), u1, u2] ∧ Same H H2 ∧ H2 d = some (.dK (mks kS F)) ∧ F.length ≤ 1 + 10 * i ∧ ∀ u, u ∈ F ↔ u = [] ∨ ∃ t ∈ ws.take i, ∃ n, 1 ≤ n ∧ n < t.length ∧ u = t.take n) ?_ ?_ ?_ ?_⟩
    · exact ⟨none, none, [[]], rfl, sm0, upd_same, by simp, by simp⟩
    · rintro i σ H2 _ ⟨_, _, _, _, sm, _⟩
      exact SqT.of (sm _ _ ha)
    · rintro i v σ H2 H3 hi ⟨u1, u2, F, rfl, sm, hd, lF, mF⟩ ⟨rfl, hv⟩
      obtain ⟨t, rfl, ht⟩ := get_vS hv
      have ht10 := l10 t (List.mem_of_getElem? ht)
      rw [List.length_map] at hi
      refine ⟨_, rfl, S t, rfl, by rw [S_len]; exact le_line (by omega), 1, t.length, by rw [S_len], ⟨by omega, by omega, by omega, by omega⟩, for_src src_rng (fun j σ H2 => ∃ (u1 u2 : Option V) (F : List Tx), σ = [some (.ref a), some (.ref d), some (vS t), u2] ∧ Same H H2 ∧ H2 d = some (.dK (mks kS F)) ∧ F.length ≤ 1 + 10 * i + j ∧ ∀ u, u ∈ F ↔ (u = [] ∨ ∃ t ∈ ws.take i, ∃ n, 1 ≤ n ∧ n < t.length ∧ u = t.take n) ∨ ∃ n, 1 ≤ n ∧ n < 1 + j ∧ u = t.take n) ?_ ?_ ?_ ?_⟩
      · exact ⟨none, _, F, rfl, sm, hd, by omega, fun u => by rw [mF]; constructor; · exact .inl
                                                              · rintro (h | ⟨n, h1, h2, _⟩)
                                                                · exact h
                                                                · omega⟩
      · intros; trivial
      · rintro j v σ H4 H5 hj ⟨u1, u2, F, rfl, sm, hd, lF, mF⟩ ⟨rfl, rfl⟩
        have e : cutS (S t) Option.none (Option.some (1 + (j : Int))) = S (t.take (1 + j)) := by
          rw [show (1 + (j : Int)) = ((1 + j : Nat) : Int) by omega]
          exact cut_take t (1 + j)
        refine ⟨_, rfl, _, rfl, _, rfl, _, rfl, S t, rfl, by rw [S_len]; exact le_line (by omega), d, upd H5 d (.dK (putK (mks kS F) (kS (t.take (1 + j))) (.bl true))), rfl, ?_, ?_⟩
        · rw [e]
          exact DPut.k (k := kS (t.take (1 + j))) hd (by rw [mks, List.length_map]; exact lt_line (by omega))
        · refine ⟨none, _, ins F (t.take (1 + j)), rfl, same_mut sm nd, by rw [upd_same, mks_put kS_inj], Nat.le_trans (ins_len _ _) (by omega), fun u => ?_⟩
          rw [mem_ins, mF, or_assoc]
          refine or_congr Iff.rfl ⟨?_, ?_⟩
          · rintro (⟨n, h1, h2, h3⟩ | h)
            · exact ⟨n, h1, by omega, h3⟩
            · exact ⟨1 + j, by omega, by omega, h⟩
          · rintro ⟨n, h1, h2, h3⟩
            by_cases e : n = 1 + j
            · exact .inr (by rw [h3, e])
            · exact .inl ⟨n, h1, by omega, h3⟩
      · rintro σ H4 ⟨u1, u2, F, rfl, sm, hd, lF, mF⟩
        have hj : ((t.length : Int) - 1).toNat = t.length - 1 := by omega
        rw [hj] at lF mF
        refine ⟨_, _, F, rfl, sm, hd, by omega, fun u => ?_⟩
        rw [mF, take_next ht, or_assoc]
        refine or_congr Iff.rfl ⟨?_, ?_⟩
        · rintro (⟨t', h1, h2⟩ | ⟨n, h1, h2, h3⟩)
          · exact ⟨t', by simp [h1], h2⟩
          · exact ⟨t, by simp, n, h1, by omega, h3⟩
        · rintro ⟨t', h1, n, h2, h3, h4⟩
          rcases List.mem_append.mp h1 with h1 | h1
          · exact .inl ⟨t', h1, n, h2, h3, h4⟩
          · rw [List.mem_singleton.mp h1] at h3 h4
            exact .inr ⟨n, h2, by omega, h4⟩
    · rintro σ H2 ⟨u1, u2, F, rfl, sm, hd, lF, mF⟩
      rw [List.length_map, List.take_length] at mF
      exact ⟨_, rfl, q H2 d F sm hd mF⟩
theorem ok_endings (T : Txt K mg CW CB) : Ok P w K mg base "endings" 1 ["texts"] (spBegin fun t n => t.drop n) := by
  refine T.d_endings.ok sc_endings (fun vs H Q E h => ?_) (fun f cdv A outer s H vs Q E hr h => ?_)
  · obtain ⟨a, ws, rfl, _⟩ := h
    rfl
  · obtain ⟨a, ws, rfl, ha, l4, l10, q⟩ := h
    have hu1 : (A.deeper (envOfC "endings" (defScope s_endings) s.heap.objs.size f cdv)).units + 1 < cLine := by have := hr.un; omega
    refine ⟨_, (pss_cons (ps_set (i := 1) sc_endings.nd rfl (.inl rfl) (pe_disp (pps_cons pe_str pe_bl pps_nil) (by rfl) (by rfl) (fun z => by cases z) (by decide)))
      (pss_cons (ps_for PassesOwn.never rfl (piT K (pv 0)) (pg_name (i := 2) sc_endings.nd rfl (.inl rfl))
        (pss_one (ps_for PassesOwn.never rfl (pi_range2 (by rfl) T.b_range (pa_cons pe_int (pa_cons (pe_callB call_len_str (by rfl) T.b_len B_len (pa_cons (pv 2) pa_nil)) pa_nil))) (pg_name (i := 3) sc_endings.nd rfl (.inl rfl))
          (pss_one (ps_dput hu1 (pv 1) (pe_slice sl_str (pv 2) (po_some (pv 3)) po_none) pe_bl rfl)))))
      (pss_one (ps_ret (pv 1))))), ?_⟩
    intro d nd
    refine ⟨upd_same, [(kS [], .bl true)], rfl, by simp, ?_⟩
    have sm0 : Same H (upd (upd H d (.dK [])) d (.dK (mergeK [] [(kS [], .bl true)]))) := by rw [upd_upd]; exact same_new nd
    refine ⟨_, rfl, a, rfl, ⟨_, SqT.of (sm0 _ _ ha)⟩, for_src (G := fun H2 => SqT K H2 a (ws.map vS)) src_tup (fun i σ H2 => ∃ (u1 u2 : Option V) (F : List Tx), σ = [some (.ref a), some (.ref d), u1, u2] ∧ Same H H2 ∧ H2 d = some (.dK (mks kS F)) ∧ F.length ≤ 1 + 10 * i ∧ ∀ u, u ∈ F ↔ u = [] ∨ ∃ t ∈ ws.take i, ∃ n, 1 ≤ n ∧ n < t.length ∧ u = t.drop n) ?_ ?_ ?_ ?_⟩
    · exact ⟨none, none, [[]], rfl, sm0, upd_same, by simp, by simp⟩
    · rintro i σ H2 _ ⟨_, _, _, _, sm, _⟩
      exact SqT.of (sm _ _ ha)
    · rintro i v σ H2 H3 hi ⟨u1, u2, F, rfl, sm, hd, lF, mF⟩ ⟨rfl, hv⟩
      obtain ⟨t, rfl, ht⟩ := get_vS hv
      have ht10 := l10 t (List.mem_of_getElem? ht)
      rw [List.length_map] at hi
      refine ⟨_, rfl, S t, rfl, by rw [S_len]; exact le_line (by omega), 1, t.length, by rw [S_len], ⟨by omega, by omega, by omega, by omega⟩, for_src src_rng (fun j σ H2 => ∃ (u1 u2 : Option V) (F : List Tx), σ = [some (.ref a), some (.ref d), some (vS t), u2] ∧ Same H H2 ∧ H2 d = some (.dK (mks kS F)) ∧ F.length ≤ 1 + 10 * i + j ∧ ∀ u, u ∈ F ↔ (u = [] ∨ ∃ t ∈ ws.take i, ∃ n, 1 ≤ n ∧ n < t.length ∧ u = t.drop n) ∨ ∃ n, 1 ≤ n ∧ n < 1 + j ∧ u = t.drop n) ?_ ?_ ?_ ?_⟩
      · exact ⟨none, _, F, rfl, sm, hd, by omega, fun u => by rw [mF]; constructor; · exact .inl
                                                              · rintro (h | ⟨n, h1, h2, _⟩)
                                                                · exact h
                                                                · omega⟩
      · intros; trivial
      · rintro j v σ H4 H5 hj ⟨u1, u2, F, rfl, sm, hd, lF, mF⟩ ⟨rfl, rfl⟩
        have e : cutS (S t) (Option.some (1 + (j : Int))) Option.none = S (t.drop (1 + j)) := by
          rw [show (1 + (j : Int)) = ((1 + j : Nat) : Int) by omega]
          exact cut_drop t (1 + j)
        refine ⟨_, rfl, _, rfl, _, rfl, _, rfl, S t, rfl, by rw [S_len]; exact le_line (by omega), d, upd H5 d (.dK (putK (mks kS F) (kS (t.drop (1 + j))) (.bl true))), rfl, ?_, ?_⟩
        · rw [e]
          exact DPut.k (k := kS (t.drop (1 + j))) hd (by rw [mks, List.length_map]; exact lt_line (by omega))
        · refine ⟨none, _, ins F (t.drop (1 + j)), rfl, same_mut sm nd, by rw [upd_same, mks_put kS_inj], Nat.le_trans (ins_len _ _) (by omega), fun u => ?_⟩
          rw [mem_ins, mF, or_assoc]
          refine or_congr Iff.rfl ⟨?_, ?_⟩
          · rintro (⟨n, h1, h2, h3⟩ | h)
            · exact ⟨n, h1, by omega, h3⟩
            · exact ⟨1 + j, by omega, by omega, h⟩
          · rintro ⟨n, h1, h2, h3⟩
            by_cases e : n = 1 + j
            · exact .inr (by rw [h3, e])
            · exact .inl ⟨n, h1, by omega, h3⟩
      · rintro σ H4 ⟨u1, u2, F, rfl, sm, hd, lF, mF⟩
        have hj : ((t.length : Int) - 1).toNat = t.length - 1 := by omega
        rw [hj] at lF mF
        refine ⟨_, _, F, rfl, sm, hd, by omega, fun u => ?_⟩
        rw [mF, take_next ht, or_assoc]
        refine or_congr Iff.rfl ⟨?_, ?_⟩
        · rintro (⟨t', h1, h2⟩ | ⟨n, h1, h2, h3⟩)
          · exact ⟨t', by simp [h1], h2⟩
          · exact ⟨t, by simp, n, h1, by omega, h3⟩
        · rintro ⟨t', h1, n, h2, h3, h4⟩
          rcases List.mem_append.mp h1 with h1 | h1
          · exact .inl ⟨t', h1, n, h2, h3, h4⟩
          · rw [List.mem_singleton.mp h1] at h3 h4
            exact .inr ⟨n, h2, by omega, h4⟩
    · rintro σ H2 ⟨u1, u2, F, rfl, sm, hd, lF, mF⟩
      rw [List.length_map, List.take_length] at mF
      exact ⟨_, rfl, q H2 d F sm hd mF⟩
def spClash : Sp := fun vs H Q _ => ∃ (a : Addr) (W : Web) (ws : List Tx), vs = [.ref a] ∧ TupS H a ws ∧ BookOk W ws ∧ ∀ H', Same H H' → Q .non H'
theorem ins_take {ws : List Tx} (n : ws.Nodup) {i : Nat} {t : Tx} (h : ws[i]? = Option.some t) : ins (ws.take i) t = ws.take (i + 1) := by
  unfold ins
  rw [take_next h, if_neg]
  intro z
  obtain ⟨hi, e⟩ := List.getElem?_eq_some_iff.mp h
  obtain ⟨j, hj, e2⟩ := List.mem_iff_getElem.mp z
  rw [List.getElem_take] at e2
  have hj' : j < i := by rw [List.length_take] at hj; omega
  have := (List.pairwise_iff_getElem.mp n) j i (by omega) hi hj'
  exact this (e2.trans e.symm)
theorem made_no {α : Type} (n : Nat) (f : Nat → α) : made n (fun _ => false) f = [] := by simp [made]
theorem ok_clash_of (T : Txt K mg CW CB) : Ok P w K mg base "clash_of" 1 ["texts"] spClash := by
  refine T.d_clash_of.ok sc_clash_of (fun vs H Q E h => ?_) (fun f cdv A outer s H vs Q E hr h => ?_)
  · obtain ⟨a, W, ws, rfl, _⟩ := h
    rfl
  · obtain ⟨a, W, ws, rfl, ha, B, q⟩ := h
    have hu1 : (A.deeper (envOfC "clash_of" (defScope s_clash_of) s.heap.objs.size f cdv)).units + 1 < cLine := by have := hr.un; omega
    have l4 := B.n400
    refine ⟨_, (pss_cons (ps_set (i := 1) sc_clash_of.nd rfl (.inr rfl) (pe_dc (own := [("text", 3)]) rfl sc_clash_of.nd (piT K (pv 0)) (blkOk_by (N := ["texts", "known", "found", "text", "size", "part"]) (sc := defScope s_clash_of) (by decide +kernel)) (fun _ _ _ _ _ => (pg_name (i := 3) sc_clash_of.nd rfl (.inl rfl))) (fun _ _ _ _ _ => pts_nil) (fun _ _ _ _ _ => (pv 3)) (fun _ _ _ _ _ => pe_bl)))
      (pss_cons (ps_set (i := 2) sc_clash_of.nd rfl (.inl rfl) (pe_lst pa_nil))
      (pss_cons (ps_lock (ps_for PassesOwn.never rfl (pi_keys (pv 1)) (pg_name (i := 3) sc_clash_of.nd rfl (.inr rfl))
        (pss_one (ps_for PassesOwn.never rfl (pi_range2 (by rfl) T.b_range (pa_cons pe_int (pa_cons (pe_callB call_len_str (by rfl) T.b_len B_len (pa_cons (pv 3) pa_nil)) pa_nil))) (pg_name (i := 4) sc_clash_of.nd rfl (.inl rfl))
          (pss_one (ps_expr (pe_bm PySem.F.plainAttrs_list PySem.F.slot_list_extend PySem.F.type_list_extend mt_extend (pv 2) (pa_cons (pe_lc (own := [("part", 5)]) rfl sc_clash_of.nd (piT K (pe_tup (pa_cons (pe_slice sl_str (pv 3) po_none (po_some (pv 4))) (pa_cons (pe_slice sl_str (pv 3) (po_some (pv 4)) po_none) pa_nil)))) (blkOk_by (N := ["texts", "known", "found", "text", "size", "part"]) (sc := defScope s_clash_of) (by decide +kernel)) (fun _ _ _ _ _ => (pg_name (i := 5) sc_clash_of.nd rfl (.inl rfl))) (fun _ _ _ _ _ => (pts_one (pt_cmp (pc_din hu1 (pv 5) (pv 1))))) (fun _ _ _ _ _ => (pe_tup (pa_cons (pv 5) (pa_cons (pv 3) pa_nil))))) pa_nil))))))))
      (pss_one (ps_ret (pe_ifExp (pt_cmpR op_gt (pe_callB (crLen K) (by rfl) T.b_len B_len (pa_cons (pv 2) pa_nil)) pe_int (nomark _)) pe_never pe_non)))))), ?_⟩
    refine ⟨_, rfl, a, rfl, ⟨_, SqT.of ha⟩, fun D nD => dc_src (G := fun H2 => SqT K H2 a (ws.map vS)) src_tup (fun i H2 => Same H H2 ∧ H2 D = some (.dK (mks kS (ws.take i)))) ⟨same_new nD, upd_same⟩ (fun i H2 _ h => SqT.of (h.1 _ _ ha)) ?_ ?_⟩
    · rintro i v H2 H' hi ⟨sm, hD⟩ ⟨rfl, hv⟩
      obtain ⟨t, rfl, ht⟩ := get_vS hv
      rw [List.length_map] at hi
      refine ⟨rfl, yes_dc ?_⟩
      refine ⟨_, rfl, _, kS t, rfl, hD, by rw [mks, List.length_map]; exact lt_line (Nat.le_trans (List.length_take_le _ _) (by omega)), same_mut sm nD, ?_⟩
      rw [upd_same, mks_put kS_inj, ins_take B.nd ht]
    rintro H2 ⟨sm, hD⟩
    rw [List.length_map, List.take_length] at hD
    refine ⟨le_line (by simp), fun l nl => ?_⟩
    have hl : upd H2 l (.lst []) l = some (.lst []) := upd_same
    have hD3 := same_new (o := .lst []) nl _ _ hD
    have sm3 := sm.trans (same_new (o := .lst []) nl)
    have fl0 : H l = Option.none := sm.free nl
    generalize upd H2 l (.lst []) = H3 at hl hD3 sm3 ⊢
    have Dl : D ≠ l := fun z => by rw [z, hl] at hD3; cases hD3
    refine ⟨D, _, hD3, True.intro, fun od => ?_⟩
    have hL : upd H3 D (.frz od (.dK (mks kS ws))) D = some (.frz od (.dK (mks kS ws))) := upd_same
    have hl4 : upd H3 D (.frz od (.dK (mks kS ws))) l = some (.lst []) := by rw [upd_ne (Ne.symm Dl)]; exact hl
    have un : ∀ H', Same (upd H3 D (.frz od (.dK (mks kS ws)))) H' → Same H3 (upd H' D (.dK (mks kS ws))) := fun H' e => Same.unlock hD3 e
    generalize upd H3 D (.frz od (.dK (mks kS ws))) = HL at hL hl4 un ⊢
    refine ⟨_, rfl, D, od, rfl, .inl ⟨_, hL, for_src (n := (mks kS ws).length) (G := fun H2 => H2 D = some (.frz od (.dK (mks kS ws)))) src_k (fun i σ H2 => ∃ (u3 u4 u5 : Option V), σ = [some (.ref a), some (.ref D), some (.ref l), u3, u4, u5] ∧ Same HL H2) ⟨_, _, _, rfl, Same.refl _⟩ (fun i σ H2 _ h => ?_) ?_ ?_⟩⟩
    · obtain ⟨_, _, _, _, sm⟩ := h
      exact sm _ _ hL
    · rintro i v σ H4 H5 hi ⟨u3, u4, u5, rfl, sm4⟩ ⟨rfl, k, v', hkv, rfl⟩
      obtain ⟨t, ht, rfl⟩ : ∃ t, t ∈ ws ∧ k = kS t := by
        obtain ⟨t, ht, e⟩ := List.mem_map.mp (List.mem_of_getElem? hkv)
        exact ⟨t, ht, (congrArg Prod.fst e).symm⟩
      have ht10 := B.l10 t ht
      refine ⟨_, rfl, S t, rfl, by rw [S_len]; exact le_line (by omega), 1, t.length, by rw [S_len], ⟨by omega, by omega, by omega, by omega⟩, for_src (G := fun _ => True) src_rng (fun j σ H2 => ∃ (u4 u5 : Option V), σ = [some (.ref a), some (.ref D), some (.ref l), some (vS t), u4, u5] ∧ Same HL H2) ⟨_, _, rfl, sm4⟩ (fun _ _ _ _ _ => trivial) ?_ ?_⟩
      · rintro j v σ H6 H7 hj ⟨u4, u5, rfl, sm6⟩ ⟨rfl, rfl⟩
        have hj2 : 1 + j < t.length := by omega
        refine ⟨_, rfl, .inl ⟨rfl, _, SqL.of (sm6 _ _ hl4)⟩, _, rfl, _, rfl, _, rfl, S t, rfl, by rw [S_len]; exact le_line (by omega), _, rfl, _, rfl, _, rfl, S t, rfl, by rw [S_len]; exact le_line (by omega), le_line (by simp), fun p np => ⟨p, rfl, ⟨_, SqT.of upd_same⟩, fun D2 nD2 => ?_⟩⟩
        have e : cutS (S t) Option.none (Option.some (1 + (j : Int))) = S (t.take (1 + j)) := by
          rw [show (1 + (j : Int)) = ((1 + j : Nat) : Int) by omega]
          exact cut_take t (1 + j)
        have e2 : cutS (S t) (Option.some (1 + (j : Int))) Option.none = S (t.drop (1 + j)) := by
          rw [show (1 + (j : Int)) = ((1 + j : Nat) : Int) by omega]
          exact cut_drop t (1 + j)
        rw [e, e2] at nD2 ⊢
        have sp := same_new (o := .tup [vS (t.take (1 + j)), vS (t.drop (1 + j))]) np
        have hpp : upd H7 p (.tup [vS (t.take (1 + j)), vS (t.drop (1 + j))]) p = some (.tup [vS (t.take (1 + j)), vS (t.drop (1 + j))]) := upd_same
        generalize upd H7 p (.tup [vS (t.take (1 + j)), vS (t.drop (1 + j))]) = H8 at sp hpp nD2 ⊢
        refine lc_pure (n := 2) (src_tup (K := K) (a := p) (xs := [vS (t.take (1 + j)), vS (t.drop (1 + j))])) (fun _ => false) (fun _ => .non) nD2 (by omega) (fun H9 s9 => SqT.of (s9 _ _ hpp)) ?_ ?_
        · rintro i v H9 H10 hi s9 ⟨rfl, hv⟩ Qy Qn _ k2
          have hno : ∃ u, v = vS u ∧ u ∉ ws := by
            rcases (show i = 0 ∨ i = 1 by omega) with rfl | rfl
            · exact ⟨_, (Option.some.inj hv).symm, B.take_no ht hj2⟩
            · exact ⟨_, (Option.some.inj hv).symm, B.drop_no ht (by omega) (by omega)⟩
          obtain ⟨u, rfl, hu⟩ := hno
          have hno : (valV (mks kS ws) (kS u)).isSome = false := by
            cases e : (valV (mks kS ws) (kS u)).isSome with
            | false => rfl
            | true => exact absurd ((mks_val kS_inj).mp e) hu
          refine ⟨rfl, _, rfl, _, rfl, D, _, rfl, .inl ⟨_, kS u, .inr ⟨od, s9 _ _ (sp _ _ (sm6 _ _ hL))⟩, rfl, rfl⟩, ?_⟩
          rw [hno]
          exact ⟨_, rfl, iteF (k2 rfl _ (Same.refl _))⟩
        · intro H9 s9 hD9
          rw [made_no] at hD9
          have hl9 := s9 _ _ (sp _ _ (sm6 _ _ hl4))
          refine ⟨l, D2, [], [], rfl, rfl, hl9, hD9, by simp, ?_⟩
          refine ⟨_, _, rfl, ?_⟩
          have e0 : upd H9 l (.lst ([] ++ [])) = H9 := funext fun b => by
            by_cases z : b = l
            · rw [z, upd_same]; exact hl9.symm
            · rw [upd_ne z]
          rw [e0]
          exact sm6.trans (sp.trans s9)
      · rintro σ H6 ⟨u4, u5, rfl, sm6⟩
        exact ⟨_, _, _, rfl, sm6⟩
    · rintro σ H4 ⟨u3, u4, u5, rfl, sm4⟩
      refine ⟨sm4 _ _ hL, ?_⟩
      have sq := un H4 sm4
      refine ⟨_, rfl, l, _, rfl, .inl (SqL.of (sq _ _ hl)), _, _, rfl, rfl, false, rfl, iteF ?_⟩
      exact q _ (sm3.trans sq)
end
end Nj
set_option Elab.async false
set_option linter.all false
set_option maxRecDepth 100000
set_option maxHeartbeats 4000000
/-! Books are made. -/
namespace Nj
open PySem PySem.Spec PyProof.Rows L2
theorem AB_text {W : Web} (G : GoodW W) {t : Tx} (h : FW W t) : ∀ c ∈ t, c ∈ AZ := fun c hc => AB_AZ (letterW G t h c hc).1
theorem all_true (n : Nat) : ((List.range n).map fun _ => true).all id = true := by simp
section
variable {P : Program} {w : World} {K : PySem.W.Frag} {mg : Str → Option Value} {base : Heap} {CW CB : Addr}
def spAreWords : Sp := fun vs H Q _ => ∃ (a : Addr) (W : Web) (ws : List Tx), vs = [.ref a] ∧ GoodW W ∧ TupS H a ws ∧ BookOk W ws ∧ ∀ H', Same H H' → Q (.bl true) H'
theorem ok_are_words (T : Txt K mg CW CB) : Ok P w K mg base "are_words" 3 ["thing"] spAreWords := by
  have G_is_filled_text := ok_is_filled_text (P := P) (w := w) (base := base) T
  have G_are_ascending := ok_are_ascending (P := P) (w := w) (base := base) T
  refine T.d_are_words.ok sc_are_words (fun vs H Q E h => ?_) (fun f cdv A outer s H vs Q E hr h => ?_)
  · obtain ⟨a, W, ws, rfl, _⟩ := h
    rfl
  · obtain ⟨a, W, ws, rfl, G, ha, B, q⟩ := h
    refine ⟨_, (pss_cons (ps_if (PW.pt (pw_or (pt_not (pt_val (pe_callB (crIsi K) (by rfl) T.b_isinstance B_isinstance (pa_cons (pv 0) (pa_cons (pe_bltn (v := .ty "tuple") (by rfl) T.b_tuple B_tuple rfl) pa_nil))))) (pw_or1 (pt_cmpR op_gt (pe_callB (crLen K) (by rfl) T.b_len B_len (pa_cons (pv 0) pa_nil)) (pgi (by rfl) T.g_MOST_WORDS) (nomark _)))))
        (pss_one (ps_ret pe_bl))
        pss_nil)
      (pss_one (ps_ret (pe_and (pe_callB (crAll K rfl) (by rfl) T.b_all B_all (pa_cons (pe_lc (own := [("word", 1)]) rfl sc_are_words.nd (piT K (pv 0)) (blkOk_by (N := ["thing", "word"]) (sc := defScope s_are_words) (by decide +kernel)) (fun _ _ _ _ _ => (pg_name (i := 1) sc_are_words.nd rfl (.inl rfl))) (fun _ _ _ _ _ => pts_nil) (fun _ _ _ _ _ => (pk G_is_filled_text hr (by decide) (by rfl) (pa_cons (pv 1) (pa_cons (pgi (by rfl) T.g_MOST_LETTERS) pa_nil))))) pa_nil)) (pe_one (pk G_are_ascending hr (by decide) (by rfl) (pa_cons (pv 0) pa_nil))))))), ?_⟩
    have l4 := B.n400
    have hS : SqT K H a (ws.map vS) := SqT.of ha
    refine ⟨_, rfl, .ref a, .ty "tuple", _, _, true, rfl, .ty _, .base (.tup ha), kTT, true, rfl, iteF ?_⟩
    refine ⟨_, rfl, a, _, rfl, .inr hS, (ws.map vS).length, 400, rfl, rfl, false, ?_, iteF ?_⟩
    · show V.bl (decide ((400 : Int) < (ws.map vS).length)) = .bl false
      rw [decide_eq_false (by rw [List.length_map]; omega)]
    refine ⟨_, rfl, a, rfl, ⟨_, hS⟩, fun D nD => lc_pure src_tup (fun _ => true) (fun _ => .bl true) nD (by rw [List.length_map]; omega) (fun H2 sm => Same.tup sm hS) ?_ ?_⟩
    · rintro i x H2 H' hi sm ⟨rfl, hx⟩ Qy Qn k1 _
      obtain ⟨t, rfl, ht⟩ := get_vS hx
      have hm := List.mem_of_getElem? ht
      have hne : t ≠ [] := fun z => by
        have := B.bb.ne
        rw [← z, memP_iff.mpr hm] at this
        cases this
      have := List.length_pos_iff.mpr hne
      have h10 := B.l10 t hm
      refine ⟨rfl, yes_go ?_⟩
      exact ⟨_, rfl, t, 60, rfl, AB_text G (B.fw t hm), by omega, by omega, by omega, fun H3 s3 => k1 rfl _ s3⟩
    · intro H2 sm hD
      rw [made_bl _ fun _ => true] at hD
      refine ⟨D, _, rfl, .inl (.inl hD), true, congrArg V.bl (all_true _), iteT ?_⟩
      have ha2 := sm _ _ ha
      refine ⟨_, rfl, a, ws.map fun t => (vS t, .str (S t)), rfl, ?_, ?_, ?_, ?_, ?_, fun H3 s3 => q H3 (sm.trans s3)⟩
      · rw [List.map_map]
        exact SqT.of ha2
      · intro x hx
        obtain ⟨t, _, rfl⟩ := List.mem_map.mp hx
        exact ⟨.str _, (fun z => nomatch z), by simp [PyData.depth]⟩
      · rw [List.map_map]
        exact PySem.W.AllAlike.of fun b b' => rfl
      · intro i x y hx hy
        rw [List.getElem?_map] at hx hy
        cases e1 : ws[i]? with
        | none => rw [e1] at hx; cases hx
        | some p =>
          cases e2 : ws[i + 1]? with
          | none => rw [e2] at hy; cases hy
          | some p2 =>
            rw [e1] at hx
            rw [e2] at hy
            obtain rfl := Option.some.inj hx
            obtain rfl := Option.some.inj hy
            obtain ⟨i1, f1'⟩ := List.getElem?_eq_some_iff.mp e1
            obtain ⟨i2, f2'⟩ := List.getElem?_eq_some_iff.mp e2
            have := List.pairwise_iff_getElem.mp B.srt i (i + 1) i1 i2 (by omega)
            rw [f1', f2'] at this
            show PySem.W.dataLt (.str (S p)) (.str (S p2)) = true
            rw [PySem.W.dataLt_str, S_list, S_list, decide_eq_true this]
      · rw [List.length_map]; omega
/-- the book of the words ws stands at b -/
def BookAt (P : Program) (w : World) (CW CB : Addr) (H : Hp) (b : Addr) (W : Web) (ws : List Tx) : Prop := ∃ dx fs x kd bd KW BG, H b = some (.ins CB dx fs) ∧ fl fs "web" = some (.ref x) ∧ WebAt P w CW H x W ∧ fl fs "kept_words" = some (.ref kd) ∧ H kd = some (.dK KW) ∧
  (∀ t, (valV KW (kS t)).isSome = memP ws t) ∧ fl fs "kept_begins" = some (.ref bd) ∧ H bd = some (.dK (mks kS BG)) ∧ ∀ t, t ∈ BG ↔ begB ws t = true
theorem BookAt.same {H H' : Hp} {b : Addr} {W : Web} {ws : List Tx} (e : Same H H') (h : BookAt P w CW CB H b W ws) : BookAt P w CW CB H' b W ws := by
  obtain ⟨dx, fs, x, kd, bd, KW, BG, h1, h2, h3, h4, h5, h6, h7, h8, h9⟩ := h
  exact ⟨dx, fs, x, kd, bd, KW, BG, e _ _ h1, h2, h3.same e, h4, e _ _ h5, h6, h7, e _ _ h8, h9⟩
theorem WebAt.but {H H' : Hp} {x b : Addr} {W : Web} (h : WebAt P w CW H x W) (e : But b H H') (hb : ∃ dx, H b = some (.ins CB dx [])) (hx : x ≠ b) : WebAt P w CW H' x W := by
  obtain ⟨dxb, hb⟩ := hb
  obtain ⟨dx, fs, aa, sd, T, h1, h2, h3, h4, h5, h6, h7, h8⟩ := h
  have nt : ∀ xs, H b ≠ some (.tup xs) := fun xs z => by rw [hb] at z; cases z
  have ntu : ∀ c xs, H c = some (.tup xs) → H' c = some (.tup xs) := fun c xs q => e _ _ (fun z => nt xs (by rw [← z]; exact q)) q
  refine ⟨dx, fs, aa, sd, T, e _ _ hx h1, h2, h3, h4.but e nt, h5, h6, ?_, fun p c => ?_⟩
  · obtain ⟨L, k1, k2, k3⟩ := h7
    exact ⟨L, e _ _ (fun z => by rw [z, hb] at k1; cases k1) k1, k2.mono ntu, k3⟩
  · rcases h8 p c with h | ⟨a, gs, g1, g2, g3⟩
    · exact .inl h
    · exact .inr ⟨a, gs, g1, ntu _ _ g2, g3⟩
def spBKeep (P : Program) (w : World) (CW CB : Addr) : Sp := fun vs H Q _ => ∃ (b x a dx : Addr) (W : Web) (ws : List Tx), vs = [.ref b, .ref x, .ref a] ∧ H b = some (.ins CB dx []) ∧ x ≠ b ∧ WebAt P w CW H x W ∧ TupS H a ws ∧ BookOk W ws ∧
  ∀ H', But b H H' → BookAt P w CW CB H' b W ws → Q .non H'
theorem ok_Book_keep (T : Txt K mg CW CB) : OkM P w K mg base CB "keep" 2 ["self", "web", "words"] (spBKeep P w CW CB) := by
  have G_beginnings := ok_beginnings (P := P) (w := w) (base := base) T
  have G_endings := ok_endings (P := P) (w := w) (base := base) T
  refine T.d_Book_keep.ok sc_Book_keep (fun vs H Q E h => ?_) (fun f cdv A outer s H vs Q E hr h => ?_)
  · obtain ⟨b, x, a, dx, W, ws, rfl, _⟩ := h
    rfl
  · obtain ⟨b, x, a, dx, W, ws, rfl, hb, xb, hW, ha, B, q⟩ := h
    have l4 := B.n400
    refine ⟨_, (pss_cons (ps_fld (pv 0) (pv 1) rfl)
      (pss_cons (ps_fld (pv 0) (pv 2) rfl)
      (pss_cons (ps_fld (pv 0) (pe_dc (own := [("number", 3), ("word", 4)]) rfl sc_Book_keep.nd (pi_enumT (by rfl) T.b_enumerate (pa_cons (pv 2) pa_nil)) (blkOk_by (N := ["self", "web", "words", "number", "word"]) (sc := defScope s_Book_keep) (by decide +kernel)) (fun _ _ _ _ _ => (pgT K (n := 2) rfl (pgs_cons (pg_name (i := 3) sc_Book_keep.nd rfl (.inl rfl)) (pgs_cons (pg_name (i := 4) sc_Book_keep.nd rfl (.inl rfl)) pgs_nil)))) (fun _ _ _ _ _ => pts_nil) (fun _ _ _ _ _ => (pv 4)) (fun _ _ _ _ _ => (pv 3))) rfl)
      (pss_cons (ps_fld (pv 0) (pk G_beginnings hr (by decide) (by rfl) (pa_cons (pv 2) pa_nil)) rfl)
      (pss_cons (ps_fld (pv 0) (pk G_endings hr (by decide) (by rfl) (pa_cons (pv 2) pa_nil)) rfl)
      (pss_cons (ps_fld (pv 0) (pe_callB (crMax K rfl) (by rfl) T.b_max B_max (pa_cons (pe_op op_cat (pe_lst (pa_cons pe_int pa_nil)) (pe_lc (own := [("word", 4)]) rfl sc_Book_keep.nd (piT K (pv 2)) (blkOk_by (N := ["self", "web", "words", "number", "word"]) (sc := defScope s_Book_keep) (by decide +kernel)) (fun _ _ _ _ _ => (pg_name (i := 4) sc_Book_keep.nd rfl (.inl rfl))) (fun _ _ _ _ _ => pts_nil) (fun _ _ _ _ _ => (pe_callB call_len_str (by rfl) T.b_len B_len (pa_cons (pv 4) pa_nil))))) pa_nil)) rfl)
      (pss_one (ps_fld (pv 0) (pe_un un_neg pe_int) rfl)))))))), ?_⟩
    have nt : ∀ xs, H b ≠ some (.tup xs) := fun xs z => by rw [hb] at z; cases z
    have ab : a ≠ b := fun z => nt _ (by rw [← z]; exact ha)
    refine ⟨_, rfl, _, rfl, b, CB, dx, _, rfl, hb, T.cl_Book, T.n_Book_web, by simp, ?_⟩
    refine ⟨_, rfl, _, rfl, b, CB, dx, _, rfl, upd_same, T.cl_Book, T.n_Book_words, Nat.lt_of_le_of_lt (putF_small (Nat.le_refl _)) (by decide), ?_⟩
    rw [upd_upd]
    generalize hF1 : putF "words" (V.ref a) (putF "web" (V.ref x) []) = F1
    have lF1 : F1.length ≤ 2 := by rw [← hF1]; exact putF_small (putF_small (Nat.le_refl _))
    have wF1 : fl F1 "web" = some (.ref x) := by rw [← hF1]; exact fl_ne fl_eq
    clear hF1
    have B1 : But b H (upd H b (.ins CB dx F1)) := But.upd
    have hb1 : upd H b (.ins CB dx F1) b = some (.ins CB dx F1) := upd_same
    generalize upd H b (.ins CB dx F1) = H1 at B1 hb1 ⊢
    have ha1 : H1 a = some (.tup (ws.map vS)) := B1 _ _ ab ha
    refine ⟨_, rfl, a, _, rfl, SqT.of ha1, fun D nD => dc_src (G := fun H2 => SqT K H2 a (ws.map vS)) src_et (fun i H2 => Same H1 H2 ∧ ∃ KW, H2 D = some (.dK KW) ∧ KW.length ≤ i ∧ ∀ t, (valV KW (kS t)).isSome = true ↔ t ∈ ws.take i) ⟨same_new nD, [], upd_same, Nat.le_refl _, fun t => by simp [valV]⟩ (fun i H2 _ h => SqT.of (h.1 _ _ ha1)) ?_ ?_⟩
    · rintro i v H2 H' hi ⟨sm, KW, hD, lK, mK⟩ ⟨tp, y, rfl, ntp, rfl, hv⟩
      obtain ⟨t, rfl, ht⟩ := get_vS hv
      rw [List.length_map] at hi
      have st := same_new (o := .tup [.int (i : Nat), vS t]) ntp
      have htp : upd H2 tp (.tup [.int (i : Nat), vS t]) tp = some (.tup [.int (i : Nat), vS t]) := upd_same
      refine ⟨tp, _, rfl, SqT.of htp, rfl, _, _, rfl, _, _, rfl, rfl, ?_⟩
      refine ⟨rfl, yes_dc ?_⟩
      refine ⟨_, rfl, _, rfl, KW, kS t, rfl, st _ _ hD, lt_line (by omega), same_mut (sm.trans st) nD, _, upd_same, Nat.le_trans (length_putK _ _ _) (by omega), fun u => ?_⟩
      rw [valV_put, take_next ht, List.mem_append, List.mem_singleton]
      by_cases e : kS u = kS t
      · rw [if_pos e]
        exact ⟨fun _ => .inr (kS_inj _ _ e), fun _ => rfl⟩
      · rw [if_neg e, mK]
        exact ⟨.inl, fun h => h.resolve_right fun z => e (by rw [z])⟩
    rintro H2 ⟨sm, KW, hD, lK, mK⟩
    rw [List.length_map, List.take_length] at mK
    refine ⟨_, rfl, b, CB, dx, _, rfl, sm _ _ hb1, T.cl_Book, T.n_Book_kept_words, by omega, ?_⟩
    have Db : D ≠ b := fun z => by rw [z, hb1] at nD; cases nD
    have B2 : But b H (upd H2 b (.ins CB dx (putF "kept_words" (V.ref D) F1))) := (B1.same sm).trans But.upd
    have hD2 : upd H2 b (.ins CB dx (putF "kept_words" (V.ref D) F1)) D = some (.dK KW) := by rw [upd_ne Db]; exact hD
    have wF2 : fl (putF "kept_words" (V.ref D) F1) "web" = some (.ref x) := fl_ne wF1
    have kF2 : fl (putF "kept_words" (V.ref D) F1) "kept_words" = some (.ref D) := fl_eq
    have lF2 : (putF "kept_words" (V.ref D) F1).length ≤ 3 := putF_small lF1
    generalize putF "kept_words" (V.ref D) F1 = F2 at B2 hD2 wF2 kF2 lF2 ⊢
    have hb2 : upd H2 b (.ins CB dx F2) b = some (.ins CB dx F2) := upd_same
    generalize upd H2 b (.ins CB dx F2) = H3 at B2 hD2 hb2 ⊢
    have ha3 : H3 a = some (.tup (ws.map vS)) := B2 _ _ ab ha
    refine ⟨_, rfl, a, ws, rfl, ha3, l4, B.l10, fun H4 bd BG sm4 hbd mBG => ?_⟩
    refine ⟨_, rfl, b, CB, dx, _, rfl, sm4 _ _ hb2, T.cl_Book, T.n_Book_kept_begins, by omega, ?_⟩
    have bdb : bd ≠ b := fun z => by have := sm4 _ _ hb2; rw [← z, hbd] at this; cases this
    have B3 : But b H (upd H4 b (.ins CB dx (putF "kept_begins" (V.ref bd) F2))) := (B2.same sm4).trans But.upd
    have hD3 : upd H4 b (.ins CB dx (putF "kept_begins" (V.ref bd) F2)) D = some (.dK KW) := by rw [upd_ne Db]; exact sm4 _ _ hD2
    have hbd3 : upd H4 b (.ins CB dx (putF "kept_begins" (V.ref bd) F2)) bd = some (.dK (mks kS BG)) := by rw [upd_ne bdb]; exact hbd
    have wF3 : fl (putF "kept_begins" (V.ref bd) F2) "web" = some (.ref x) := fl_ne wF2
    have kF3 : fl (putF "kept_begins" (V.ref bd) F2) "kept_words" = some (.ref D) := fl_ne kF2
    have gF3 : fl (putF "kept_begins" (V.ref bd) F2) "kept_begins" = some (.ref bd) := fl_eq
    have lF3 : (putF "kept_begins" (V.ref bd) F2).length ≤ 4 := putF_small lF2
    generalize putF "kept_begins" (V.ref bd) F2 = F3 at B3 hD3 hbd3 wF3 kF3 gF3 lF3 ⊢
    have hb3 : upd H4 b (.ins CB dx F3) b = some (.ins CB dx F3) := upd_same
    generalize upd H4 b (.ins CB dx F3) = H5 at B3 hD3 hbd3 hb3 ⊢
    have ha5 : H5 a = some (.tup (ws.map vS)) := B3 _ _ ab ha
    refine ⟨_, rfl, a, ws, rfl, ha5, l4, B.l10, fun H6 ed EG sm6 hed mEG => ?_⟩
    refine ⟨_, rfl, b, CB, dx, _, rfl, sm6 _ _ hb3, T.cl_Book, T.n_Book_kept_ends, by omega, ?_⟩
    have B4 : But b H (upd H6 b (.ins CB dx (putF "kept_ends" (V.ref ed) F3))) := (B3.same sm6).trans But.upd
    have hD4 : upd H6 b (.ins CB dx (putF "kept_ends" (V.ref ed) F3)) D = some (.dK KW) := by rw [upd_ne Db]; exact sm6 _ _ hD3
    have hbd4 : upd H6 b (.ins CB dx (putF "kept_ends" (V.ref ed) F3)) bd = some (.dK (mks kS BG)) := by rw [upd_ne bdb]; exact sm6 _ _ hbd3
    have wF4 : fl (putF "kept_ends" (V.ref ed) F3) "web" = some (.ref x) := fl_ne wF3
    have kF4 : fl (putF "kept_ends" (V.ref ed) F3) "kept_words" = some (.ref D) := fl_ne kF3
    have gF4 : fl (putF "kept_ends" (V.ref ed) F3) "kept_begins" = some (.ref bd) := fl_ne gF3
    have lF4 : (putF "kept_ends" (V.ref ed) F3).length ≤ 5 := putF_small lF3
    generalize putF "kept_ends" (V.ref ed) F3 = F4 at B4 hD4 hbd4 wF4 kF4 gF4 lF4 ⊢
    have hb4 : upd H6 b (.ins CB dx F4) b = some (.ins CB dx F4) := upd_same
    generalize upd H6 b (.ins CB dx F4) = H7 at B4 hD4 hbd4 hb4 ⊢
    have ha7 : H7 a = some (.tup (ws.map vS)) := B4 _ _ ab ha
    refine ⟨le_line (by simp), fun z nz => ?_⟩
    have sz := same_new (o := .lst [.int 0]) nz
    have hz : upd H7 z (.lst [.int 0]) z = some (.lst [.int 0]) := upd_same
    generalize upd H7 z (.lst [.int 0]) = H8 at sz hz ⊢
    have ha8 := sz _ _ ha7
    refine ⟨_, rfl, a, rfl, ⟨_, SqT.of ha8⟩, fun D2 nD2 => lc_pure src_tup (fun _ => true) (fun i => .int (((ws[i]?.getD []).length : Nat) : Int)) nD2 (by rw [List.length_map]; omega) (fun H9 s9 => SqT.of (s9 _ _ ha8)) ?_ ?_⟩
    · rintro i v H9 H10 hi s9 ⟨rfl, hv⟩ Qy Qn k1 _
      obtain ⟨t, rfl, ht⟩ := get_vS hv
      have ht10 := B.l10 t (List.mem_of_getElem? ht)
      refine ⟨rfl, yes_go ⟨_, rfl, S t, rfl, by rw [S_len]; exact le_line (by omega), ?_⟩⟩
      have := k1 rfl _ (Same.refl _)
      rw [ht] at this
      rw [S_len]
      exact this
    intro H9 s9 hD9
    rw [List.length_map, made_all ws (fun t => V.int ((t.length : Nat) : Int)) []] at hD9
    refine ⟨z, D2, _, _, rfl, rfl, s9 _ _ hz, hD9, by rw [List.length_map]; exact le_line (by simp only [List.length_singleton]; omega), fun m nm => ?_⟩
    have sm9 : Same H7 (upd H9 m (.lst ([.int 0] ++ ws.map fun t => V.int ((t.length : Nat) : Int)))) := sz.trans (s9.trans (same_new nm))
    refine ⟨m, 0 :: ws.map fun t => ((t.length : Nat) : Int), rfl, SqL.of (by rw [upd_same, List.map_cons, List.map_map]; rfl), by simp, fun mx _ _ => ?_⟩
    generalize upd H9 m (.lst ([.int 0] ++ ws.map fun t => V.int ((t.length : Nat) : Int))) = H10 at sm9 ⊢
    refine ⟨_, rfl, b, CB, dx, _, rfl, sm9 _ _ hb4, T.cl_Book, T.n_Book_kept_longest, by omega, ?_⟩
    refine ⟨_, rfl, _, rfl, b, CB, dx, _, rfl, upd_same, T.cl_Book, T.n_Book_kept_ways, Nat.lt_of_le_of_lt (putF_small lF4) (by decide), ?_⟩
    rw [upd_upd]
    have B5 : But b H (upd H10 b (.ins CB dx (putF "kept_ways" (V.int (-1)) (putF "kept_longest" (V.int mx) F4)))) := (B4.same sm9).trans But.upd
    refine q _ B5 ⟨dx, _, x, D, bd, KW, BG, upd_same, fl_ne (fl_ne wF4), hW.but B5 ⟨dx, hb⟩ xb, fl_ne (fl_ne kF4), ?_, fun t => ?_, fl_ne (fl_ne gF4), ?_, fun t => ?_⟩
    · rw [upd_ne Db]; exact sm9 _ _ hD4
    · have h1 := mK t
      have h2 := memP_iff (ws := ws) (t := t)
      rw [Bool.eq_iff_iff, h1, h2]
    · rw [upd_ne bdb]; exact sm9 _ _ hbd4
    · rw [mBG, begB_iff]
def spBInit (P : Program) (w : World) (CW CB : Addr) : Sp := fun vs H Q _ => ∃ (b x a dx : Addr) (W : Web) (ws : List Tx), vs = [.ref b, .ref x, .ref a] ∧ GoodW W ∧ H b = some (.ins CB dx []) ∧ x ≠ b ∧ WebAt P w CW H x W ∧ TupS H a ws ∧ BookOk W ws ∧
  ∀ H', But b H H' → BookAt P w CW CB H' b W ws → Q .non H'
theorem ok_Book_init (T : Txt K mg CW CB) : OkC P w K mg base CB 5 ["self", "web", "words"] (spBInit P w CW CB) := by
  have G_are_words := ok_are_words (P := P) (w := w) (base := base) T
  have G_stretch_there := ok_stretch_there (P := P) (w := w) (base := base) T
  have G_clash_of := ok_clash_of (P := P) (w := w) (base := base) T
  have G_Book_keep := ok_Book_keep (P := P) (w := w) (base := base) T
  refine T.d_Book_init.ok sc_Book_init (fun vs H Q E h => ?_) (fun f cdv A outer s H vs Q E hr h => ?_)
  · obtain ⟨b, x, a, dx, W, ws, rfl, _⟩ := h
    rfl
  · obtain ⟨b, x, a, dx, W, ws, rfl, G, hb, xb, hW, ha, B, q⟩ := h
    have l4 := B.n400
    refine ⟨_, (pss_cons (ps_if (pt_not (pt_val (pk G_are_words hr (by decide) (by rfl) (pa_cons (pv 2) pa_nil))))
        (pss_one ps_never)
        pss_nil)
      (pss_cons (ps_if (pt_not (pt_val (pe_callB (crAll K rfl) (by rfl) T.b_all B_all (pa_cons (pe_lc (own := [("word", 3)]) rfl sc_Book_init.nd (piT K (pv 2)) (blkOk_by (N := ["self", "web", "words", "word"]) (sc := defScope s_Book_init) (by decide +kernel)) (fun _ _ _ _ _ => (pg_name (i := 3) sc_Book_init.nd rfl (.inl rfl))) (fun _ _ _ _ _ => pts_nil) (fun _ _ _ _ _ => (pk G_stretch_there hr (by decide) (by rfl) (pa_cons (pv 1) (pa_cons (pv 3) pa_nil))))) pa_nil))))
        (pss_one ps_never)
        pss_nil)
      (pss_cons (ps_if (pt_cmpR op_notN (pk G_clash_of hr (by decide) (by rfl) (pa_cons (pv 2) pa_nil)) pe_non (nomark _))
        (pss_one ps_never)
        pss_nil)
      (pss_one (ps_expr (mm T.cl_Book G_Book_keep hr (by decide) (pv 0) (pa_cons (pv 1) (pa_cons (pv 2) pa_nil)))))))), ?_⟩
    refine ⟨_, rfl, a, W, ws, rfl, G, ha, B, fun H2 s2 => ⟨true, rfl, iteF ?_⟩⟩
    have ha2 := s2 _ _ ha
    refine ⟨_, rfl, a, rfl, ⟨_, SqT.of ha2⟩, fun D nD => lc_pure src_tup (fun _ => true) (fun _ => .bl true) nD (by rw [List.length_map]; omega) (fun H3 sm => SqT.of (sm _ _ ha2)) ?_ ?_⟩
    · rintro i v H3 H' hi sm ⟨rfl, hv⟩ Qy Qn k1 _
      obtain ⟨t, rfl, ht⟩ := get_vS hv
      refine ⟨rfl, yes_go ?_⟩
      exact ⟨_, rfl, _, rfl, x, W, t, rfl, G, hW.same (s2.trans sm), B.fw t (List.mem_of_getElem? ht), fun H4 s4 => k1 rfl _ s4⟩
    intro H3 s3 hD
    rw [made_bl _ fun _ => true] at hD
    refine ⟨D, _, rfl, .inl (.inl hD), true, congrArg V.bl (all_true _), iteF ?_⟩
    have s23 := s2.trans s3
    refine ⟨_, rfl, a, W, ws, rfl, s23 _ _ ha, B, fun H4 s4 => ⟨rfl, ?_⟩⟩
    have s24 := s23.trans s4
    refine ⟨false, rfl, iteF ?_⟩
    refine ⟨_, rfl, b, dx, [], rfl, s24 _ _ hb, rfl, _, rfl, _, rfl, b, x, a, dx, W, ws, rfl, s24 _ _ hb, xb, hW.same s24, s24 _ _ ha, B, fun H5 B5 hB => ?_⟩
    exact q H5 (fun c o n e => B5 c o n (s24 _ _ e)) hB
end
end Nj
set_option Elab.async false
set_option linter.all false
set_option maxRecDepth 100000
set_option maxHeartbeats 4000000
/-! Levels. -/
namespace Nj
open PySem PySem.Spec PyProof.Rows L2
section
variable {κ : Type} [DecidableEq κ] {ι : Type} [DecidableEq ι] {fk : κ → ι}
def tabV (fk : κ → ι) (L : List (κ × Nat)) : List (ι × V) := L.map fun p => (fk p.1, vI p.2)
theorem tabV_cons (p : κ × Nat) (L : List (κ × Nat)) : tabV fk (p :: L) = (fk p.1, vI p.2) :: tabV fk L := rfl
theorem tabV_get (hf : ∀ a b, fk a = fk b → a = b) (L : List (κ × Nat)) (k : κ) : (valV (tabV fk L) (fk k)).getD (vI 0) = vI (look L k) := by
  induction L with
  | nil => rfl
  | cons p r ih =>
    rw [tabV_cons, look_cons]
    by_cases e : p.1 = k
    · rw [if_pos e, valV_pos (p := (fk p.1, vI p.2)) (by rw [e])]
      rfl
    · rw [if_neg e, valV_neg (p := (fk p.1, vI p.2)) (fun z => e (hf _ _ z)), ih]
theorem tabV_val (hf : ∀ a b, fk a = fk b → a = b) {L : List (κ × Nat)} (hn : Keys L) {p : κ × Nat} (hp : p ∈ L) : valV (tabV fk L) (fk p.1) = some (vI p.2) := by
  induction L with
  | nil => cases hp
  | cons q r ih =>
    unfold Keys at hn
    rw [List.map_cons, List.nodup_cons] at hn
    rw [tabV_cons]
    rcases List.mem_cons.mp hp with rfl | hp
    · rw [valV_pos (p := (fk p.1, vI p.2)) rfl]
    · rw [valV_neg (p := (fk q.1, vI q.2)) (fun z => hn.1 (by rw [hf _ _ z]; exact List.mem_map.mpr ⟨p, hp, rfl⟩)), ih hn.2 hp]
theorem tabV_put (hf : ∀ a b, fk a = fk b → a = b) (L : List (κ × Nat)) (k : κ) (n : Nat) : putK (tabV fk L) (fk k) (vI n) = tabV fk (put L k n) := by
  have e : ((tabV fk L).any fun kv => decide (kv.1 = fk k)) = L.any fun x => decide (x.1 = k) := by
    unfold tabV
    rw [List.any_map]
    congr 1
    funext x
    show decide (fk x.1 = fk k) = decide (x.1 = k)
    rw [decide_eq_decide]
    exact ⟨hf _ _, fun z => by rw [z]⟩
  unfold putK put
  rw [e]
  by_cases q : (L.any fun x => decide (x.1 = k)) = true
  · rw [if_pos q, if_pos q]
    unfold tabV
    rw [List.map_map, List.map_map]
    refine List.map_congr_left fun x _ => ?_
    show (if fk x.1 = fk k then (fk x.1, vI n) else (fk x.1, vI x.2)) = (fk (if x.1 = k then (x.1, n) else x).1, vI (if x.1 = k then (x.1, n) else x).2)
    by_cases z : x.1 = k
    · rw [if_pos z, if_pos (by rw [z])]
    · rw [if_neg z, if_neg (fun y => z (hf _ _ y))]
  · rw [if_neg q, if_neg q]
    unfold tabV
    rw [List.map_append]
    rfl
theorem tabV_len (L : List (κ × Nat)) : (tabV fk L).length = L.length := List.length_map ..
theorem tabV_at {L : List (κ × Nat)} {i : Nat} {k : ι} {v : V} (h : (tabV fk L)[i]? = some (k, v)) : ∃ p, L[i]? = some p ∧ k = fk p.1 ∧ v = vI p.2 := by
  unfold tabV at h
  rw [List.getElem?_map] at h
  cases e : L[i]? with
  | none => rw [e] at h; cases h
  | some p =>
    rw [e] at h
    have := Option.some.inj h
    exact ⟨p, rfl, (congrArg Prod.fst this).symm, (congrArg Prod.snd this).symm⟩
end
abbrev nm (p : Nat) : NestedKey := .num (p : Int)
def fkL (ps : List Nat) : NestedKey := .tup (ps.map nm)
theorem nums_inj : ∀ {a b : List Nat}, a.map nm = b.map nm → a = b
  | [], [], _ => rfl
  | [], _ :: _, h => by simp at h
  | _ :: _, [], h => by simp at h
  | x :: a, y :: b, h => by
    rw [List.map_cons, List.map_cons] at h
    injection h with h1 h2
    injection h1 with h1
    rw [nums_inj h2, show x = y by omega]
theorem fkL_inj (a b : List Nat) (h : fkL a = fkL b) : a = b := by
  unfold fkL at h
  injection h with h
  exact nums_inj h
theorem nums_depth : ∀ ps : List Nat, NestedKey.depthAll (ps.map nm) = 0
  | [] => rfl
  | p :: ps => by
    rw [List.map_cons, NestedKey.depthAll, nums_depth ps]
    rfl
theorem nums_is {H : Hp} : ∀ ps : List Nat, Nkvs H (ps.map vI) (ps.map nm)
  | [] => .nil
  | p :: ps => .cons (.num _) (nums_is ps)
theorem nums_of {H : Hp} : ∀ {ps : List Nat} {vs : List V}, Nkvs H vs (ps.map nm) → vs = ps.map vI
  | [], _, h => by cases h; rfl
  | p :: ps, _, h => by
    cases h with
    | cons h1 h2 =>
      cases h1
      rw [nums_of h2]
      rfl
theorem fkL_is {H : Hp} {a : Addr} {ps : List Nat} (h : TupN H a ps) : IsKey H (.ref a) (fkL ps) := ⟨a, rfl, .tup h (nums_is ps), by rw [fkL, NestedKey.depth, nums_depth]; decide⟩
theorem fkL_of {H : Hp} {v : V} {ps : List Nat} (h : IsKey H v (fkL ps)) : ∃ a, v = .ref a ∧ TupN H a ps := by
  obtain ⟨b, rfl, h, _⟩ := h
  cases h with
  | tup h1 h2 =>
    rw [nums_of h2] at h1
    exact ⟨b, rfl, h1⟩
def fkU (k : KW3) : NestedKey := .tup [fkL k.1, .text (S k.2.1), .num (k.2.2 : Int)]
theorem fkU_inj (a b : KW3) (h : fkU a = fkU b) : a = b := by
  unfold fkU at h
  injection h with h
  injection h with h1 h
  injection h with h2 h
  injection h with h3 _
  injection h2 with h2
  injection h3 with h3
  obtain ⟨a1, a2, a3⟩ := a
  obtain ⟨b1, b2, b3⟩ := b
  simp only at h1 h2 h3
  rw [fkL_inj _ _ h1, S_inj h2, show a3 = b3 by omega]
theorem fkU_is {H : Hp} {a a1 : Addr} {ps : List Nat} {st : Tx} {m : Nat} (h : H a = some (.tup [.ref a1, vS st, vI m])) (h1 : TupN H a1 ps) : IsKey H (.ref a) (fkU (ps, st, m)) :=
  ⟨a, rfl, .tup h (.cons (.tup h1 (nums_is ps)) (.cons (.text _) (.cons (.num _) .nil))), by
    simp only [fkU, fkL, NestedKey.depth, NestedKey.depthAll, nums_depth]
    decide⟩
theorem fkU_of {H : Hp} {v : V} {k : KW3} (h : IsKey H v (fkU k)) : ∃ a a1, v = .ref a ∧ H a = some (.tup [.ref a1, vS k.2.1, vI k.2.2]) ∧ TupN H a1 k.1 := by
  obtain ⟨b, rfl, h, _⟩ := h
  cases h with
  | tup h1 h2 =>
    cases h2 with
    | cons h2 h3 =>
      cases h3 with
      | cons h3 h4 =>
        cases h4 with
        | cons h4 h5 =>
          cases h2 with
          | tup g1 g2 =>
            cases h3
            cases h4
            cases h5
            rw [nums_of g2] at g1
            exact ⟨b, _, rfl, h1, g1⟩
theorem NdF.upd {P : Program} {w : World} {H : Hp} {a b : Addr} {od : Obj} {o : HO} {T : List (NestedKey × V)} (h : NdF P w H a od T) (ab : a ≠ b) (hb : ∀ xs, H b ≠ some (.tup xs)) : NdF P w (L2.upd H b o) a od T := by
  obtain ⟨L, h1, h2, h3⟩ := h
  refine ⟨L, by rw [upd_ne ab]; exact h1, h2.mono fun c xs q => ?_, h3⟩
  rw [upd_ne (fun z => hb xs (by rw [← z]; exact q))]
  exact q
theorem atI_last {xs : List V} {v : V} : atI (xs ++ [v]) (-1) = some v := by
  unfold atI ixN
  rw [if_neg (by decide), List.length_append, List.length_singleton, if_pos (by omega)]
  show (xs ++ [v])[(-1 + ((xs.length + 1 : Nat) : Int)).toNat]? = _
  rw [show (-1 + ((xs.length + 1 : Nat) : Int)).toNat = xs.length by omega]
  simp
section
variable {P : Program} {w : World} {K : PySem.W.Frag} {mg : Str → Option Value} {base : Heap} {CW CB : Addr}
theorem add_len {κ : Type} [DecidableEq κ] (L : List (κ × Nat)) (k : κ) (n : Nat) : (add L k n).length ≤ L.length + 1 := by
  unfold add put
  by_cases e : (L.any fun p => decide (p.1 = k)) = true
  · rw [if_pos e, List.length_map]; omega
  · rw [if_neg e, List.length_append, List.length_singleton]; omega
theorem newN {X : Cx} {pos : PySem.Pos} (P : Program) (w : World) (h1 : X.prog = P := by rfl) (h2 : X.w = w := by rfl) : PE X (.Dict [] [] pos) (tNew P w) := by
  subst h1 h2
  exact pe_new
def spLevels (P : Program) (w : World) (CW : Addr) : Sp := fun vs H Q _ => ∃ (x : Addr) (W : Web) (n : Nat), vs = [.ref x, vI n] ∧ GoodW W ∧ WebAt P w CW H x W ∧ n ≤ 200 ∧
  ∀ H' f ds d L, Same H H' → H' f = some (.lst (ds ++ [.ref d])) → Nd P w H' d (tabV fkL L) → Tells L (stre W n) (ends W) → Q (.ref f) H'
theorem ok_levels_of (T : Txt K mg CW CB) : Ok P w K mg base "levels_of" 2 ["web", "length"] (spLevels P w CW) := by
  have G_all_points := ok_all_points (P := P) (w := w) (base := base) T
  have G_stepped := ok_stepped (P := P) (w := w) (base := base) T
  refine T.d_levels_of.ok sc_levels_of (fun vs H Q E h => ?_) (fun f cdv A outer s H vs Q E hr h => ?_)
  · obtain ⟨x, W, n, rfl, _⟩ := h
    rfl
  · obtain ⟨x, W, n, rfl, G, hW, hn, q⟩ := h
    have hu : (A.deeper (envOfC "levels_of" (defScope s_levels_of) s.heap.objs.size f cdv)).units + 60 < cLine := by have := hr.un; omega
    have hu1 : (A.deeper (envOfC "levels_of" (defScope s_levels_of) s.heap.objs.size f cdv)).units + 1 < cLine := by have := hr.un; omega
    refine ⟨_, (pss_cons (ps_set (i := 2) sc_levels_of.nd rfl (.inl rfl) (pe_lst (pa_cons (pe_disp1 hu (pk G_all_points hr (by decide) (by rfl) (pa_cons (pv 0) pa_nil)) pe_int) pa_nil)))
      (pss_cons (ps_for PassesOwn.never rfl (pi_range1 (by rfl) T.b_range (pa_cons (pv 1) pa_nil)) (pg_name (i := 3) sc_levels_of.nd rfl (.inl rfl))
        (pss_cons (ps_set (i := 4) sc_levels_of.nd rfl (.inl rfl) (newN P w))
        (pss_cons (ps_lock (ps_for PassesOwn.never rfl (pi_keysN (pe_ix (ixL K) (pv 2) (pe_un un_neg pe_int) (fun _ _ => rfl))) (pg_name (i := 5) sc_levels_of.nd rfl (.inl rfl))
          (pss_one (ps_for PassesOwn.never rfl (pi_str (fld K (pv 0) rfl)) (pg_name (i := 6) sc_levels_of.nd rfl (.inl rfl))
            (pss_cons (ps_set (i := 7) sc_levels_of.nd rfl (.inl rfl) (pk G_stepped hr (by decide) (by rfl) (pa_cons (pv 0) (pa_cons (pv 5) (pa_cons (pv 6) pa_nil)))))
            (pss_one (ps_if (pt_cmpR op_gt (pe_callB (crLen K) (by rfl) T.b_len B_len (pa_cons (pv 7) pa_nil)) pe_int (nomark _))
              (pss_one (ps_nput hu (pv 4) (pv 7) (pe_op op_add (pe_nget2 hu (pv 4) (pv 7) pe_int ⟨rfl, rfl, rfl, rfl⟩) (nget P w hu (pe_ix (ixL K) (pv 2) (pe_un un_neg pe_int) (fun _ _ => rfl)) (pv 5) (fun _ _ => rfl))) rfl))
              pss_nil)))))))
        (pss_one (ps_expr (pe_bm PySem.F.plainAttrs_list PySem.F.slot_list_append PySem.F.type_list_append mt_append (pv 2) (pa_cons (pv 4) pa_nil)))))))
      (pss_one (ps_ret (pv 2))))), ?_⟩
    intro d nd
    have sm0 : Same H (upd H d (NdO P w d [])) := same_new nd
    refine ⟨_, rfl, x, W, rfl, G, hW.same sm0, fun H2 p s2 hp => ⟨_, _, fkL (List.range W.P), rfl, s2 _ _ upd_same, fkL_is hp, fun o hNd => ?_⟩⟩
    have sm1 : Same H (upd H2 d o) := same_mut (sm0.trans s2) nd
    refine ⟨le_line (by simp), fun f nf => ?_⟩
    have sf := same_new (o := .lst [.ref d]) nf
    have hf : upd (upd H2 d o) f (.lst [.ref d]) f = some (.lst [.ref d]) := upd_same
    have hNd2 := hNd.same sf
    have nf0 : H f = none := sm1.free nf
    have sm2 := sm1.trans sf
    generalize upd (upd H2 d o) f (.lst [.ref d]) = H3 at hf hNd2 sm2 ⊢
    refine ⟨_, rfl, n, rfl, by omega, by omega, for_src (G := fun _ => True) src_rng (fun i σ H4 => ∃ (u3 u4 u5 u6 u7 : Option V) (ds : List V) (d : Addr) (L : List (List Nat × Nat)), σ = [some (.ref x), some (vI n), some (.ref f), u3, u4, u5, u6, u7] ∧ Same H H4 ∧ H4 f = some (.lst (ds ++ [.ref d])) ∧ ds.length = i ∧ H d = none ∧ Nd P w H4 d (tabV fkL L) ∧ Tells L (stre W i) (ends W)) ?_ (fun _ _ _ _ _ => trivial) ?_ ?_⟩
    · exact ⟨none, none, none, none, none, [], d, [(List.range W.P, 1)], rfl, sm2, hf, rfl, nd, hNd2, level_first⟩
    · rintro i v σ H4 H5 hi ⟨u3, u4, u5, u6, u7, ds, d, L, rfl, sm4, hf4, hds, nd0, hN4, hT⟩ ⟨rfl, rfl⟩
      intro e ne hNe
      have se := same_new (o := NdO P w e []) ne
      have e0 : H e = none := sm4.free ne
      have sm5 := sm4.trans se
      have hf5 := se _ _ hf4
      have hN5 := hN4.same se
      obtain ⟨Lr, hR1, hR2, hR3⟩ := id hN5
      have lL := level_len G hT
      have ed : e ≠ d := fun z => by
        obtain ⟨L0, h0, _, _⟩ := hN4
        rw [← z, ne] at h0
        cases h0
      have fd : f ≠ d := fun z => by rw [z, hR1] at hf5; cases hf5
      have fe : f ≠ e := fun z => by rw [z, ne] at hf4; cases hf4
      refine ⟨d, _, hR1, True.intro, fun od => ?_⟩
      have hFz : upd (upd H5 e (NdO P w e [])) d (.frz od (NdO P w d Lr)) d = some (.frz od (NdO P w d Lr)) := upd_same
      have hF : NdF P w (upd (upd H5 e (NdO P w e [])) d (.frz od (NdO P w d Lr))) d od (tabV fkL L) := ⟨Lr, upd_same, hR2.mono fun b xs z => by
        rw [upd_ne (fun y => by rw [y, hR1] at z; cases z)]; exact z, hR3⟩
      have hNe6 : Nd P w (upd (upd H5 e (NdO P w e [])) d (.frz od (NdO P w d Lr))) e [] := hNe.upd ed fun xs z => by rw [hR1] at z; cases z
      have sm6 : Same H (upd (upd H5 e (NdO P w e [])) d (.frz od (NdO P w d Lr))) := same_mut sm5 nd0
      have hf6 : upd (upd H5 e (NdO P w e [])) d (.frz od (NdO P w d Lr)) f = some (.lst (ds ++ [.ref d])) := by rw [upd_ne fd]; exact hf5
      refine ⟨_, rfl, _, rfl, f, _, _, _, rfl, rfl, SqL.of hf6, atI_last, d, od, _, rfl, hF, ?_⟩
      obtain ⟨dx, fs, aa, sd, TT, hx, f1, f2, hA, f3, f4, hN, hSt⟩ := id hW
      have hsg := signs_len G
      refine for_src (G := fun H2 => NdF P w H2 d od (tabV fkL L)) src_nd (fun j σ H7 => ∃ (u5 u6 u7 : Option V) (acc : List (List Nat × Nat)), σ = [some (.ref x), some (vI n), some (.ref f), some (vI i), some (.ref e), u5, u6, u7] ∧ Same H H7 ∧ H7 f = some (.lst (ds ++ [.ref d])) ∧ H7 d = some (.frz od (NdO P w d Lr)) ∧ NdF P w H7 d od (tabV fkL L) ∧ Nd P w H7 e (tabV fkL acc) ∧ acc.length ≤ 3 * j ∧ acc = (L.take j).foldl (stepK (nkL W) (okL W) (signs W)) []) ?_ ?_ ?_ ?_
      · refine ⟨u5, u6, u7, [], ?_, sm6, hf6, hFz, hF, hNe6, Nat.zero_le _, rfl⟩
        show [some (V.ref x), some (vI n), some (V.ref f), some (V.int (0 + (i : Int))), some (V.ref e), u5, u6, u7] = _
        rw [Int.zero_add]
      · rintro j σ H7 _ ⟨_, _, _, _, _, _, _, _, h, _⟩
        exact h
      · rintro j v σ H7 H8 hj ⟨u5, u6, u7, acc, rfl, sm7, hf7, hd7, hF7, hN7, hla, hacc⟩ ⟨rfl, k, v', hkv, hik⟩
        obtain ⟨p, hp, rfl, rfl⟩ := tabV_at hkv
        obtain ⟨a, rfl, ha⟩ := fkL_of hik
        have hpm := List.mem_of_getElem? hp
        obtain ⟨u, hu1', hpu⟩ := hT.ks p.1 (List.mem_map.mpr ⟨p, hpm, rfl⟩)
        have lp : p.1.length ≤ 4 := by rw [← hpu]; exact ends_len G u
        rw [tabV_len] at hj
        refine ⟨_, rfl, x, CW, dx, fs, _, rfl, sm7 _ _ hx, T.cl_Web, T.n_Web_kept_letters, f3, S (signs W), rfl, for_src (G := fun _ => True) src_str (fun m σ H9 => ∃ (u6 u7 : Option V) (acc2 : List (List Nat × Nat)), σ = [some (.ref x), some (vI n), some (.ref f), some (vI i), some (.ref e), some (.ref a), u6, u7] ∧ Same H H9 ∧ H9 f = some (.lst (ds ++ [.ref d])) ∧ H9 d = some (.frz od (NdO P w d Lr)) ∧ NdF P w H9 d od (tabV fkL L) ∧ Nd P w H9 e (tabV fkL acc2) ∧ TupN H9 a p.1 ∧ acc2.length ≤ 3 * j + m ∧ acc2 = ((signs W).take m).foldl (fun acc c => if okL W p.1 c = true then add acc (nkL W p.1 c) p.2 else acc) acc) ?_ (fun _ _ _ _ _ => trivial) ?_ ?_⟩
        · exact ⟨u6, u7, acc, rfl, sm7, hf7, hd7, hF7, hN7, ha, hla, rfl⟩
        · rintro m v σ H9 H10 hm ⟨u6, u7, acc2, rfl, sm9, hf9, hd9, hF9, hN9, ha9, hl2, hacc2⟩ ⟨rfl, c, hc, rfl⟩
          refine ⟨_, rfl, _, rfl, _, rfl, x, a, W, p.1, c, rfl, G, hW.same sm9, ha9, by omega, fun H11 g s11 hg => ?_⟩
          have sm11 := sm9.trans s11
          have hf11 := s11 _ _ hf9
          have hd11 := s11 _ _ hd9
          have hF11 := hF9.same s11
          have hN11 := hN9.same s11
          have ha11 := s11 _ _ ha9
          refine ⟨_, rfl, g, _, rfl, .inr (SqT.of hg), _, _, rfl, rfl, okL W p.1 c, ?_, ?_⟩
          · show V.bl _ = V.bl _
            congr 1
            unfold okL
            rw [decide_eq_decide, List.length_map]
            omega
          have hst : ((signs W).take (m + 1)).foldl (fun acc c => if okL W p.1 c = true then add acc (nkL W p.1 c) p.2 else acc) acc = if okL W p.1 c = true then add acc2 (nkL W p.1 c) p.2 else acc2 := by
            rw [take_next hc, List.foldl_append, ← hacc2]
            rfl
          by_cases hok : okL W p.1 c = true
          · rw [if_pos hok] at hst
            rw [hok]
            refine iteT ?_
            refine ⟨_, rfl, e, rfl, ⟨_, hN11.r⟩, _, rfl, _, fkL (stp W p.1 c), hN11.r, fkL_is hg, ?_⟩
            refine ⟨_, rfl, _, rfl, f, _, _, _, rfl, rfl, SqL.of hf11, atI_last, _, rfl, d, _, fkL p.1, vI p.2, rfl, hF11.r, fkL_is ha11, tabV_val fkL_inj hT.nd hpm, ?_⟩
            refine ⟨look acc2 (stp W p.1 c), p.2, tabV_get fkL_inj acc2 _, rfl, ?_⟩
            refine ⟨_, rfl, _, rfl, e, _, fkL (stp W p.1 c), rfl, hN11, fkL_is hg, by rw [tabV_len]; exact lt_line (by omega), fun o hNo => ?_⟩
            obtain ⟨R, hR⟩ := hN11.some
            have nte : ∀ xs, H11 e ≠ some (.tup xs) := fun xs z => by rw [hR] at z; cases z
            refine ⟨_, _, add acc2 (stp W p.1 c) p.2, rfl, same_mut sm11 e0, by rw [upd_ne fe]; exact hf11, by rw [upd_ne (Ne.symm ed)]; exact hd11, hF11.upd (Ne.symm ed) nte, ?_, ?_, Nat.le_trans (add_len _ _ _) (by omega), hst.symm⟩
            · rw [show add acc2 (stp W p.1 c) p.2 = put acc2 (stp W p.1 c) (look acc2 (stp W p.1 c) + p.2) from rfl, ← tabV_put fkL_inj]
              exact hNo
            · show upd H11 e o a = _
              rw [upd_ne (fun z => nte _ (by rw [← z]; exact ha11))]
              exact ha11
          · rw [if_neg hok] at hst
            rw [Bool.not_eq_true] at hok
            rw [hok]
            refine iteF ?_
            exact ⟨_, _, acc2, rfl, sm11, hf11, hd11, hF11, hN11, ha11, by omega, hst.symm⟩
        · rintro σ H9 ⟨u6, u7, acc2, rfl, sm9, hf9, hd9, hF9, hN9, ha9, hl2, hacc2⟩
          refine ⟨_, _, _, acc2, rfl, sm9, hf9, hd9, hF9, hN9, by omega, ?_⟩
          rw [take_next hp, List.foldl_append, ← hacc, hacc2, List.take_length]
          rfl
      · rintro σ H7 ⟨u5, u6, u7, acc, rfl, sm7, hf7, hd7, hF7, hN7, hla, hacc⟩
        rw [tabV_len, List.take_length] at hacc
        have lT := level_next hT
        refine ⟨hd7, ?_⟩
        have hf8 : upd H7 d (NdO P w d Lr) f = some (.lst (ds ++ [.ref d])) := by rw [upd_ne fd]; exact hf7
        refine ⟨_, rfl, .inl ⟨rfl, _, SqL.of hf8⟩, _, rfl, f, _, _, rfl, rfl, hf8, by rw [List.length_append, List.length_singleton, hds]; exact lt_line (by omega), ?_⟩
        refine ⟨_, _, _, _, _, ds ++ [.ref d], e, acc, rfl, same_mut (same_mut sm7 nd0) nf0, upd_same, by rw [List.length_append, hds]; rfl, e0, ?_, ?_⟩
        · exact (hN7.upd ed fun xs z => by rw [hd7] at z; cases z).upd (Ne.symm fe) fun xs z => by rw [hf8] at z; cases z
        · rw [hacc]
          exact lT
    · rintro σ H4 ⟨u3, u4, u5, u6, u7, ds, d, L, rfl, sm4, hf4, hds, nd0, hN4, hT⟩
      rw [Int.toNat_natCast] at hT
      exact ⟨_, rfl, q H4 f ds d L sm4 hf4 hN4 hT⟩
end
end Nj
set_option Elab.async false
set_option linter.all false
set_option maxRecDepth 100000
set_option maxHeartbeats 4000000
/-! How many stretches; the state behind a letter. -/
namespace Nj
open PySem PySem.Spec PyProof.Rows L2
theorem sum_cast {κ : Type} [DecidableEq κ] (L : List (κ × Nat)) : (L.map fun p => ((p.2 : Nat) : Int)).sum = ((sm (fun _ => 1) L : Nat) : Int) := by
  induction L with
  | nil => rfl
  | cons p L ih =>
    rw [List.map_cons, List.sum_cons, ih, sm_cons]
    omega
theorem Tells.total {κ α : Type} [DecidableEq κ] {L : List (κ × Nat)} {us : List α} {key : α → κ} (h : Tells L us key) : (L.map fun p => ((p.2 : Nat) : Int)).sum = ((us.length : Nat) : Int) := by
  rw [sum_cast, h.su]
  simp [List.map_const']
theorem any_count (n : Nat) (f : Nat → Bool) : ((List.range n).map f).any id = decide ((List.range n).countP f ≠ 0) := by
  rw [Bool.eq_iff_iff, List.any_eq_true, decide_eq_true_iff]
  constructor
  · rintro ⟨b, hb, e⟩ z
    obtain ⟨k, hk, rfl⟩ := List.mem_map.mp hb
    have := List.countP_eq_zero.mp z k hk
    exact this e
  · intro h
    have h2 : 0 < (List.range n).countP f := Nat.pos_of_ne_zero h
    obtain ⟨k, hk, e⟩ := List.countP_pos_iff.mp h2
    exact ⟨f k, List.mem_map.mpr ⟨k, hk, rfl⟩, e⟩
section
variable {P : Program} {w : World} {K : PySem.W.Frag} {mg : Str → Option Value} {base : Heap} {CW CB : Addr}
def spMany (P : Program) (w : World) (CW : Addr) : Sp := fun vs H Q _ => ∃ (x : Addr) (W : Web) (n : Nat), vs = [.ref x, vI n] ∧ GoodW W ∧ WebAt P w CW H x W ∧ n ≤ 200 ∧ ∀ H', Same H H' → Q (vI (stre W n).length) H'
theorem ok_many_of (T : Txt K mg CW CB) : Ok P w K mg base "many_of" 3 ["web", "length"] (spMany P w CW) := by
  have G_levels_of := ok_levels_of (P := P) (w := w) (base := base) T
  refine T.d_many_of.ok sc_many_of (fun vs H Q E h => ?_) (fun f cdv A outer s H vs Q E hr h => ?_)
  · obtain ⟨x, W, n, rfl, _⟩ := h
    rfl
  · obtain ⟨x, W, n, rfl, G, hW, hn, q⟩ := h
    refine ⟨_, (pss_one (ps_ret (pe_callB (crSum K rfl) (by rfl) T.b_sum B_sum (pa_cons (pe_listVals rfl (pe_ix (ixL K) (pk G_levels_of hr (by decide) (by rfl) (pa_cons (pv 0) (pa_cons (pv 1) pa_nil))) (pe_un un_neg pe_int) (fun _ _ => rfl)) (by rfl) T.b_list) pa_nil)))), ?_⟩
    refine ⟨_, rfl, _, rfl, x, W, n, rfl, G, hW, hn, fun H2 f ds d L s2 hf hN hT => ?_⟩
    refine ⟨_, rfl, f, _, _, _, rfl, rfl, SqL.of hf, atI_last, d, _, rfl, .inl ⟨_, hN.r, rfl⟩, fun l nl => ?_⟩
    refine ⟨l, L.map fun p => ((p.2 : Nat) : Int), rfl, ?_, ?_⟩
    · refine SqL.of ?_
      rw [upd_same, tabV, List.map_map, List.map_map]
      rfl
    · rw [hT.total]
      exact q _ (s2.trans (same_new nl))
theorem ok_many_stretches (T : Txt K mg CW CB) : Ok P w K mg base "many_stretches" 4 ["web", "length"] (spMany P w CW) := by
  have G_check_number := ok_check_number (P := P) (w := w) (base := base) T
  have G_many_of := ok_many_of (P := P) (w := w) (base := base) T
  refine T.d_many_stretches.ok sc_many_stretches (fun vs H Q E h => ?_) (fun f cdv A outer s H vs Q E hr h => ?_)
  · obtain ⟨x, W, n, rfl, _⟩ := h
    rfl
  · obtain ⟨x, W, n, rfl, G, hW, hn, q⟩ := h
    refine ⟨_, (pss_cons (ps_expr (pk G_check_number hr (by decide) (by rfl) (pa_cons (pv 1) (pa_cons pe_int (pa_cons (pgi (by rfl) T.g_MOST_LENGTH_stretches) pa_nil)))))
      (pss_one (ps_ret (pk G_many_of hr (by decide) (by rfl) (pa_cons (pv 0) (pa_cons (pv 1) pa_nil)))))), ?_⟩
    refine ⟨_, rfl, n, 0, 200, rfl, by omega, by omega, ?_⟩
    exact ⟨_, rfl, _, rfl, x, W, n, rfl, G, hW, hn, fun H2 s2 => q H2 s2⟩
def spBehind (P : Program) (w : World) (CW CB : Addr) : Sp := fun vs H Q _ => ∃ (b : Addr) (W : Web) (ws : List Tx) (st : Tx) (c : Nat), vs = [.ref b, vS st, vS [c]] ∧ BookAt P w CW CB H b W ws ∧ st.length ≤ 60 ∧
  ∀ H' a, Same H H' → H' a = some (.tup [vS (lsuf (begB ws) (st ++ [c])), .bl (endB ws (st ++ [c]))]) → Q (.ref a) H'
theorem ok_state_behind (T : Txt K mg CW CB) : Ok P w K mg base "state_behind" 1 ["book", "state", "letter"] (spBehind P w CW CB) := by
  refine T.d_state_behind.ok sc_state_behind (fun vs H Q E h => ?_) (fun f cdv A outer s H vs Q E hr h => ?_)
  · obtain ⟨b, W, ws, st, c, rfl, _⟩ := h
    rfl
  · obtain ⟨b, W, ws, st, c, rfl, hB, hst, q⟩ := h
    have hu1 : (A.deeper (envOfC "state_behind" (defScope s_state_behind) s.heap.objs.size f cdv)).units + 1 < cLine := by have := hr.un; omega
    refine ⟨_, (pss_cons (ps_set (i := 3) sc_state_behind.nd rfl (.inr rfl) (pe_op op_add_str (pv 1) (pv 2)))
      (pss_cons (ps_set (i := 4) sc_state_behind.nd rfl (.inl rfl) (pe_callB (crAny K rfl) (by rfl) T.b_any B_any (pa_cons (pe_lc (own := [("at", 5)]) rfl sc_state_behind.nd (pi_range1 (by rfl) T.b_range (pa_cons (pe_callB call_len_str (by rfl) T.b_len B_len (pa_cons (pv 3) pa_nil)) pa_nil)) (blkOk_by (N := ["book", "state", "letter", "text", "ended", "at"]) (sc := defScope s_state_behind) (by decide +kernel)) (fun _ _ _ _ _ => (pg_name (i := 5) sc_state_behind.nd rfl (.inl rfl))) (fun _ _ _ _ _ => pts_nil) (fun _ _ _ _ _ => (pe_cmp (pc_din hu1 (pe_slice sl_str (pv 3) (po_some (pv 5)) po_none) (fld K (pv 0) rfl))))) pa_nil)))
      (pss_cons (ps_set (i := 5) sc_state_behind.nd rfl (.inl rfl) pe_int)
      (pss_cons (ps_while PassesOwn.never (pt_cmp (pc_dnotin hu1 (pe_slice sl_str (pv 3) (po_some (pv 5)) po_none) (fld K (pv 0) rfl)))
        (pss_one (ps_aug (i := 5) sc_state_behind.nd rfl (.inl rfl) pe_int ip_add)))
      (pss_one (ps_ret (pe_tup (pa_cons (pe_slice sl_str (pv 3) (po_some (pv 5)) po_none) (pa_cons (pv 4) pa_nil))))))))), ?_⟩
    obtain ⟨dx, fs, x, kd, bd, KW, BG, hb, f1, hW, f2, hkd, mK, f3, hbd, mB⟩ := hB
    have lt : (st ++ [c]).length ≤ 61 := by rw [List.length_append, List.length_singleton]; omega
    refine ⟨_, rfl, _, rfl, S st, S [c], rfl, rfl, by rw [S_len, S_len]; exact le_line (by simp only [List.length_singleton]; omega), ?_⟩
    rw [S_app]
    show gName 3 (vS (st ++ [c])) _ _ _
    generalize st ++ [c] = t at lt q ⊢
    have cd : ∀ k : Nat, cutS (S t) (Option.some (0 + (k : Int))) Option.none = S (t.drop k) := fun k => by rw [Int.zero_add]; exact cut_drop t k
    refine ⟨_, rfl, S t, rfl, by rw [S_len]; exact le_line (by omega), t.length, by rw [S_len], by omega, by omega, fun D nD => lc_pure src_rng (fun _ => true) (fun k => .bl (memP ws (t.drop k))) nD (by omega) (fun _ _ => trivial) ?_ ?_⟩
    · rintro k v H2 H' hk sm ⟨rfl, rfl⟩ Qy Qn k1 _
      refine ⟨rfl, yes_go ?_⟩
      refine ⟨_, rfl, _, rfl, _, rfl, S t, rfl, by rw [S_len]; exact le_line (by omega), _, rfl, b, CB, dx, fs, _, rfl, sm _ _ hb, T.cl_Book, T.n_Book_kept_words, f2, kd, _, rfl, .inl ⟨KW, kS (t.drop k), .inl (sm _ _ hkd), ?_, rfl⟩, ?_⟩
      · rw [cd]; rfl
      · rw [mK]
        exact k1 rfl _ (Same.refl _)
    intro H2 s2 hD
    rw [Int.toNat_natCast, made_bl] at hD
    refine ⟨D, _, rfl, .inl (.inl hD), ?_⟩
    rw [any_count, show decide ((List.range t.length).countP (fun k => memP ws (t.drop k)) ≠ 0) = endB ws t from rfl]
    refine ⟨fun m σ H3 => ∃ k : Nat, σ = [some (.ref b), some (vS st), some (vS [c]), some (vS t), some (.bl (endB ws t)), some (vI k)] ∧ Same H H3 ∧ k + m = t.length ∧ lsuf (begB ws) (t.drop k) = lsuf (begB ws) t, ⟨t.length, 0, rfl, s2, by omega, by rw [List.drop_zero]⟩, ?_⟩
    rintro m σ H3 ⟨k, rfl, s3, hkm, hls⟩
    refine ⟨_, rfl, _, rfl, _, rfl, S t, rfl, by rw [S_len]; exact le_line (by omega), _, rfl, b, CB, dx, fs, _, rfl, s3 _ _ hb, T.cl_Book, T.n_Book_kept_begins, f3, bd, _, rfl, .inl ⟨mks kS BG, kS (t.drop k), .inl (s3 _ _ hbd), ?_, rfl⟩, ?_⟩
    · rw [cut_drop]; rfl
    by_cases hB : begB ws (t.drop k) = true
    · have hin : (valV (mks kS BG) (kS (t.drop k))).isSome = true := (mks_val kS_inj).mpr ((mB _).mpr hB)
      rw [hin]
      refine ⟨_, rfl, iteF ?_⟩
      refine ⟨_, rfl, _, rfl, _, rfl, S t, rfl, by rw [S_len]; exact le_line (by omega), _, rfl, le_line (by simp), fun p np => ?_⟩
      rw [cut_drop]
      rw [lsuf_id hB] at hls
      refine q _ p (s3.trans (same_new np)) ?_
      rw [upd_same, hls]
    · have hin : (valV (mks kS BG) (kS (t.drop k))).isSome = false := by
        cases e : (valV (mks kS BG) (kS (t.drop k))).isSome with
        | false => rfl
        | true => exact absurd ((mB _).mp ((mks_val kS_inj).mp e)) hB
      rw [hin]
      have hm : m ≠ 0 := fun z => by
        have : t.drop k = [] := List.drop_eq_nil_of_le (by omega)
        rw [this] at hB
        exact hB (begB_nil ws)
      refine ⟨_, rfl, iteT ⟨fun σ' H' => ∃ m', m' < m ∧ _, fun _ _ h => h, ?_⟩⟩
      refine ⟨_, rfl, k, 1, rfl, rfl, m - 1, by omega, k + 1, rfl, s3, by omega, ?_⟩
      have hk : k < t.length := by omega
      rw [← hls, List.drop_eq_getElem_cons hk]
      rw [List.drop_eq_getElem_cons hk] at hB
      show _ = if begB ws (t[k] :: t.drop (k + 1)) = true then _ else _
      rw [if_neg hB]
end
end Nj
set_option Elab.async false
set_option linter.all false
set_option maxRecDepth 100000
set_option maxHeartbeats 4000000
/-! The counts of ways. -/
namespace Nj
open PySem PySem.Spec PyProof.Rows L2
theorem small_line {n : Nat} (h : n ≤ 12100000) : n < sizeLine := by rw [sizeLine_eq]; omega
section
variable {P : Program} {w : World} {K : PySem.W.Frag} {mg : Str → Option Value} {base : Heap} {CW CB : Addr}
def spWays (P : Program) (w : World) (CW CB : Addr) : Sp := fun vs H Q _ => ∃ (b : Addr) (W : Web) (ws : List Tx) (n : Nat), vs = [.ref b, vI n] ∧ GoodW W ∧ BookAt P w CW CB H b W ws ∧ BookOk W ws ∧ n ≤ 60 ∧
  ∀ H' d M, Same H H' → H d = none → H' d = some (.dK (tabV kN M)) → Tells M (stre W n) (cnt (memP ws)) → Q (.ref d) H'
theorem ok_ways_counts (T : Txt K mg CW CB) : Ok P w K mg base "ways_counts" 4 ["book", "length"] (spWays P w CW CB) := by
  have G_check_number := ok_check_number (P := P) (w := w) (base := base) T
  have G_all_points := ok_all_points (P := P) (w := w) (base := base) T
  have G_stepped := ok_stepped (P := P) (w := w) (base := base) T
  have G_state_behind := ok_state_behind (P := P) (w := w) (base := base) T
  refine T.d_ways_counts.ok sc_ways_counts (fun vs H Q E h => ?_) (fun f cdv A outer s H vs Q E hr h => ?_)
  · obtain ⟨x, W, ws, n, rfl, _⟩ := h
    rfl
  · obtain ⟨b, W, ws, n, rfl, G, hB, B, hn, q⟩ := h
    have hu : (A.deeper (envOfC "ways_counts" (defScope s_ways_counts) s.heap.objs.size f cdv)).units + 60 < cLine := by have := hr.un; omega
    have hu1 : (A.deeper (envOfC "ways_counts" (defScope s_ways_counts) s.heap.objs.size f cdv)).units + 1 < cLine := by have := hr.un; omega
    refine ⟨_, (pss_cons (ps_expr (pk G_check_number hr (by decide) (by rfl) (pa_cons (pv 1) (pa_cons pe_int (pa_cons (pgi (by rfl) T.g_MOST_LENGTH_thin) pa_nil)))))
      (pss_cons (ps_set (i := 2) sc_ways_counts.nd rfl (.inl rfl) (pe_disp1 hu (pe_tup (pa_cons (pk G_all_points hr (by decide) (by rfl) (pa_cons (fld K (pv 0) rfl) pa_nil)) (pa_cons pe_str (pa_cons pe_int pa_nil)))) pe_int))
      (pss_cons (ps_for PassesOwn.never rfl (pi_range1 (by rfl) T.b_range (pa_cons (pv 1) pa_nil)) (pg_name (i := 3) sc_ways_counts.nd rfl (.inl rfl))
        (pss_cons (ps_set (i := 4) sc_ways_counts.nd rfl (.inl rfl) (newN P w))
        (pss_cons (ps_lock (ps_for PassesOwn.never rfl (pi_keysN (pv 2)) (pgT K (n := 3) rfl (pgs_cons (pg_name (i := 5) sc_ways_counts.nd rfl (.inl rfl)) (pgs_cons (pg_name (i := 6) sc_ways_counts.nd rfl (.inl rfl)) (pgs_cons (pg_name (i := 7) sc_ways_counts.nd rfl (.inl rfl)) pgs_nil))))
          (pss_one (ps_for PassesOwn.never rfl (pi_str (fld K (fld K (pv 0) rfl) rfl)) (pg_name (i := 8) sc_ways_counts.nd rfl (.inl rfl))
            (pss_cons (ps_set (i := 9) sc_ways_counts.nd rfl (.inl rfl) (pk G_stepped hr (by decide) (by rfl) (pa_cons (fld K (pv 0) rfl) (pa_cons (pv 5) (pa_cons (pv 8) pa_nil)))))
            (pss_one (ps_if (pt_cmpR op_gt (pe_callB (crLen K) (by rfl) T.b_len B_len (pa_cons (pv 9) pa_nil)) pe_int (nomark _))
              (pss_cons (ps_asg (pk G_state_behind hr (by decide) (by rfl) (pa_cons (pv 0) (pa_cons (pv 6) (pa_cons (pv 8) pa_nil)))) (pgT K (n := 2) rfl (pgs_cons (pg_name (i := 10) sc_ways_counts.nd rfl (.inl rfl)) (pgs_cons (pg_name (i := 11) sc_ways_counts.nd rfl (.inl rfl)) pgs_nil))))
              (pss_cons (ps_set (i := 12) sc_ways_counts.nd rfl (.inl rfl) (pe_tup (pa_cons (pv 9) (pa_cons (pv 10) (pa_cons (pe_op op_add (pv 7) (pe_callTy call_int1 (by rfl) T.b_int B_int (pa_cons (pe_not (pv 11)) pa_nil))) pa_nil)))))
              (pss_one (ps_nput hu (pv 4) (pv 12) (pe_op op_add (pe_nget2 hu (pv 4) (pv 12) pe_int ⟨rfl, rfl, rfl, rfl⟩) (nget P w hu (pv 2) (pe_tup (pa_cons (pv 5) (pa_cons (pv 6) (pa_cons (pv 7) pa_nil)))) (fun _ _ => rfl))) rfl))))
              pss_nil)))))))
        (pss_one (ps_set (i := 2) sc_ways_counts.nd rfl (.inl rfl) (pv 4))))))
      (pss_cons (ps_set (i := 13) sc_ways_counts.nd rfl (.inl rfl) pe_dnewK)
      (pss_cons (ps_lock (ps_for PassesOwn.never rfl (pi_keysN (pv 2)) (pg_name (i := 12) sc_ways_counts.nd rfl (.inl rfl))
        (pss_one (ps_dput hu1 (pv 13) (pe_ix (ixT K) (pv 12) pe_int (fun _ _ => rfl)) (pe_op op_add (pe_dget2 hu1 (pv 13) (pe_ix (ixT K) (pv 12) pe_int (fun _ _ => rfl)) pe_int ⟨rfl, rfl, rfl, rfl⟩) (nget P w hu (pv 2) (pv 12) (fun _ _ => rfl))) rfl))))
      (pss_one (ps_ret (pv 13)))))))), ?_⟩
    obtain ⟨dxb, fsb, x, kd, bd, KW, BG, hb, f1, hW, f2, hkd, mK, f3, hbd, mB⟩ := id hB
    obtain ⟨dx, fs, aa, sd, TT, hx, g1, g2, hA, g3, g4, hNs, hSt⟩ := id hW
    refine ⟨_, rfl, n, 0, 60, rfl, by omega, by omega, ?_⟩
    intro d nd
    have sm0 : Same H (upd H d (NdO P w d [])) := same_new nd
    refine ⟨_, rfl, b, CB, dxb, fsb, _, rfl, sm0 _ _ hb, T.cl_Book, T.n_Book_web, f1, x, W, rfl, G, hW.same sm0, fun H2 p s2 hp => ⟨le_line (by simp), fun kt nkt => ?_⟩⟩
    have sk := same_new (o := .tup [.ref p, vS [], vI 1]) nkt
    refine ⟨_, _, fkU (List.range W.P, [], 1), rfl, sk _ _ (s2 _ _ upd_same), fkU_is upd_same (sk _ _ hp), fun o hNd => ?_⟩
    have sm2 : Same H (upd (upd H2 kt (.tup [.ref p, vS [], vI 1])) d o) := same_mut (sm0.trans (s2.trans sk)) nd
    have hNd2 : Nd P w (upd (upd H2 kt (.tup [.ref p, vS [], vI 1])) d o) d (tabV fkU [((List.range W.P, [], 1), 1)]) := hNd
    have len60 : ∀ i, i ≤ n → ∀ u ∈ stre W i, u.length ≤ 60 := fun i hi u hu => by rw [((mem_stre G i u).mp hu).2]; omega
    refine ⟨_, rfl, n, rfl, by omega, by omega, for_src (G := fun _ => True) src_rng (fun i σ H4 => ∃ (u3 u4 u5 u6 u7 u8 u9 u10 u11 u12 : Option V) (d : Addr) (L : List (KW3 × Nat)), σ = [some (.ref b), some (vI n), some (.ref d), u3, u4, u5, u6, u7, u8, u9, u10, u11, u12, none] ∧ Same H H4 ∧ H d = none ∧ Nd P w H4 d (tabV fkU L) ∧ Tells L (stre W i) (kU W ws)) ?_ (fun _ _ _ _ _ => trivial) ?_ ?_⟩
    · exact ⟨none, none, none, none, none, none, none, none, none, none, d, _, rfl, sm2, nd, hNd2, ways_first⟩
    · rintro i v σ H4 H5 hi ⟨u3, u4, u5, u6, u7, u8, u9, u10, u11, u12, d, L, rfl, sm4, nd0, hN4, hT⟩ ⟨rfl, rfl⟩
      intro e ne hNe
      have se := same_new (o := NdO P w e []) ne
      have e0 : H e = none := sm4.free ne
      have sm5 := sm4.trans se
      have hN5 := hN4.same se
      obtain ⟨Lr, hR1, hR2, hR3⟩ := id hN5
      have lL := ways_len G B hT (len60 i (by omega))
      have ed : e ≠ d := fun z => by
        obtain ⟨L0, h0, _, _⟩ := hN4
        rw [← z, ne] at h0
        cases h0
      refine ⟨d, _, hR1, True.intro, fun od => ?_⟩
      have hFz : upd (upd H5 e (NdO P w e [])) d (.frz od (NdO P w d Lr)) d = some (.frz od (NdO P w d Lr)) := upd_same
      have hF : NdF P w (upd (upd H5 e (NdO P w e [])) d (.frz od (NdO P w d Lr))) d od (tabV fkU L) := ⟨Lr, upd_same, hR2.mono fun b xs z => by
        rw [upd_ne (fun y => by rw [y, hR1] at z; cases z)]; exact z, hR3⟩
      have hNe6 : Nd P w (upd (upd H5 e (NdO P w e [])) d (.frz od (NdO P w d Lr))) e [] := hNe.upd ed fun xs z => by rw [hR1] at z; cases z
      have sm6 : Same H (upd (upd H5 e (NdO P w e [])) d (.frz od (NdO P w d Lr))) := same_mut sm5 nd0
      refine ⟨_, rfl, d, od, _, rfl, hF, ?_⟩
      have hsg := signs_len G
      refine for_src (G := fun H2 => NdF P w H2 d od (tabV fkU L)) src_nd (fun j σ H7 => ∃ (u5 u6 u7 u8 u9 u10 u11 u12 : Option V) (acc : List (KW3 × Nat)), σ = [some (.ref b), some (vI n), some (.ref d), some (vI i), some (.ref e), u5, u6, u7, u8, u9, u10, u11, u12, none] ∧ Same H H7 ∧ H7 d = some (.frz od (NdO P w d Lr)) ∧ NdF P w H7 d od (tabV fkU L) ∧ Nd P w H7 e (tabV fkU acc) ∧ acc.length ≤ 3 * j ∧ acc = (L.take j).foldl (stepK (nkU W ws) (okU W) (signs W)) []) ?_ ?_ ?_ ?_
      · refine ⟨u5, u6, u7, u8, u9, u10, u11, u12, [], ?_, sm6, hFz, hF, hNe6, Nat.zero_le _, rfl⟩
        show [some (V.ref b), some (vI n), some (V.ref d), some (V.int (0 + (i : Int))), some (V.ref e), u5, u6, u7, u8, u9, u10, u11, u12, none] = _
        rw [Int.zero_add]
      · rintro j σ H7 _ ⟨_, _, _, _, _, _, _, _, _, _, _, _, h, _⟩
        exact h
      · rintro j v σ H7 H8 hj ⟨u5, u6, u7, u8, u9, u10, u11, u12, acc, rfl, sm7, hd7, hF7, hN7, hla, hacc⟩ ⟨rfl, k, v', hkv, hik⟩
        obtain ⟨pr, hp, rfl, rfl⟩ := tabV_at hkv
        obtain ⟨a, a1, rfl, ha, ha1⟩ := fkU_of hik
        have hpm := List.mem_of_getElem? hp
        obtain ⟨u, hu1', hpu⟩ := hT.ks pr.1 (List.mem_map.mpr ⟨pr, hpm, rfl⟩)
        obtain ⟨⟨ps, st, many⟩, cnt0⟩ := pr
        have hps : ends W u = ps := congrArg (fun k : KW3 => k.1) hpu
        have hst : lsuf (begB ws) u = st := congrArg (fun k : KW3 => k.2.1) hpu
        have lp : ps.length ≤ 4 := by rw [← hps]; exact ends_len G u
        have lst : st.length ≤ 9 := by rw [← hst]; exact (beg_len B (lsuf_beg _ (begB_nil ws) u)).1
        rw [tabV_len] at hj
        refine ⟨a, _, rfl, SqT.of ha, rfl, _, _, rfl, _, _, rfl, _, _, rfl, rfl, ?_⟩
        refine ⟨_, rfl, b, CB, dxb, fsb, _, rfl, sm7 _ _ hb, T.cl_Book, T.n_Book_web, f1, x, CW, dx, fs, _, rfl, sm7 _ _ hx, T.cl_Web, T.n_Web_kept_letters, g3, S (signs W), rfl, for_src (G := fun _ => True) src_str (fun m σ H9 => ∃ (u8 u9 u10 u11 u12 : Option V) (acc2 : List (KW3 × Nat)), σ = [some (.ref b), some (vI n), some (.ref d), some (vI i), some (.ref e), some (.ref a1), some (vS st), some (vI many), u8, u9, u10, u11, u12, none] ∧ Same H H9 ∧ H9 d = some (.frz od (NdO P w d Lr)) ∧ NdF P w H9 d od (tabV fkU L) ∧ Nd P w H9 e (tabV fkU acc2) ∧ TupN H9 a1 ps ∧ acc2.length ≤ 3 * j + m ∧ acc2 = ((signs W).take m).foldl (fun acc c => if okU W (ps, st, many) c = true then add acc (nkU W ws (ps, st, many) c) cnt0 else acc) acc) ?_ (fun _ _ _ _ _ => trivial) ?_ ?_⟩
        · exact ⟨u8, u9, u10, u11, u12, acc, rfl, sm7, hd7, hF7, hN7, ha1, hla, rfl⟩
        · rintro m v σ H9 H10 hm ⟨u8, u9, u10, u11, u12, acc2, rfl, sm9, hd9, hF9, hN9, ha9, hl2, hacc2⟩ ⟨rfl, c, hc, rfl⟩
          refine ⟨_, rfl, b, CB, dxb, fsb, _, rfl, sm9 _ _ hb, T.cl_Book, T.n_Book_web, f1, _, rfl, _, rfl, x, a1, W, ps, c, rfl, G, hW.same sm9, ha9, by omega, fun H11 g s11 hg => ?_⟩
          have sm11 := sm9.trans s11
          have hd11 := s11 _ _ hd9
          have hF11 := hF9.same s11
          have hN11 := hN9.same s11
          have ha11 : TupN H11 a1 ps := s11 _ _ ha9
          refine ⟨_, rfl, g, _, rfl, .inr (SqT.of hg), _, _, rfl, rfl, okU W (ps, st, many) c, ?_, ?_⟩
          · show V.bl _ = V.bl _
            congr 1
            show decide _ = decide (0 < (stp W ps c).length)
            rw [decide_eq_decide, List.length_map]
            omega
          have hstp : ((signs W).take (m + 1)).foldl (fun acc c => if okU W (ps, st, many) c = true then add acc (nkU W ws (ps, st, many) c) cnt0 else acc) acc = if okU W (ps, st, many) c = true then add acc2 (nkU W ws (ps, st, many) c) cnt0 else acc2 := by
            rw [take_next hc, List.foldl_append, ← hacc2]
            rfl
          by_cases hok : okU W (ps, st, many) c = true
          · rw [if_pos hok] at hstp
            rw [hok]
            refine iteT ?_
            refine ⟨_, rfl, _, rfl, _, rfl, b, W, ws, st, c, rfl, hB.same sm11, by omega, fun H12 r s12 hr12 => ?_⟩
            refine ⟨r, _, rfl, SqT.of hr12, rfl, _, _, rfl, _, _, rfl, rfl, ?_⟩
            have hk : V.int (if (!endB ws (st ++ [c])) = true then 1 else 0) = V.int ((b2n (!endB ws (st ++ [c])) : Nat) : Int) := by
              unfold b2n
              by_cases z : (!endB ws (st ++ [c])) = true
              · rw [if_pos z, if_pos z]; rfl
              · rw [if_neg z, if_neg z]; rfl
            refine ⟨_, rfl, _, rfl, _, rfl, _, rfl, endB ws (st ++ [c]), rfl, .inr ⟨!endB ws (st ++ [c]), rfl, many, (b2n (!endB ws (st ++ [c])) : Nat), rfl, hk, le_line (by simp), fun kt nkt => ?_⟩⟩
            dsimp only
            have s13 := same_new (o := .tup [.ref g, vS (lsuf (begB ws) (st ++ [c])), V.int ((many : Int) + ((b2n (!endB ws (st ++ [c])) : Nat) : Int))]) nkt
            have hkt0 : upd H12 kt (.tup [.ref g, vS (lsuf (begB ws) (st ++ [c])), V.int ((many : Int) + ((b2n (!endB ws (st ++ [c])) : Nat) : Int))]) kt = some (.tup [.ref g, vS (lsuf (begB ws) (st ++ [c])), V.int ((many : Int) + ((b2n (!endB ws (st ++ [c])) : Nat) : Int))]) := upd_same
            generalize upd H12 kt (.tup [.ref g, vS (lsuf (begB ws) (st ++ [c])), V.int ((many : Int) + ((b2n (!endB ws (st ++ [c])) : Nat) : Int))]) = H13 at s13 hkt0 ⊢
            have hkt : H13 kt = some (.tup [.ref g, vS (lsuf (begB ws) (st ++ [c])), vI (many + b2n (!endB ws (st ++ [c])))]) := hkt0
            have s1113 := s12.trans s13
            have sm13 := sm11.trans s1113
            have hd13 := s1113 _ _ hd11
            have hF13 := hF11.same s1113
            have hN13 := hN11.same s1113
            have ha13 : TupN H13 a1 ps := s1113 _ _ ha11
            have hg13 : TupN H13 g (stp W ps c) := s1113 _ _ hg
            have hik13 : IsKey H13 (.ref kt) (fkU (nkU W ws (ps, st, many) c)) := fkU_is hkt hg13
            refine ⟨_, rfl, e, rfl, ⟨_, hN13.r⟩, _, rfl, _, _, hN13.r, hik13, ?_⟩
            refine ⟨_, rfl, _, rfl, _, rfl, _, rfl, le_line (by simp), fun qt nqt => ?_⟩
            have s14 := same_new (o := .tup [.ref a1, vS st, vI many]) nqt
            have hqt : upd H13 qt (.tup [.ref a1, vS st, vI many]) qt = some (.tup [.ref a1, vS st, vI many]) := upd_same
            generalize upd H13 qt (.tup [.ref a1, vS st, vI many]) = H14 at s14 hqt ⊢
            have sm14 := sm13.trans s14
            have hd14 := s14 _ _ hd13
            have hF14 := hF13.same s14
            have hN14 := hN13.same s14
            have ha14 : TupN H14 a1 ps := s14 _ _ ha13
            have hik14 := hik13.same s14
            refine ⟨d, _, fkU (ps, st, many), vI cnt0, rfl, hF14.r, fkU_is hqt ha14, tabV_val fkU_inj hT.nd hpm, ?_⟩
            refine ⟨look acc2 (nkU W ws (ps, st, many) c), cnt0, tabV_get fkU_inj acc2 _, rfl, ?_⟩
            refine ⟨_, rfl, _, rfl, e, _, _, rfl, hN14, hik14, by rw [tabV_len]; exact small_line (by omega), fun o hNo => ?_⟩
            obtain ⟨R, hR⟩ := hN14.some
            have nte : ∀ xs, H14 e ≠ some (.tup xs) := fun xs z => by rw [hR] at z; cases z
            refine ⟨_, _, _, _, _, add acc2 (nkU W ws (ps, st, many) c) cnt0, rfl, same_mut sm14 e0, by rw [upd_ne (Ne.symm ed)]; exact hd14, hF14.upd (Ne.symm ed) nte, ?_, ?_, Nat.le_trans (add_len _ _ _) (by omega), hstp.symm⟩
            · rw [show add acc2 (nkU W ws (ps, st, many) c) cnt0 = put acc2 (nkU W ws (ps, st, many) c) (look acc2 (nkU W ws (ps, st, many) c) + cnt0) from rfl, ← tabV_put fkU_inj]
              exact hNo
            · show upd H14 e o a1 = _
              rw [upd_ne (fun z => nte _ (by rw [← z]; exact ha14))]
              exact ha14
          · rw [if_neg hok] at hstp
            rw [Bool.not_eq_true] at hok
            rw [hok]
            refine iteF ?_
            exact ⟨_, _, _, _, _, acc2, rfl, sm11, hd11, hF11, hN11, ha11, by omega, hstp.symm⟩
        · rintro σ H9 ⟨u8, u9, u10, u11, u12, acc2, rfl, sm9, hd9, hF9, hN9, ha9, hl2, hacc2⟩
          refine ⟨_, _, _, _, _, _, _, _, acc2, rfl, sm9, hd9, hF9, hN9, by omega, ?_⟩
          rw [take_next hp, List.foldl_append, ← hacc, hacc2, List.take_length]
          rfl
      · rintro σ H7 ⟨u5, u6, u7, u8, u9, u10, u11, u12, acc, rfl, sm7, hd7, hF7, hN7, hla, hacc⟩
        rw [tabV_len, List.take_length] at hacc
        have lT := ways_next B hT
        refine ⟨hd7, ?_⟩
        refine ⟨_, rfl, _, _, _, _, _, _, _, _, _, _, e, acc, rfl, same_mut sm7 nd0, e0, hN7.upd ed (fun xs z => by rw [hd7] at z; cases z), ?_⟩
        rw [hacc]
        exact lT
    · rintro σ H4 ⟨u3, u4, u5, u6, u7, u8, u9, u10, u11, u12, d, L, rfl, sm4, nd0, hN4, hT⟩
      rw [Int.toNat_natCast] at hT
      have lL := ways_len G B hT (len60 n (Nat.le_refl _))
      intro f nf
      have sf := same_new (o := .dK []) nf
      have hf : upd H4 f (.dK []) f = some (.dK []) := upd_same
      have f0 : H f = none := sm4.free nf
      have hN5 := hN4.same sf
      have sm5 := sm4.trans sf
      generalize upd H4 f (.dK []) = H5 at sf hf hN5 sm5 ⊢
      obtain ⟨Lr, hR1, hR2, hR3⟩ := id hN5
      have fd : f ≠ d := fun z => by rw [← z, hf] at hR1; cases hR1
      refine ⟨d, _, hR1, True.intro, fun od => ?_⟩
      have hFz : upd H5 d (.frz od (NdO P w d Lr)) d = some (.frz od (NdO P w d Lr)) := upd_same
      have hF : NdF P w (upd H5 d (.frz od (NdO P w d Lr))) d od (tabV fkU L) := ⟨Lr, upd_same, hR2.mono fun b xs z => by
        rw [upd_ne (fun y => by rw [y, hR1] at z; cases z)]; exact z, hR3⟩
      have hf6 : upd H5 d (.frz od (NdO P w d Lr)) f = some (.dK []) := by rw [upd_ne fd]; exact hf
      have sm6 : Same H (upd H5 d (.frz od (NdO P w d Lr))) := same_mut sm5 nd0
      generalize upd H5 d (.frz od (NdO P w d Lr)) = H6 at hFz hF hf6 sm6 ⊢
      refine ⟨_, rfl, d, od, _, rfl, hF, ?_⟩
      refine for_src (G := fun H2 => NdF P w H2 d od (tabV fkU L)) src_nd (fun j σ H7 => ∃ (u12 : Option V) (M : List (Nat × Nat)), σ = [some (.ref b), some (vI n), some (.ref d), u3, u4, u5, u6, u7, u8, u9, u10, u11, u12, some (.ref f)] ∧ Same H H7 ∧ H7 d = some (.frz od (NdO P w d Lr)) ∧ NdF P w H7 d od (tabV fkU L) ∧ H7 f = some (.dK (tabV kN M)) ∧ M.length ≤ j ∧ M = (L.take j).foldl (fun acc p => add acc p.1.2.2 p.2) []) ?_ ?_ ?_ ?_
      · exact ⟨u12, [], rfl, sm6, hFz, hF, hf6, Nat.le_refl _, rfl⟩
      · rintro j σ H7 _ ⟨_, _, _, _, _, h, _⟩
        exact h
      · rintro j v σ H7 H8 hj ⟨u12, M, rfl, sm7, hd7, hF7, hf7, hlM, hM⟩ ⟨rfl, k, v', hkv, hik⟩
        obtain ⟨pr, hp, rfl, rfl⟩ := tabV_at hkv
        obtain ⟨a, a1, rfl, ha, ha1⟩ := fkU_of hik
        have hpm := List.mem_of_getElem? hp
        rw [tabV_len] at hj
        have hat : atI [V.ref a1, vS pr.1.2.1, vI pr.1.2.2] 2 = some (vI pr.1.2.2) := atI_nat (j := 2) rfl
        refine ⟨_, rfl, f, rfl, .inl ⟨_, .inl hf7⟩, _, rfl, a, _, _, _, rfl, rfl, SqT.of ha, hat, _, DGet.k (k := kN pr.1.2.2) hf7, ?_⟩
        refine ⟨_, rfl, _, rfl, d, _, fkU pr.1, vI pr.2, rfl, hF7.r, hik, tabV_val fkU_inj hT.nd hpm, ?_⟩
        refine ⟨look M pr.1.2.2, pr.2, tabV_get kN_inj M _, rfl, ?_⟩
        refine ⟨_, rfl, _, rfl, a, _, _, _, rfl, rfl, SqT.of ha, hat, f, _, rfl, DPut.k (k := kN pr.1.2.2) hf7 (by rw [tabV_len]; exact small_line (by omega)), ?_⟩
        have fd7 : d ≠ f := Ne.symm fd
        refine ⟨_, add M pr.1.2.2 pr.2, rfl, same_mut sm7 f0, by rw [upd_ne fd7]; exact hd7, hF7.upd fd7 (fun xs z => by rw [hf7] at z; cases z), ?_, Nat.le_trans (add_len _ _ _) (by omega), ?_⟩
        · rw [upd_same, show add M pr.1.2.2 pr.2 = put M pr.1.2.2 (look M pr.1.2.2 + pr.2) from rfl, ← tabV_put kN_inj]
          rfl
        · rw [take_next hp, List.foldl_append, ← hM]
          rfl
      · rintro σ H7 ⟨u12, M, rfl, sm7, hd7, hF7, hf7, hlM, hM⟩
        rw [tabV_len, List.take_length] at hM
        refine ⟨hd7, ?_⟩
        refine ⟨_, rfl, q _ f M (same_mut sm7 nd0) f0 (by rw [upd_ne fd]; exact hf7) ?_⟩
        rw [hM]
        exact hT.fold (fun k : KW3 => k.2.2)
end
end Nj
set_option Elab.async false
set_option linter.all false
set_option maxRecDepth 100000
set_option maxHeartbeats 4000000
/-! The law's hand and its draws. -/
namespace Nj
open PySem PySem.Spec PyProof.Rows L2
theorem seq_mid {a u : TS} {D : Ends} {σ : L2.St} {H : Hp} (Mid : L2.St → Hp → Prop) (rest : ∀ σ' H', Mid σ' H' → u D σ' H') (h : ∀ nx : L2.St → Hp → Prop, (∀ σ' H', Mid σ' H' → nx σ' H') → a { D with nx := nx } σ H) : tSeq a u D σ H := h _ rest
def HandAt (H : Hp) (h c : Addr) : Prop := ∃ (cells : List Int) (i b s t : Int), H h = some (.lst [.ref c, .int i, .int b, .int s, .int t]) ∧ H c = some (.lst (cells.map V.int)) ∧ (∀ x ∈ cells, 0 ≤ x) ∧ 0 ≤ i ∧ 0 ≤ b ∧ 0 ≤ s ∧ 0 ≤ t
theorem HandAt.same {H H' : Hp} {h c : Addr} (e : Same H H') (hh : HandAt H h c) : HandAt H' h c := by
  obtain ⟨cells, i, b, s, t, h1, h2, h3⟩ := hh
  exact ⟨cells, i, b, s, t, e _ _ h1, e _ _ h2, h3⟩
theorem HandAt.lst {H : Hp} {h c : Addr} (hh : HandAt H h c) : ∃ xs, H h = some (.lst xs) := by
  obtain ⟨cells, i, b, s, t, h1, _⟩ := hh
  exact ⟨_, h1⟩
theorem hand_ne {H : Hp} {h c : Addr} {cells : List Int} {xs : List V} (h1 : H h = some (.lst (.ref c :: xs))) (h2 : H c = some (.lst (cells.map V.int))) : c ≠ h := fun z => by
  rw [z, h1] at h2
  have := Option.some.inj h2
  injection this with this
  cases cells with
  | nil => cases this
  | cons a l => injection this with this _; cases this
/-- the number that a draw gives back -/
theorem draw_nat {x : Int} {m : Nat} (hm : 1 ≤ m) : ∃ k : Nat, V.int (x % (m : Int)) = vI k ∧ k < m := by
  have h1 := Int.emod_nonneg x (show (m : Int) ≠ 0 by omega)
  have h2 := Int.emod_lt_of_pos x (show (0 : Int) < m by omega)
  exact ⟨(x % (m : Int)).toNat, by show V.int _ = V.int _; congr 1; omega, by omega⟩
section
variable {P : Program} {w : World} {K : PySem.W.Frag} {mg : Str → Option Value} {base : Heap} {CW CB : Addr}
def spHand (K : PySem.W.Frag) : Sp := fun vs H Q _ => ∃ (a : Addr) (ns : List Int), vs = [.ref a] ∧ SqL K H a (ns.map V.int) ∧ ns.length ≤ 63 ∧ ∀ H' h c, Same H H' → H h = none → H c = none → HandAt H' h c → Q (.ref h) H'
theorem ok_l_hand (T : Txt K mg CW CB) : Ok P w K mg base "_law_hand" 1 ["_law_script"] (spHand K) := by
  refine T.d_l_hand.ok sc_l_hand (fun vs H Q E h => ?_) (fun f cdv A outer s H vs Q E hr h => ?_)
  · obtain ⟨a, ns, rfl, _⟩ := h
    rfl
  · obtain ⟨a, ns, rfl, ha, hl, q⟩ := h
    refine ⟨_, (pss_cons (ps_setLc (i := 1) (own := [("_law_cell", 2)]) rfl sc_l_hand.nd rfl rfl (sw_true rfl rfl rfl (by decide +kernel)) (piL K (pe_slice (slL K) (pv 0) po_none (po_some pe_int))) (blkOk_by (N := ["_law_script", "_law_cells", "_law_cell"]) (sc := defScope s_l_hand) (by decide +kernel)) (fun _ _ _ _ _ => (pg_name (i := 2) sc_l_hand.nd rfl (.inl rfl))) (fun _ _ _ _ _ => pts_nil) (fun _ _ _ _ _ => (pe_callB call_abs (by rfl) T.b_abs B_abs (pa_cons (pe_callTy call_int1 (by rfl) T.b_int B_int (pa_cons (pv 2) pa_nil)) pa_nil))))
      (pss_one (ps_ret (pe_lst (pa_cons (pv 1) (pa_cons pe_int (pa_cons pe_int (pa_cons (pe_op op_add pe_int (pe_callB (crLen K) (by rfl) T.b_len B_len (pa_cons (pv 1) pa_nil))) (pa_cons pe_int pa_nil))))))))), ?_⟩
    refine ⟨_, rfl, _, rfl, a, _, rfl, ha, fun l nl => ?_⟩
    have ecut : cutV (ns.map V.int) Option.none (Option.some 63) = ns.map V.int := by
      unfold cutV
      rw [HT.sIx_none, show (63 : Int) = ((63 : Nat) : Int) from rfl, HT.sIx_nat, List.drop_zero, List.take_of_length_le (by rw [List.length_map]; omega)]
    rw [ecut]
    have sl := same_new (o := .lst (ns.map V.int)) nl
    have hl2 : upd H l (.lst (ns.map V.int)) l = some (.lst (ns.map V.int)) := upd_same
    generalize upd H l (.lst (ns.map V.int)) = H2 at sl hl2 ⊢
    refine ⟨l, rfl, ⟨_, SqL.of hl2⟩, fun D nD => lc_pure (G := fun H3 => SqL K H3 l (ns.map V.int)) src_list (fun _ => true) (fun i => .int (if ns[i]?.getD 0 < 0 then -(ns[i]?.getD 0) else ns[i]?.getD 0)) nD (by rw [List.length_map]; omega) (fun H3 s3 => SqL.of (s3 _ _ hl2)) ?_ ?_⟩
    · rintro i v H3 H' hi s3 ⟨rfl, hv⟩ Qy Qn k1 _
      refine ⟨rfl, yes_go ?_⟩
      rw [List.getElem?_map] at hv
      cases e : ns[i]? with
      | none => rw [e] at hv; cases hv
      | some n =>
        rw [e] at hv
        obtain rfl := Option.some.inj hv
        have := k1 rfl _ (Same.refl _)
        rw [e] at this
        exact ⟨_, rfl, .inl ⟨n, rfl, n, rfl, this⟩⟩
    intro H3 s3 hD
    rw [List.length_map, made_all ns (fun n => V.int (if n < 0 then -n else n)) 0] at hD
    refine ⟨_, rfl, _, rfl, D, _, rfl, .inl (SqL.of hD), 1, _, rfl, rfl, le_line (by simp), fun h nh => ?_⟩
    have sm : Same H (upd H3 h (.lst [.ref D, .int 0, .int 0, .int (1 + ((ns.map fun n => V.int (if n < 0 then -n else n)).length : Nat)), .int 0])) := sl.trans (s3.trans (same_new nh))
    refine q _ h D sm ((sl.trans s3).free nh) (sl.free nD) ⟨ns.map fun n => if n < 0 then -n else n, 0, 0, _, 0, upd_same, ?_, ?_, by decide, by decide, ?_, by decide⟩
    · rw [upd_ne (fun z => by rw [z, nh] at hD; cases hD), hD, List.map_map]
      rfl
    · intro x hx
      obtain ⟨n, _, rfl⟩ := List.mem_map.mp hx
      by_cases z : n < 0
      · rw [if_pos z]; omega
      · rw [if_neg z]; omega
    · omega
def spDraw : Sp := fun vs H Q _ => ∃ (h c : Addr) (m : Nat), vs = [.ref h, vI m] ∧ HandAt H h c ∧ 1 ≤ m ∧ m ≤ 100000 ∧ ∀ H' k, But h H H' → HandAt H' h c → k < m → Q (vI k) H'
theorem ok_l_draw (T : Txt K mg CW CB) : Ok P w K mg base "_law_draw" 1 ["_law_hand_here", "_law_many"] spDraw := by
  refine T.d_l_draw.ok sc_l_draw (fun vs H Q E h => ?_) (fun f cdv A outer s H vs Q E hr h => ?_)
  · obtain ⟨a, c, m, rfl, _⟩ := h
    rfl
  · obtain ⟨h, c, m, rfl, hh, m1, m5, q⟩ := h
    refine ⟨_, (pss_cons (ps_if (PW.pt (pw_and (pt_cmpR op_eq (pe_ix (ixL K) (pv 0) pe_int (fun _ _ => rfl)) pe_int (nomark _)) (pw_and1 (pt_cmpR op_lt (pe_ix (ixL K) (pv 0) pe_int (fun _ _ => rfl)) (pe_callB (crLen K) (by rfl) T.b_len B_len (pa_cons (pe_ix (ixL K) (pv 0) pe_int (fun _ _ => rfl)) pa_nil)) (nomark _)))))
        (pss_cons (ps_set (i := 2) sc_l_draw.nd rfl (.inl rfl) (pe_ix (ixL K) (pe_ix (ixL K) (pv 0) pe_int (fun _ _ => rfl)) (pe_ix (ixL K) (pv 0) pe_int (fun _ _ => rfl)) (fun _ _ => rfl)))
        (pss_cons (ps_asg (pe_op op_add (pe_ix (ixL K) (pv 0) pe_int (fun _ _ => rfl)) pe_int) (pg_sub (pv 0) pe_int set_list))
        (pss_cons (ps_asg (pe_op op_mod (pe_callTy call_int1 (by rfl) T.b_int B_int (pa_cons (pe_op op_add (pe_op op_add (pe_op op_mul (pe_ix (ixL K) (pv 0) pe_int (fun _ _ => rfl)) pe_int) (pv 2)) pe_int) pa_nil)) pe_int) (pg_sub (pv 0) pe_int set_list))
        (pss_one (ps_if (pt_cmpR op_ge (pv 2) (pe_op op_pow pe_int pe_int) (nomark _))
          (pss_one (ps_asg (pv 2) (pg_sub (pv 0) pe_int set_list)))
          pss_nil)))))
        pss_nil)
      (pss_cons (ps_if (pt_cmpR op_gt (pe_ix (ixL K) (pv 0) pe_int (fun _ _ => rfl)) pe_int (nomark _))
        (pss_cons (ps_set (i := 3) sc_l_draw.nd rfl (.inl rfl) (pe_op op_mod (pe_callTy call_int1 (by rfl) T.b_int B_int (pa_cons (pe_ix (ixL K) (pv 0) pe_int (fun _ _ => rfl)) pa_nil)) (pv 1)))
        (pss_cons (ps_asg (pe_op op_fdiv (pe_ix (ixL K) (pv 0) pe_int (fun _ _ => rfl)) (pv 1)) (pg_sub (pv 0) pe_int set_list))
        (pss_one (ps_ret (pv 3)))))
        pss_nil)
      (pss_cons (ps_asg (pe_op op_add (pe_ix (ixL K) (pv 0) pe_int (fun _ _ => rfl)) pe_int) (pg_sub (pv 0) pe_int set_list))
      (pss_cons (ps_set (i := 4) sc_l_draw.nd rfl (.inl rfl) (pe_op op_mod (pe_callTy call_int1 (by rfl) T.b_int B_int (pa_cons (pe_op op_mul (pe_callTy call_int1 (by rfl) T.b_int B_int (pa_cons (pe_op op_add (pe_ix (ixL K) (pv 0) pe_int (fun _ _ => rfl)) (pe_op op_mul pe_int (pe_ix (ixL K) (pv 0) pe_int (fun _ _ => rfl)))) pa_nil)) pe_int) pa_nil)) pe_int))
      (pss_cons (ps_set (i := 4) sc_l_draw.nd rfl (.inl rfl) (pe_op op_mod (pe_callTy call_int1 (by rfl) T.b_int B_int (pa_cons (pe_op op_mul (pv 4) (pe_op op_add (pe_op op_fdiv (pv 4) pe_int) pe_int)) pa_nil)) pe_int))
      (pss_cons (ps_set (i := 4) sc_l_draw.nd rfl (.inl rfl) (pe_op op_mod (pe_callTy call_int1 (by rfl) T.b_int B_int (pa_cons (pe_op op_mul (pv 4) (pe_op op_add (pe_op op_fdiv (pv 4) pe_int) pe_int)) pa_nil)) pe_int))
      (pss_one (ps_ret (pe_op op_mod (pe_callTy call_int1 (by rfl) T.b_int B_int (pa_cons (pe_op op_fdiv (pv 4) pe_int) pa_nil)) (pv 1)))))))))), ?_⟩
    refine seq_mid (fun σ H' => ∃ u2, σ = [some (.ref h), some (vI m), u2, none, none] ∧ But h H H' ∧ HandAt H' h c) ?_ ?_
    · rintro σ H2 ⟨u2, rfl, B2, cells, i, b, s, t, h1, h2, h3, hi, hb, hs, ht⟩
      have hS := SqL.of (K := K) h1
      have ch := hand_ne h1 h2
      refine ⟨_, rfl, h, _, _, .int b, rfl, rfl, hS, atI_nat (j := 2) rfl, b, 0, rfl, rfl, decide (0 < b), rfl, ?_⟩
      by_cases hb0 : 0 < b
      · rw [decide_eq_true hb0]
        refine iteT ?_
        obtain ⟨k, hk, hkm⟩ := draw_nat (x := b) m1
        refine ⟨_, rfl, h, _, _, .int b, rfl, rfl, hS, atI_nat (j := 2) rfl, .inl ⟨b, rfl, _, rfl, b, m, rfl, rfl, by omega, ?_⟩⟩
        refine ⟨_, rfl, h, _, _, .int b, rfl, rfl, hS, atI_nat (j := 2) rfl, _, rfl, b, m, rfl, rfl, ⟨by omega, by omega⟩, ?_⟩
        refine ⟨_, rfl, h, _, 2, 2, rfl, rfl, h1, rfl, ?_⟩
        refine ⟨_, rfl, ?_⟩
        show Q (V.int (b % (m : Int))) _
        rw [hk]
        refine q _ k (B2.trans But.upd) ⟨cells, i, b / m, s, t, upd_same, by rw [upd_ne ch]; exact h2, h3, hi, Int.ediv_nonneg hb (by omega), hs, ht⟩ hkm
      · rw [decide_eq_false hb0]
        refine iteF ?_
        refine ⟨_, rfl, h, _, _, .int t, rfl, rfl, hS, atI_nat (j := 4) rfl, t, 1, rfl, rfl, _, rfl, h, _, 4, 4, rfl, rfl, h1, rfl, ?_⟩
        have hS2 := SqL.of (K := K) (show upd H2 h (.lst [.ref c, .int i, .int b, .int s, .int (t + 1)]) h = some (.lst [.ref c, .int i, .int b, .int s, .int (t + 1)]) from upd_same)
        have B3 : But h H (upd H2 h (.lst [.ref c, .int i, .int b, .int s, .int (t + 1)])) := B2.trans But.upd
        have hh3 : HandAt (upd H2 h (.lst [.ref c, .int i, .int b, .int s, .int (t + 1)])) h c := ⟨cells, i, b, s, t + 1, upd_same, by rw [upd_ne ch]; exact h2, h3, hi, hb, hs, by omega⟩
        refine ⟨_, rfl, h, _, _, .int s, rfl, rfl, hS2, atI_nat (j := 3) rfl, _, rfl, h, _, _, .int (t + 1), rfl, rfl, hS2, atI_nat (j := 4) rfl, 7919, t + 1, rfl, rfl, .inl ⟨by decide, by decide⟩, s, _, rfl, rfl, .inl ⟨_, rfl, _, 48271, rfl, rfl, .inr ⟨by decide, by decide⟩, .inl ⟨_, rfl, _, 2147483647, rfl, rfl, (by show (0 : Int) < 2147483647; decide), ?_⟩⟩⟩
        dsimp only
        generalize hA1 : (s + 7919 * (t + 1)) * 48271 % 2147483647 = x1
        have x1a : 0 ≤ x1 := by rw [← hA1]; exact Int.emod_nonneg _ (by decide)
        have x1b : x1 < 2147483647 := by rw [← hA1]; exact Int.emod_lt_of_pos _ (by decide)
        refine ⟨_, rfl, _, rfl, x1, 1009, rfl, rfl, ⟨by decide, by decide⟩, _, 69621, rfl, rfl, x1, _, rfl, rfl, .inl ⟨by omega, by omega⟩, .inl ⟨_, rfl, _, 2147483647, rfl, rfl, (by show (0 : Int) < 2147483647; decide), ?_⟩⟩
        dsimp only
        generalize hA2 : x1 * (x1 / 1009 + 69621) % 2147483647 = x2
        have x2a : 0 ≤ x2 := by rw [← hA2]; exact Int.emod_nonneg _ (by decide)
        have x2b : x2 < 2147483647 := by rw [← hA2]; exact Int.emod_lt_of_pos _ (by decide)
        refine ⟨_, rfl, _, rfl, x2, 2003, rfl, rfl, ⟨by decide, by decide⟩, _, 40692, rfl, rfl, x2, _, rfl, rfl, .inl ⟨by omega, by omega⟩, .inl ⟨_, rfl, _, 2147483399, rfl, rfl, (by show (0 : Int) < 2147483399; decide), ?_⟩⟩
        dsimp only
        generalize x2 * (x2 / 2003 + 40692) % 2147483399 = x3
        obtain ⟨k, hk, hkm⟩ := draw_nat (x := x3 / 16) m1
        refine ⟨_, rfl, x3, 16, rfl, rfl, ⟨by decide, by decide⟩, .inl ⟨_, rfl, _, rfl, x3 / 16, m, rfl, rfl, by omega, ?_⟩⟩
        show Q (V.int (x3 / 16 % (m : Int))) _
        rw [hk]
        exact q _ k B3 hh3 hkm
    · intro nx hnx
      obtain ⟨cells, i, b, s, t, h1, h2, h3, hi, hb, hs, ht⟩ := id hh
      have hS := SqL.of (K := K) h1
      have hC := SqL.of (K := K) h2
      have ch := hand_ne h1 h2
      refine ⟨_, rfl, h, _, _, .int b, rfl, rfl, hS, atI_nat (j := 2) rfl, rfl, decide (b = 0), ?_, ?_⟩
      · show V.bl _ = V.bl _
        congr 1
        rw [decide_eq_decide]
        exact ⟨fun z => V.int.inj z, fun z => by rw [z]⟩
      by_cases hb0 : b = 0
      · rw [decide_eq_true hb0]
        refine iteT ?_
        refine ⟨_, rfl, h, _, _, .int i, rfl, rfl, hS, atI_nat (j := 1) rfl, _, rfl, h, _, _, .ref c, rfl, rfl, hS, atI_nat (j := 0) rfl, c, _, rfl, .inl hC, i, _, rfl, rfl, decide (i < cells.length), ?_, ?_⟩
        · show V.bl _ = V.bl _
          congr 1
          rw [decide_eq_decide, List.length_map]
        by_cases hil : i < cells.length
        · rw [decide_eq_true hil]
          refine iteT ?_
          have hit : i.toNat < cells.length := by omega
          have hat : atI (cells.map V.int) i = some (.int cells[i.toNat]) := by
            have h0 := atI_nat (xs := cells.map V.int) (j := i.toNat) (v := .int cells[i.toNat]) (by rw [List.getElem?_map, List.getElem?_eq_getElem hit]; rfl)
            rw [Int.toNat_of_nonneg hi] at h0
            exact h0
          have hx0 : 0 ≤ cells[i.toNat] := h3 _ (List.getElem_mem hit)
          refine ⟨_, rfl, h, _, _, .ref c, rfl, rfl, hS, atI_nat (j := 0) rfl, _, rfl, h, _, _, .int i, rfl, rfl, hS, atI_nat (j := 1) rfl, c, _, _, _, rfl, rfl, hC, hat, ?_⟩
          generalize cells[i.toNat] = x at hx0 hat ⊢
          refine ⟨_, rfl, h, _, _, .int i, rfl, rfl, hS, atI_nat (j := 1) rfl, i, 1, rfl, rfl, _, rfl, h, _, 1, 1, rfl, rfl, h1, rfl, ?_⟩
          have k2 : upd H h (.lst [.ref c, .int (i + 1), .int b, .int s, .int t]) h = some (.lst [.ref c, .int (i + 1), .int b, .int s, .int t]) := upd_same
          have c2 : upd H h (.lst [.ref c, .int (i + 1), .int b, .int s, .int t]) c = some (.lst (cells.map V.int)) := by rw [upd_ne ch]; exact h2
          have B2 : But h H (upd H h (.lst [.ref c, .int (i + 1), .int b, .int s, .int t])) := But.upd
          dsimp only [List.set]
          generalize upd H h (.lst [.ref c, .int (i + 1), .int b, .int s, .int t]) = H2 at k2 c2 B2 ⊢
          have hS2 := SqL.of (K := K) k2
          refine ⟨_, rfl, h, _, _, .int s, rfl, rfl, hS2, atI_nat (j := 3) rfl, s, 69621, rfl, rfl, .inr ⟨by decide, by decide⟩, _, rfl, _, x, rfl, rfl, _, 11, rfl, rfl, .inl ⟨_, rfl, _, 2147483629, rfl, rfl, (by show (0 : Int) < 2147483629; decide), ?_⟩⟩
          refine ⟨_, rfl, h, _, 3, 3, rfl, rfl, k2, rfl, ?_⟩
          have s3 : 0 ≤ (s * 69621 + x + 11) % 2147483629 := Int.emod_nonneg _ (by decide)
          dsimp only [List.set]
          generalize (s * 69621 + x + 11) % 2147483629 = s' at s3 ⊢
          have k3 : upd H2 h (.lst [.ref c, .int (i + 1), .int b, .int s', .int t]) h = some (.lst [.ref c, .int (i + 1), .int b, .int s', .int t]) := upd_same
          have c3 : upd H2 h (.lst [.ref c, .int (i + 1), .int b, .int s', .int t]) c = some (.lst (cells.map V.int)) := by rw [upd_ne ch]; exact c2
          have B3 : But h H (upd H2 h (.lst [.ref c, .int (i + 1), .int b, .int s', .int t])) := B2.trans But.upd
          generalize upd H2 h (.lst [.ref c, .int (i + 1), .int b, .int s', .int t]) = H3 at k3 c3 B3 ⊢
          refine ⟨_, rfl, 10, 18, rfl, rfl, ⟨by decide, by decide, by decide⟩, x, _, rfl, rfl, decide (x ≥ 10 ^ 18), rfl, ?_⟩
          by_cases hx : x ≥ 10 ^ 18
          · rw [decide_eq_true hx]
            refine iteT ?_
            refine ⟨_, rfl, _, rfl, h, _, 2, 2, rfl, rfl, k3, rfl, hnx _ _ ⟨_, rfl, B3.trans But.upd, cells, i + 1, x, s', t, upd_same, by rw [upd_ne ch]; exact c3, h3, by omega, hx0, s3, ht⟩⟩
          · rw [decide_eq_false hx]
            refine iteF ?_
            exact hnx _ _ ⟨_, rfl, B3, cells, i + 1, b, s', t, k3, c3, h3, by omega, hb, s3, ht⟩
        · rw [decide_eq_false hil]
          refine iteF ?_
          exact hnx _ _ ⟨_, rfl, Same.but (Same.refl H), hh⟩
      · rw [decide_eq_false hb0]
        refine iteF ?_
        exact hnx _ _ ⟨_, rfl, Same.but (Same.refl H), hh⟩
end
end Nj
set_option Elab.async false
set_option linter.all false
set_option maxRecDepth 100000
set_option maxHeartbeats 4000000
/-! The law's own walks of a web. -/
namespace Nj
open PySem PySem.Spec PyProof.Rows L2
def PartsAt (H : Hp) (p : Addr) (W : Web) : Prop := ∃ aa, H p = some (.tup [vI W.P, .ref aa]) ∧ Arr H aa W.AR
theorem PartsAt.same {H H' : Hp} {p : Addr} {W : Web} (e : Same H H') (h : PartsAt H p W) : PartsAt H' p W := by
  obtain ⟨aa, h1, h2⟩ := h
  exact ⟨aa, e _ _ h1, h2.same e⟩
theorem arD_eqv (r s : Nat × Nat × Nat) : PyData.eqv (arD r) (arD s) = decide (r = s) := by
  obtain ⟨a, b, c⟩ := r
  obtain ⟨a', b', c'⟩ := s
  have hb : (S [b] == S [b']) = decide (b = b') := by
    rw [Bool.eq_iff_iff, beq_iff_eq, decide_eq_true_iff]
    exact ⟨fun z => by simpa using S_inj z, fun z => by rw [z]⟩
  have ha : ∀ x y : Nat, ((x : Int) == (y : Int)) = decide (x = y) := fun x y => by
    rw [Bool.eq_iff_iff, beq_iff_eq, decide_eq_true_iff]
    omega
  simp only [arD, PyData.eqv, PyData.eqvAll, hb, ha]
  rw [Bool.eq_iff_iff]
  simp [Prod.ext_iff]
theorem arD_shaped {r : Nat × Nat × Nat} (h : r.2.1 < 1000) : SeqAt.shaped (arD r) = true := by
  have hs : PyData.strOk (S [r.2.1]) = true := by
    unfold PyData.strOk
    rw [Array.all_eq_true']
    intro x hx
    have : x = r.2.1 := by simpa [S] using hx
    rw [this, decide_eq_true_iff]
    omega
  simp [SeqAt.shaped, arD, PyData.canLay0, PyData.canLayAll0, PyData.depth, PyData.depthAll, hs]
theorem arDs_lay : ∀ AR : List (Nat × Nat × Nat), (∀ r ∈ AR, r.2.1 < 1000) → PyData.canLayAll0 (AR.map arD) = true
  | [], _ => by simp [PyData.canLayAll0]
  | r :: AR, h => by
    rw [List.map_cons]
    simp [PyData.canLayAll0, arDs_lay AR (fun x hx => h x (by simp [hx])), SeqAt.canLay_of_shaped (arD_shaped (h r (by simp)))]
theorem arDs_depth : ∀ AR : List (Nat × Nat × Nat), PyData.depthAll (AR.map arD) ≤ 1
  | [] => by simp [PyData.depthAll]
  | r :: AR => by
    rw [List.map_cons]
    have := arDs_depth AR
    have := arD_depth r
    simp only [PyData.depthAll]
    omega
theorem arDs_shaped {AR : List (Nat × Nat × Nat)} (h : ∀ r ∈ AR, r.2.1 < 1000) : SeqAt.shaped (.tuple (AR.map arD)) = true := by
  have h1 := arDs_lay AR h
  have h2 := arDs_depth AR
  unfold SeqAt.shaped
  rw [Bool.and_eq_true, decide_eq_true_iff]
  exact ⟨by simpa [PyData.canLay0] using h1, by simp only [PyData.depth]; omega⟩
theorem arDs_any (AR : List (Nat × Nat × Nat)) (r : Nat × Nat × Nat) : ((AR.map arD).any fun z => PyData.eqv z (arD r)) = decide (r ∈ AR) := by
  rw [Bool.eq_iff_iff, List.any_eq_true, decide_eq_true_iff]
  constructor
  · rintro ⟨z, hz, e⟩
    obtain ⟨s, hs, rfl⟩ := List.mem_map.mp hz
    rw [arD_eqv, decide_eq_true_iff] at e
    rw [← e]
    exact hs
  · intro h
    exact ⟨arD r, List.mem_map.mpr ⟨r, h, rfl⟩, by rw [arD_eqv, decide_eq_true_iff]⟩
/-- a comprehension with a test, item by item -/
theorem made_filter {α β : Type} (l : List α) (f : α → Bool) (g : α → β) (d : α) : made l.length (fun i => f (l[i]?.getD d)) (fun i => g (l[i]?.getD d)) = (l.filter f).map g := by
  have e : l = (List.range l.length).map fun i => l[i]?.getD d := by
    refine List.ext_getElem? fun i => ?_
    rw [List.getElem?_map]
    by_cases hi : i < l.length
    · rw [List.getElem?_range hi, List.getElem?_eq_getElem hi]
      simp [List.getElem?_eq_getElem hi]
    · rw [List.getElem?_eq_none (by omega), List.getElem?_eq_none (by rw [List.length_range]; omega)]
      rfl
  have e2 : (l.filter f).map g = (((List.range l.length).map fun i => l[i]?.getD d).filter f).map g := congrArg (fun z => (z.filter f).map g) e
  rw [e2, List.filter_map, List.map_map]
  rfl
section
variable {P : Program} {w : World} {K : PySem.W.Frag} {mg : Str → Option Value} {base : Heap} {CW CB : Addr}
theorem AZ_small {c : Nat} (h : c ∈ AZ) : c < 1000 := by
  have : ∀ c ∈ AZ, c < 1000 := by decide
  exact this c h
def spLEnds : Sp := fun vs H Q _ => ∃ (p : Addr) (W : Web) (t : Tx), vs = [.ref p, vS t] ∧ GoodW W ∧ (∀ c ∈ t, c ∈ AZ) ∧ PartsAt H p W ∧ ∀ H' l, Same H H' → H' l = some (.lst ((ends W t).map vI)) → Q (.ref l) H'
theorem ok_l_ends (T : Txt K mg CW CB) : Ok P w K mg base "_law_ends" 1 ["_law_parts", "_law_text"] spLEnds := by
  refine T.d_l_ends.ok sc_l_ends (fun vs H Q E h => ?_) (fun f cdv A outer s H vs Q E hr h => ?_)
  · obtain ⟨p, W, t, rfl, _⟩ := h
    rfl
  · obtain ⟨p, W, t, rfl, G, hz, ⟨aa, hp, hA⟩, q⟩ := h
    have hu3 : (A.deeper (envOfC "_law_ends" (defScope s_l_ends) s.heap.objs.size f cdv)).units + 65 < cLine := by have := hr.un; omega
    refine ⟨_, (pss_cons (ps_set (i := 2) sc_l_ends.nd rfl (.inr rfl) (pe_listRg rfl (by rfl) T.b_list (prg_1 (by rfl) T.b_range (pe_ix (ixT K) (pv 0) pe_int (fun _ _ => rfl)))))
      (pss_cons (ps_for PassesOwn.never rfl (pi_str (pv 1)) (pg_name (i := 3) sc_l_ends.nd rfl (.inr rfl))
        (pss_one (ps_set (i := 2) sc_l_ends.nd rfl (.inr rfl) (pe_lc (own := [("_law_goal", 4)]) rfl sc_l_ends.nd (pi_range1 (by rfl) T.b_range (pa_cons (pe_ix (ixT K) (pv 0) pe_int (fun _ _ => rfl)) pa_nil)) (blkOk_by (N := ["_law_parts", "_law_text", "_law_points", "_law_sign", "_law_goal", "_law_one"]) (sc := defScope s_l_ends) (by decide +kernel)) (fun _ _ _ _ _ => (pg_name (i := 4) sc_l_ends.nd rfl (.inr rfl))) (fun _ _ _ _ _ => (pts_one (pt_val (pe_callB (crAny K rfl) (by rfl) T.b_any B_any (pa_cons (pe_lc (own := [("_law_one", 5)]) rfl sc_l_ends.nd (piL K (pv 2)) (blkOk_by (N := ["_law_parts", "_law_text", "_law_points", "_law_sign", "_law_goal", "_law_one"]) (sc := (relS ⟨.function, [(".0", .local), ("_law_goal", .cell), ("any", .globalImplicit), ("_law_parts", .free), ("_law_points", .free), ("_law_sign", .free)], false, false, []⟩ (defScope s_l_ends))) (by decide +kernel)) (fun _ _ _ _ _ => (pg_name (i := 5) sc_l_ends.nd rfl (.inl rfl))) (fun _ _ _ _ _ => pts_nil) (fun _ _ _ _ _ => (pe_cmpR (inTD K hu3) (pe_tup (pa_cons (pv 5) (pa_cons (pv 3) (pa_cons (pv 4) pa_nil)))) (pe_ix (ixT K) (pv 0) pe_int (fun _ _ => rfl)) (by rfl)))) pa_nil))))) (fun _ _ _ _ _ => (pv 4))))))
      (pss_one (ps_ret (pv 2))))), ?_⟩
    have p4 := G.p4
    have hAR : ∀ r ∈ W.AR, r.2.1 < 1000 := fun r hr => AZ_small (AB_AZ (G.ran r hr).2.1)
    refine ⟨_, rfl, p, _, _, vI W.P, rfl, rfl, SqT.of hp, atI_nat (j := 0) rfl, W.P, rfl, .of_le (by omega) (by omega) (by omega) (by omega), fun l nl => ?_⟩
    rw [rgV_nat]
    refine ⟨_, rfl, S t, rfl, for_src (G := fun _ => True) src_str (fun i σ H2 => ∃ (u3 : Option V) (l : Addr), σ = [some (.ref p), some (vS t), some (.ref l), u3, none, none] ∧ Same H H2 ∧ H2 l = some (.lst ((ends W (t.take i)).map vI)) ∧ (ends W (t.take i)).length ≤ 4) ?_ (fun _ _ _ _ _ => trivial) ?_ ?_⟩
    · exact ⟨none, l, rfl, same_new nl, upd_same, ends_len G _⟩
    · rintro i v σ H2 H3 hi ⟨u3, l, rfl, sm, hl, ll⟩ ⟨rfl, c, hc, rfl⟩
      have hcz := hz c (List.mem_of_getElem? hc)
      generalize hps : ends W (t.take i) = ps at hl ll
      refine ⟨_, rfl, p, _, _, vI W.P, rfl, rfl, SqT.of (sm _ _ hp), atI_nat (j := 0) rfl, W.P, rfl, by omega, by omega, fun D nD => lc_pure (G := fun _ => True) src_rng (fun g => ps.any fun o => decide ((o, c, g) ∈ W.AR)) vI nD (by omega) (fun _ _ => trivial) ?_ ?_⟩
      · rintro g v H4 H' hg s4 ⟨rfl, rfl⟩ Qy Qn k1 k2
        refine ⟨rfl, ?_⟩
        have hl4 := s4 _ _ hl
        refine ⟨_, rfl, l, rfl, ⟨_, SqL.of hl4⟩, fun D2 nD2 => lc_pure (G := fun H5 => SqL K H5 l (ps.map vI)) src_list (fun _ => true) (fun k => .bl (decide ((ps[k]?.getD 0, c, g) ∈ W.AR))) nD2 (by rw [List.length_map]; omega) (fun H5 s5 => SqL.of (s5 _ _ hl4)) ?_ ?_⟩
        · rintro k v H5 H' hk s5 ⟨rfl, hv⟩ Qy' Qn' k3 _
          refine ⟨rfl, yes_go ?_⟩
          rw [List.getElem?_map] at hv
          cases e : ps[k]? with
          | none => rw [e] at hv; cases hv
          | some o =>
            rw [e] at hv
            obtain rfl := Option.some.inj hv
            have s35 := sm.trans (s4.trans s5)
            refine ⟨_, rfl, _, rfl, _, rfl, le_line (by simp), fun kt nkt => ?_⟩
            have st := same_new (o := .tup [vI o, .str (S [c]), .int (0 + (g : Int))]) nkt
            have hkt : upd H' kt (.tup [vI o, .str (S [c]), .int (0 + (g : Int))]) kt = some (.tup (arV (o, c, g))) := by
              rw [upd_same, Int.zero_add]; rfl
            have k3' := k3 rfl _ st
            rw [e] at k3'
            refine ⟨_, rfl, p, _, _, .ref aa, rfl, rfl, SqT.of (st _ _ (s35 _ _ hp)), atI_nat (j := 1) rfl, arD (o, c, g), W.AR.map arD, arD_dp hkt, (hA.same (s35.trans st)).dp, arD_shaped (AZ_small hcz), arDs_shaped hAR, ?_⟩
            rw [arDs_any]
            exact k3'
        · intro H5 s5 hD2
          rw [List.length_map, made_all ps (fun o => V.bl (decide ((o, c, g) ∈ W.AR))) 0] at hD2
          refine ⟨D2, ps.map fun o => decide ((o, c, g) ∈ W.AR), rfl, .inl (.inl (by rw [List.map_map]; exact hD2)), ps.any fun o => decide ((o, c, g) ∈ W.AR), ?_, ?_⟩
          · rw [List.any_map]; rfl
          · by_cases hb : (ps.any fun o => decide ((o, c, g) ∈ W.AR)) = true
            · dsimp only
              rw [if_pos hb]
              refine ⟨_, rfl, ?_⟩
              rw [Int.zero_add]
              exact k1 hb _ s5
            · dsimp only
              rw [if_neg hb]
              rw [Bool.not_eq_true] at hb
              exact k2 hb _ s5
      · intro H4 s4 hD
        have e1 : ends W (t.take (i + 1)) = stp W ps c := by rw [take_next hc, ends_snoc, hps]
        refine ⟨_, D, rfl, sm.trans s4, ?_⟩
        rw [e1]
        refine ⟨?_, stp_len G _ _⟩
        rw [hD, Int.toNat_natCast]
        rfl
    · rintro σ H2 ⟨u3, l, rfl, sm, hl, _⟩
      rw [List.take_length] at hl
      exact ⟨_, rfl, q H2 l sm hl⟩
end
end Nj
set_option Elab.async false
set_option linter.all false
set_option maxRecDepth 100000
set_option maxHeartbeats 4000000
/-! The law's own stretches. -/
namespace Nj
open PySem PySem.Spec PyProof.Rows L2
abbrev LstS (H : Hp) (l : Addr) (ts : List Tx) : Prop := H l = some (.lst (ts.map vS))
section
variable {P : Program} {w : World} {K : PySem.W.Frag} {mg : Str → Option Value} {base : Heap} {CW CB : Addr}
def spLSigns : Sp := fun vs H Q _ => ∃ (p : Addr) (W : Web), vs = [.ref p] ∧ GoodW W ∧ PartsAt H p W ∧ ∀ H' l, Same H H' → H l = none → LstS H' l ((signs W).map fun c => [c]) → Q (.ref l) H'
theorem ok_l_signs (T : Txt K mg CW CB) : Ok P w K mg base "_law_signs" 1 ["_law_parts"] spLSigns := by
  refine T.d_l_signs.ok sc_l_signs (fun vs H Q E h => ?_) (fun f cdv A outer s H vs Q E hr h => ?_)
  · obtain ⟨p, W, rfl, _⟩ := h
    rfl
  · obtain ⟨p, W, rfl, G, ⟨aa, hp, hA⟩, q⟩ := h
    refine ⟨_, (pss_one (ps_ret (pe_lc (own := [("_law_sign", 1)]) rfl sc_l_signs.nd (pi_str pe_str) (blkOk_by (N := ["_law_parts", "_law_sign", "_law_arrow"]) (sc := defScope s_l_signs) (by decide +kernel)) (fun _ _ _ _ _ => (pg_name (i := 1) sc_l_signs.nd rfl (.inr rfl))) (fun _ _ _ _ _ => (pts_one (pt_val (pe_callB (crAny K rfl) (by rfl) T.b_any B_any (pa_cons (pe_lc (own := [("_law_arrow", 2)]) rfl sc_l_signs.nd (piT K (pe_ix (ixT K) (pv 0) pe_int (fun _ _ => rfl))) (blkOk_by (N := ["_law_parts", "_law_sign", "_law_arrow"]) (sc := (relS ⟨.function, [(".0", .local), ("_law_sign", .cell), ("any", .globalImplicit), ("_law_parts", .free)], false, false, []⟩ (defScope s_l_signs))) (by decide +kernel)) (fun _ _ _ _ _ => (pg_name (i := 2) sc_l_signs.nd rfl (.inl rfl))) (fun _ _ _ _ _ => pts_nil) (fun _ _ _ _ _ => (pe_cmpR op_eq (pe_ix (ixT K) (pv 2) pe_int (fun _ _ => rfl)) (pv 1) (nomark _)))) pa_nil))))) (fun _ _ _ _ _ => (pv 1))))), ?_⟩
    obtain ⟨as, ha, hpr⟩ := id hA
    have hal : as.length = W.AR.length := Paired.length hpr
    have hsm := AR_small G
    refine ⟨S AZ, rfl, fun D nD => lc_pure (G := fun _ => True) src_str (fun i => W.AR.any fun r => decide (r.2.1 = AZ[i]?.getD 0)) (fun i => vS [AZ[i]?.getD 0]) nD (by decide) (fun _ _ => trivial) ?_ ?_⟩
    · rintro i v H2 H' hi sm ⟨rfl, c, hc, rfl⟩ Qy Qn k1 k2
      rw [hc] at k1 k2
      refine ⟨rfl, ?_⟩
      have hp2 := sm _ _ hp
      have ha2 := sm _ _ ha
      refine ⟨_, rfl, p, _, _, .ref aa, rfl, rfl, SqT.of hp2, atI_nat (j := 1) rfl, aa, rfl, ⟨_, SqT.of ha2⟩, fun D2 nD2 => lc_pure (G := fun H5 => SqT K H5 aa (as.map .ref)) src_tup (fun _ => true) (fun k => .bl (decide ((W.AR[k]?.getD (0, 0, 0)).2.1 = c))) nD2 (by rw [List.length_map]; omega) (fun H5 s5 => SqT.of (s5 _ _ ha2)) ?_ ?_⟩
      · rintro k v H5 H' hk s5 ⟨rfl, hv⟩ Qy' Qn' k3 _
        obtain ⟨b, r, rfl, hr1, hb⟩ := hpr.get hv
        refine ⟨rfl, yes_go ?_⟩
        rw [hr1] at k3
        refine ⟨_, rfl, b, _, _, .str (S [r.2.1]), rfl, rfl, SqT.of (s5 _ _ (sm _ _ hb)), atI_nat (j := 1) rfl, _, rfl, rfl, ?_⟩
        have e : decide (V.str (S [r.2.1]) = V.str (S [c])) = decide (r.2.1 = c) := by
          rw [decide_eq_decide]
          exact ⟨fun z => by simpa using S_inj (V.str.inj z), fun z => by rw [z]⟩
        rw [e]
        exact k3 rfl _ (Same.refl _)
      · intro H5 s5 hD2
        rw [List.length_map, hal, made_all W.AR (fun r => V.bl (decide (r.2.1 = c))) (0, 0, 0)] at hD2
        refine ⟨D2, W.AR.map fun r => decide (r.2.1 = c), rfl, .inl (.inl (by rw [List.map_map]; exact hD2)), W.AR.any fun r => decide (r.2.1 = c), ?_, ?_⟩
        · rw [List.any_map]; rfl
        · by_cases hb : (W.AR.any fun r => decide (r.2.1 = c)) = true
          · dsimp only
            rw [if_pos hb]
            exact ⟨_, rfl, k1 hb _ s5⟩
          · dsimp only
            rw [if_neg hb]
            rw [Bool.not_eq_true] at hb
            exact k2 hb _ s5
    · intro H2 sm hD
      rw [made_filter AZ (fun c => W.AR.any fun r => decide (r.2.1 = c)) (fun c => vS [c]) 0] at hD
      refine q H2 D sm nD ?_
      rw [LstS, List.map_map]
      exact hD
def spLLonger : Sp := fun vs H Q _ => ∃ (p l : Addr) (W : Web) (ts : List Tx), vs = [.ref p, .ref l] ∧ GoodW W ∧ PartsAt H p W ∧ LstS H l ts ∧ ts.length ≤ 30000 ∧ (∀ t ∈ ts, FW W t ∧ t.length ≤ 1000) ∧
  ∀ H' f, Same H H' → H f = none → LstS H' f (longer W ts) → Q (.ref f) H'
theorem ok_l_longer (T : Txt K mg CW CB) : Ok P w K mg base "_law_longer" 2 ["_law_parts", "_law_texts"] spLLonger := by
  have G_l_signs := ok_l_signs (P := P) (w := w) (base := base) T
  have G_l_ends := ok_l_ends (P := P) (w := w) (base := base) T
  refine T.d_l_longer.ok sc_l_longer (fun vs H Q E h => ?_) (fun f cdv A outer s H vs Q E hr h => ?_)
  · obtain ⟨p, l, W, ts, rfl, _⟩ := h
    rfl
  · obtain ⟨p, l, W, ts, rfl, G, hP, hl, hln, hts, q⟩ := h
    refine ⟨_, (pss_cons (ps_set (i := 2) sc_l_longer.nd rfl (.inl rfl) (pe_lst pa_nil))
      (pss_cons (ps_for PassesOwn.never rfl (piL K (pv 1)) (pg_name (i := 3) sc_l_longer.nd rfl (.inr rfl))
        (pss_one (ps_expr (pe_bm PySem.F.plainAttrs_list PySem.F.slot_list_extend PySem.F.type_list_extend mt_extend (pv 2) (pa_cons (pe_lc (own := [("_law_sign", 4)]) rfl sc_l_longer.nd (piL K (pk G_l_signs hr (by decide) (by rfl) (pa_cons (pv 0) pa_nil))) (blkOk_by (N := ["_law_parts", "_law_texts", "_law_found", "_law_text", "_law_sign"]) (sc := defScope s_l_longer) (by decide +kernel)) (fun _ _ _ _ _ => (pg_name (i := 4) sc_l_longer.nd rfl (.inl rfl))) (fun _ _ _ _ _ => (pts_one (pt_cmpR op_gt (pe_callB (crLen K) (by rfl) T.b_len B_len (pa_cons (pk G_l_ends hr (by decide) (by rfl) (pa_cons (pv 0) (pa_cons (pe_op op_add_str (pv 3) (pv 4)) pa_nil))) pa_nil)) pe_int (nomark _)))) (fun _ _ _ _ _ => (pe_op op_add_str (pv 3) (pv 4)))) pa_nil)))))
      (pss_one (ps_ret (pv 2))))), ?_⟩
    refine ⟨le_line (by simp), fun f nf => ?_⟩
    have sf := same_new (o := .lst []) nf
    have hsg := signs_len G
    refine ⟨_, rfl, l, rfl, ⟨_, SqL.of (sf _ _ hl)⟩, for_src (G := fun H2 => SqL K H2 l (ts.map vS)) src_list (fun i σ H2 => ∃ (u3 : Option V), σ = [some (.ref p), some (.ref l), some (.ref f), u3, none] ∧ Same H H2 ∧ LstS H2 f (longer W (ts.take i))) ?_ ?_ ?_ ?_⟩
    · exact ⟨none, rfl, sf, upd_same⟩
    · rintro i σ H2 _ ⟨_, _, sm, _⟩
      exact SqL.of (sm _ _ hl)
    · rintro i v σ H2 H3 hi ⟨u3, rfl, sm, hf⟩ ⟨rfl, hv⟩
      obtain ⟨t, rfl, ht⟩ := get_vS hv
      obtain ⟨htF, ht1⟩ := hts t (List.mem_of_getElem? ht)
      rw [List.length_map] at hi
      have lF : (longer W (ts.take i)).length ≤ 3 * i := Nat.le_trans (longer_len G _) (Nat.mul_le_mul_left 3 (List.length_take_le _ _))
      refine ⟨_, rfl, .inl ⟨rfl, _, SqL.of hf⟩, _, rfl, p, W, rfl, G, hP.same sm, fun H4 sl s4 _ hsl => ⟨sl, rfl, ⟨_, SqL.of hsl⟩, fun D nD => ?_⟩⟩
      refine lc_pure (G := fun H5 => SqL K H5 sl (((signs W).map fun c => [c]).map vS)) src_list (fun i => okc W t ((signs W)[i]?.getD 0)) (fun i => vS (t ++ [(signs W)[i]?.getD 0])) nD (by rw [List.length_map, List.length_map]; omega) (fun H5 s5 => SqL.of (s5 _ _ hsl)) ?_ ?_
      · rintro k v H5 H' hk s5 ⟨rfl, hv⟩ Qy Qn k1 k2
        rw [List.map_map] at hv
        obtain ⟨c, rfl, hc⟩ : ∃ c, v = vS [c] ∧ (signs W)[k]? = some c := by
          rw [List.getElem?_map] at hv
          cases e : (signs W)[k]? with
          | none => rw [e] at hv; cases hv
          | some c => rw [e] at hv; exact ⟨c, (Option.some.inj hv).symm, rfl⟩
        rw [hc] at k1 k2
        have hcm := List.mem_of_getElem? hc
        have s45 := sm.trans (s4.trans s5)
        refine ⟨rfl, ?_⟩
        refine ⟨_, rfl, _, rfl, _, rfl, S t, S [c], rfl, rfl, by rw [S_len, S_len]; exact le_line (by simp only [List.length_singleton]; omega), ?_⟩
        rw [S_app]
        refine ⟨p, W, t ++ [c], rfl, G, fun x hx => ?_, hP.same s45, fun H6 e s6 he => ?_⟩
        · rcases List.mem_append.mp hx with z | z
          · exact AB_text G htF x z
          · rw [List.mem_singleton.mp z]; exact AB_AZ (signs_AB G c hcm)
        refine ⟨e, _, rfl, .inl (SqL.of he), _, 0, rfl, rfl, okc W t c, ?_, ?_⟩
        · show V.bl _ = V.bl _
          congr 1
          unfold okc
          rw [decide_eq_decide, List.length_map]
          omega
        · by_cases hb : okc W t c = true
          · dsimp only
            rw [if_pos hb]
            refine ⟨_, rfl, _, rfl, S t, S [c], rfl, rfl, by rw [S_len, S_len]; exact le_line (by simp only [List.length_singleton]; omega), ?_⟩
            rw [S_app]
            exact k1 hb _ s6
          · dsimp only
            rw [if_neg hb]
            rw [Bool.not_eq_true] at hb
            exact k2 hb _ s6
      · intro H5 s5 hD
        rw [List.length_map, List.length_map, made_filter (signs W) (okc W t) (fun c => vS (t ++ [c])) 0] at hD
        have hf5 := s5 _ _ (s4 _ _ hf)
        refine ⟨f, D, _, _, rfl, rfl, hf5, hD, ?_, ?_⟩
        · rw [List.length_map, List.length_map]
          have := List.length_filter_le (okc W t) (signs W)
          exact le_line (by omega)
        · refine ⟨_, rfl, same_mut (sm.trans (s4.trans s5)) nf, ?_⟩
          show upd _ f _ f = _
          rw [upd_same, take_next ht]
          unfold longer
          rw [List.flatMap_append, List.map_append, List.flatMap_cons, List.flatMap_nil, List.append_nil, List.map_map]
          rfl
    · rintro σ H2 ⟨u3, rfl, sm, hf⟩
      rw [List.length_map, List.take_length] at hf
      exact ⟨_, rfl, q H2 f sm nf hf⟩
def spLStretches : Sp := fun vs H Q _ => ∃ (p : Addr) (W : Web) (n : Nat), vs = [.ref p, vI n] ∧ GoodW W ∧ PartsAt H p W ∧ n ≤ 8 ∧ ∀ H' f, Same H H' → H f = none → LstS H' f (stre W n) → Q (.ref f) H'
theorem ok_l_stretches (T : Txt K mg CW CB) : Ok P w K mg base "_law_stretches" 3 ["_law_parts", "_law_length"] spLStretches := by
  have G_l_longer := ok_l_longer (P := P) (w := w) (base := base) T
  refine T.d_l_stretches.ok sc_l_stretches (fun vs H Q E h => ?_) (fun f cdv A outer s H vs Q E hr h => ?_)
  · obtain ⟨p, W, n, rfl, _⟩ := h
    rfl
  · obtain ⟨p, W, n, rfl, G, hP, hn, q⟩ := h
    refine ⟨_, (pss_cons (ps_set (i := 2) sc_l_stretches.nd rfl (.inl rfl) (pe_lst (pa_cons pe_str pa_nil)))
      (pss_cons (ps_for PassesOwn.never rfl (pi_range1 (by rfl) T.b_range (pa_cons (pv 1) pa_nil)) (pg_name (i := 3) sc_l_stretches.nd rfl (.inl rfl))
        (pss_one (ps_set (i := 2) sc_l_stretches.nd rfl (.inl rfl) (pk G_l_longer hr (by decide) (by rfl) (pa_cons (pv 0) (pa_cons (pv 2) pa_nil))))))
      (pss_one (ps_ret (pv 2))))), ?_⟩
    refine ⟨le_line (by simp), fun l nl => ?_⟩
    refine ⟨_, rfl, n, rfl, by omega, by omega, for_src (G := fun _ => True) src_rng (fun i σ H2 => ∃ (u3 : Option V) (l : Addr), σ = [some (.ref p), some (vI n), some (.ref l), u3] ∧ Same H H2 ∧ H l = none ∧ LstS H2 l (stre W i)) ?_ (fun _ _ _ _ _ => trivial) ?_ ?_⟩
    · exact ⟨none, l, rfl, same_new nl, nl, upd_same⟩
    · rintro i v σ H2 H3 hi ⟨u3, l, rfl, sm, l0, hl⟩ ⟨rfl, rfl⟩
      have h1 := stre_le G i
      have h2 := Nat.pow_le_pow_right (show 0 < 3 by decide) (show i ≤ 8 by omega)
      refine ⟨_, rfl, _, rfl, p, l, W, stre W i, rfl, G, hP.same sm, hl, Nat.le_trans h1 (Nat.le_trans h2 (by decide)), fun t ht => ⟨((mem_stre G i t).mp ht).1, by rw [((mem_stre G i t).mp ht).2]; omega⟩, fun H4 f s4 nf hf => ?_⟩
      exact ⟨_, f, rfl, sm.trans s4, sm.free nf, hf⟩
    · rintro σ H2 ⟨u3, l, rfl, sm, l0, hl⟩
      rw [Int.toNat_natCast] at hl
      exact ⟨_, rfl, q H2 l sm l0 hl⟩
end
end Nj
set_option Elab.async false
set_option linter.all false
set_option maxRecDepth 100000
set_option maxHeartbeats 4000000
/-! A drawn web. -/
namespace Nj
open PySem PySem.Spec PyProof.Rows L2
theorem ix_or {X : Cx} {r1 r2 : R2} (h1 : IxR X r1) (h2 : IxR X r2) : IxR X fun x y H Q => r1 x y H Q ∨ r2 x y H Q := by
  intro value slice pins s σ H x y v u Q I rx ry h hs
  rcases h with h | h
  · exact h1 value slice pins s σ H x y v u Q I rx ry h hs
  · exact h2 value slice pins s σ H x y v u Q I rx ry h hs
theorem cr_or {X : Cx} {f : Value} {r1 r2 : List V → Hp → VK → Prop} (h1 : CallR X f r1) (h2 : CallR X f r2) : CallR X f fun xs H Q => r1 xs H Q ∨ r2 xs H Q := by
  intro pins s σ H xs us Q I r h
  rcases h with h | h
  · exact h1 pins s σ H xs us Q I r h
  · exact h2 pins s σ H xs us Q I r h
theorem arLt_tri {r s : Nat × Nat × Nat} (h : r ≠ s) : arLt r s ∨ arLt s r := by
  obtain ⟨a, b, c⟩ := r
  obtain ⟨a', b', c'⟩ := s
  have : ¬ (a = a' ∧ b = b' ∧ c = c') := fun z => h (by rw [z.1, z.2.1, z.2.2])
  simp only [arLt]
  omega
def leA (r s : Nat × Nat × Nat) : Bool := !decide (arLt s r)
theorem leA_trans (a b c : Nat × Nat × Nat) (h1 : leA a b = true) (h2 : leA b c = true) : leA a c = true := by
  obtain ⟨a1, a2, a3⟩ := a
  obtain ⟨b1, b2, b3⟩ := b
  obtain ⟨c1, c2, c3⟩ := c
  unfold leA at h1 h2 ⊢
  rw [Bool.not_eq_true', decide_eq_false_iff_not] at h1 h2 ⊢
  unfold arLt at h1 h2 ⊢
  dsimp only at h1 h2 ⊢
  omega
theorem leA_total (a b : Nat × Nat × Nat) : (leA a b || leA b a) = true := by
  obtain ⟨a1, a2, a3⟩ := a
  obtain ⟨b1, b2, b3⟩ := b
  unfold leA
  rw [Bool.or_eq_true, Bool.not_eq_true', decide_eq_false_iff_not, Bool.not_eq_true', decide_eq_false_iff_not]
  unfold arLt
  dsimp only
  omega
/-- sorted references to arrows -/
theorem sort_arrows {ys : List (Addr × Nat × Nat × Nat)} : (ys.map fun y => ((V.ref y.1 : V), arD y.2)).mergeSort (PySem.W.dataLe false (·.2)) = (ys.mergeSort fun a b => leA a.2 b.2).map fun y => ((V.ref y.1 : V), arD y.2) := by
  refine (List.map_mergeSort fun a _ b _ => ?_).symm
  show leA a.2 b.2 = !PySem.W.dataLt (arD b.2) (arD a.2)
  rw [arD_lt]
  rfl
theorem sorted_arrows {ys : List (Addr × Nat × Nat × Nat)} (n : (ys.map (·.2)).Nodup) : ((ys.mergeSort fun a b => leA a.2 b.2).map (·.2)).Pairwise arLt := by
  have h1 := List.pairwise_mergeSort (le := fun a b : Addr × Nat × Nat × Nat => leA a.2 b.2) (fun a b c => leA_trans a.2 b.2 c.2) (fun a b => leA_total a.2 b.2) ys
  have h2 : ((ys.mergeSort fun a b => leA a.2 b.2).map (·.2)).Nodup := ((List.mergeSort_perm ys _).map _).nodup_iff.mpr n
  have h3 : ((ys.mergeSort fun a b => leA a.2 b.2).map (·.2)).Pairwise fun a b => leA a b = true := by
    rw [List.pairwise_map]
    exact h1
  refine (List.pairwise_and_iff.mpr ⟨h3, h2⟩).imp fun {a b} h => ?_
  obtain ⟨h4, h5⟩ := h
  unfold leA at h4
  simp only [Bool.not_eq_true', decide_eq_false_iff_not] at h4
  exact (arLt_tri h5).resolve_right h4
def fkA (r : Nat × Nat × Nat) : NestedKey := .tup [.num (r.1 : Int), .text (S [r.2.1]), .num (r.2.2 : Int)]
theorem fkA_inj (a b : Nat × Nat × Nat) (h : fkA a = fkA b) : a = b := by
  unfold fkA at h
  injection h with h
  injection h with h1 h
  injection h with h2 h
  injection h with h3 _
  injection h1 with h1
  injection h2 with h2
  injection h3 with h3
  have h2 := S_inj h2
  obtain ⟨a1, a2, a3⟩ := a
  obtain ⟨b1, b2, b3⟩ := b
  simp only at h1 h2 h3
  rw [show a1 = b1 by omega, show a2 = b2 by simpa using h2, show a3 = b3 by omega]
theorem fkA_is {H : Hp} {a : Addr} {r : Nat × Nat × Nat} (h : H a = some (.tup (arV r))) : IsKey H (.ref a) (fkA r) := ⟨a, rfl, .tup h (.cons (.num _) (.cons (.text _) (.cons (.num _) .nil))), by simp [fkA, NestedKey.depth, NestedKey.depthAll]⟩
theorem fkA_of {H : Hp} {v : V} {r : Nat × Nat × Nat} (h : IsKey H v (fkA r)) : ∃ a, v = .ref a ∧ H a = some (.tup (arV r)) := by
  obtain ⟨b, rfl, h, _⟩ := h
  cases h with
  | tup h1 h2 =>
    cases h2 with
    | cons h2 h3 =>
      cases h3 with
      | cons h3 h4 =>
        cases h4 with
        | cons h4 h5 =>
          cases h2
          cases h3
          cases h4
          cases h5
          exact ⟨b, rfl, h1⟩
theorem Nd.but {P : Program} {w : World} {H H' : Hp} {a x : Addr} {T : List (NestedKey × V)} (h : Nd P w H a T) (e : But x H H') (hx : ∃ xs, H x = Option.some (.lst xs)) : Nd P w H' a T := by
  obtain ⟨xs, hx⟩ := hx
  obtain ⟨L, k1, k2, k3⟩ := h
  refine ⟨L, e _ _ (fun z => by rw [z, hx] at k1; cases k1) k1, k2.mono fun c ys q => e _ _ (fun z => by rw [z, hx] at q; cases q) q, k3⟩
theorem but_mut {x d : Addr} {H H' : Hp} {o : HO} (e : But x H H') (h : H d = none) : But x H (upd H' d o) := fun b z n q => by
  rw [upd_ne (ne_of_none q h)]
  exact e b z n q
theorem HandAt.put {H : Hp} {h c d : Addr} {o : HO} (hh : HandAt H h c) (dh : d ≠ h) (dc : d ≠ c) : HandAt (L2.upd H d o) h c := by
  obtain ⟨cells, i, b, s, t, h1, h2, h3⟩ := hh
  exact ⟨cells, i, b, s, t, by rw [upd_ne (Ne.symm dh)]; exact h1, by rw [upd_ne (Ne.symm dc)]; exact h2, h3⟩
theorem HandAt.upd {H : Hp} {h c d : Addr} {o : HO} (hh : HandAt H h c) (hd : ∀ xs, H d ≠ some (.lst xs)) : HandAt (L2.upd H d o) h c := by
  obtain ⟨cells, i, b, s, t, h1, h2, h3⟩ := hh
  exact ⟨cells, i, b, s, t, by rw [upd_ne (fun z => hd _ (by rw [← z]; exact h1))]; exact h1, by rw [upd_ne (fun z => hd _ (by rw [← z]; exact h2))]; exact h2, h3⟩
section
variable {P : Program} {w : World} {K : PySem.W.Frag} {mg : Str → Option Value} {base : Heap} {CW CB : Addr}
structure FOk (Pn : Nat) (F : List (Nat × Nat × Nat)) : Prop where
  nd : F.Nodup
  ran : ∀ r ∈ F, r.1 < Pn ∧ r.2.1 ∈ AB ∧ r.2.2 < Pn
theorem FOk.ins {Pn : Nat} {F : List (Nat × Nat × Nat)} (h : FOk Pn F) {r : Nat × Nat × Nat} (hr : r.1 < Pn ∧ r.2.1 ∈ AB ∧ r.2.2 < Pn) : FOk Pn (Nj.ins F r) := ⟨ins_nodup h.nd, fun x hx => by
  rcases mem_ins.mp hx with z | z
  · exact h.ran x z
  · rw [z]; exact hr⟩
theorem keyRefs_arrows {H : Hp} : ∀ {F : List (Nat × Nat × Nat)} {bs : List V}, KeyRefs H (mks fkA F) bs → ∃ as : List Addr, bs = as.map .ref ∧ ArrAt H as F
  | [], bs, h => by
    have := h.1
    have : bs = [] := List.length_eq_zero_iff.mp this
    exact ⟨[], this, .nil⟩
  | r :: F, [], h => by
    have := h.1
    simp [mks] at this
  | r :: F, b :: bs, h => by
    obtain ⟨x, h1, h2⟩ := h.2 0 (fkA r) (.bl true) rfl
    obtain rfl : b = x := Option.some.inj h1
    obtain ⟨a, rfl, ha⟩ := fkA_of h2
    obtain ⟨as, e, hp⟩ := keyRefs_arrows (F := F) (bs := bs) ⟨by have := h.1; simpa [mks] using this, fun i k v hi => h.2 (i + 1) k v hi⟩
    exact ⟨a :: as, by rw [e]; rfl, .cons ha hp⟩
theorem paired_of {α β : Type} {R : α → β → Prop} : ∀ {l : List (α × β)}, (∀ y ∈ l, R y.1 y.2) → Paired R (l.map (·.1)) (l.map (·.2))
  | [], _ => .nil
  | y :: l, h => .cons (h y (by simp)) (paired_of fun z hz => h z (by simp [hz]))
theorem paired_zip {α β : Type} {R : α → β → Prop} : ∀ {a : List α} {b : List β}, Paired R a b → ∀ y ∈ a.zip b, R y.1 y.2
  | _, _, .nil, y, h => by simp at h
  | _, _, .cons h t, y, hy => by
    rw [List.zip_cons_cons] at hy
    rcases List.mem_cons.mp hy with z | z
    · rw [z]; exact h
    · exact paired_zip t y z
theorem fold_mks : ∀ (L A : List (Nat × Nat × Nat)), L.foldl (fun acc r => putK acc (fkA r) (V.bl true)) (mks fkA A) = mks fkA (L.foldl ins A)
  | [], _ => rfl
  | r :: L, A => by
    rw [List.foldl_cons, List.foldl_cons, mks_put fkA_inj, fold_mks L]
theorem fold_ins : ∀ (L A : List (Nat × Nat × Nat)), A.Nodup → (L.foldl ins A).Nodup ∧ (L.foldl ins A).length ≤ A.length + L.length ∧ ∀ r, r ∈ L.foldl ins A ↔ r ∈ A ∨ r ∈ L
  | [], A, h => ⟨h, by simp, by simp⟩
  | r :: L, A, h => by
    obtain ⟨h1, h2, h3⟩ := fold_ins L (ins A r) (ins_nodup h)
    rw [List.foldl_cons]
    refine ⟨h1, by have := ins_len A r; rw [List.length_cons]; omega, fun x => ?_⟩
    rw [h3, mem_ins, List.mem_cons, or_assoc]
def spSome : Sp := fun vs H Q _ => ∃ h k : Addr, HandAt H h k ∧ ((∃ (l : Addr) (ts : List Tx), vs = [.ref h, .ref l] ∧ l ≠ h ∧ LstS H l ts ∧ ts ≠ [] ∧ ts.length ≤ 100000 ∧ ∀ H' t, But h H H' → HandAt H' h k → t ∈ ts → Q (vS t) H') ∨
  ∃ t : Tx, vs = [.ref h, vS t] ∧ t ≠ [] ∧ t.length ≤ 1000 ∧ ∀ H' c, But h H H' → HandAt H' h k → c ∈ t → Q (vS [c]) H')
theorem ok_l_some (T : Txt K mg CW CB) : Ok P w K mg base "_law_some" 2 ["_law_hand_here", "_law_things"] spSome := by
  have G_l_draw := ok_l_draw (P := P) (w := w) (base := base) T
  refine T.d_l_some.ok sc_l_some (fun vs H Q E h => ?_) (fun f cdv A outer s H vs Q E hr h => ?_)
  · obtain ⟨h, _, _, (⟨l, ts, rfl, _⟩ | ⟨t, rfl, _⟩)⟩ := h
    · rfl
    · rfl
  · obtain ⟨h, kc, hh, h0⟩ := h
    refine ⟨_, (pss_one (ps_ret (pe_ix (ix_or (ixL K) ix_str) (pv 1) (pk G_l_draw hr (by decide) (by rfl) (pa_cons (pv 0) (pa_cons (pe_callB (cr_or (crLen K) call_len_str) (by rfl) T.b_len B_len (pa_cons (pv 1) pa_nil)) pa_nil))) (fun _ _ => rfl)))), ?_⟩
    rcases h0 with ⟨l, ts, rfl, lh, hl, hne, hlen, q⟩ | ⟨t, rfl, hne, hlen, q⟩
    · have hpos := List.length_pos_iff.mpr hne
      refine ⟨_, rfl, _, rfl, _, rfl, .inl ⟨l, _, rfl, .inl (SqL.of hl), h, kc, (ts.map vS).length, rfl, hh, by rw [List.length_map]; omega, by rw [List.length_map]; omega, fun H2 k B hh2 hk => ?_⟩⟩
      rw [List.length_map] at hk
      refine .inl ⟨l, _, k, vS ts[k], rfl, rfl, SqL.of (B _ _ lh hl), atI_nat (by rw [List.getElem?_map, List.getElem?_eq_getElem hk]; rfl), q _ _ B hh2 (List.getElem_mem hk)⟩
    · have hpos := List.length_pos_iff.mpr hne
      refine ⟨_, rfl, _, rfl, _, rfl, .inr ⟨S t, rfl, by rw [S_len]; exact le_line (by omega), h, kc, t.length, by rw [S_len]; rfl, hh, by omega, by omega, fun H2 k B hh2 hk => ?_⟩⟩
      refine .inr ⟨S t, k, t[k], rfl, rfl, by rw [S_len]; exact le_line (by omega), ?_, q _ _ B hh2 (List.getElem_mem hk)⟩
      rw [S_list]
      exact atI_nat (List.getElem?_eq_getElem hk)
def spLWeb : Sp := fun vs H Q _ => ∃ (h kc : Addr) (m : Nat), vs = [.ref h, vI m] ∧ HandAt H h kc ∧ 1 ≤ m ∧ m ≤ 10 ∧ ∀ H' p W, But h H H' → HandAt H' h kc → GoodW W → PartsAt H' p W → Q (.ref p) H'
theorem ok_l_web (T : Txt K mg CW CB) : Ok P w K mg base "_law_web" 3 ["_law_hand_here", "_law_most"] spLWeb := by
  have G_l_draw := ok_l_draw (P := P) (w := w) (base := base) T
  have G_l_some := ok_l_some (P := P) (w := w) (base := base) T
  refine T.d_l_web.ok sc_l_web (fun vs H Q E h => ?_) (fun f cdv A outer s H vs Q E hr h => ?_)
  · obtain ⟨h, kc, m, rfl, _⟩ := h
    rfl
  · obtain ⟨h, kc, m, rfl, hh, m1, m10, q⟩ := h
    have hu : (A.deeper (envOfC "_law_web" (defScope s_l_web) s.heap.objs.size f cdv)).units + 60 < cLine := by have := hr.un; omega
    have hu2 : (A.deeper (envOfC "_law_web" (defScope s_l_web) s.heap.objs.size f cdv)).units + 64 < cLine := by have := hr.un; omega
    refine ⟨_, (pss_cons (ps_set (i := 2) sc_l_web.nd rfl (.inl rfl) (pe_ix (ixL K) (pe_lst (pa_cons pe_int (pa_cons pe_int (pa_cons pe_int (pa_cons pe_int (pa_cons pe_int pa_nil)))))) (pk G_l_draw hr (by decide) (by rfl) (pa_cons (pv 0) (pa_cons pe_int pa_nil))) (fun _ _ => rfl)))
      (pss_cons (ps_set (i := 3) sc_l_web.nd rfl (.inl rfl) (pe_slice sl_str pe_str po_none (po_some (pe_op op_add pe_int (pe_callTy call_int1 (by rfl) T.b_int B_int (pa_cons (pe_cmpR op_eq (pk G_l_draw hr (by decide) (by rfl) (pa_cons (pv 0) (pa_cons pe_int pa_nil))) pe_int (nomark _)) pa_nil))))))
      (pss_cons (ps_set (i := 4) sc_l_web.nd rfl (.inl rfl) (newN P w))
      (pss_cons (ps_for PassesOwn.never rfl (pi_range1 (by rfl) T.b_range (pa_cons (pv 2) pa_nil)) (pg_name (i := 5) sc_l_web.nd rfl (.inl rfl))
        (pss_one (ps_nput hu (pv 4) (pe_tup (pa_cons (pv 5) (pa_cons (pk G_l_some hr (by decide) (by rfl) (pa_cons (pv 0) (pa_cons (pv 3) pa_nil))) (pa_cons (pe_op op_mod (pe_op op_add (pv 5) pe_int) (pv 2)) pa_nil)))) pe_bl rfl)))
      (pss_cons (ps_for PassesOwn.never rfl (pi_range1 (by rfl) T.b_range (pa_cons (pe_op op_add pe_int (pk G_l_draw hr (by decide) (by rfl) (pa_cons (pv 0) (pa_cons (pv 1) pa_nil)))) pa_nil)) (pg_name (i := 6) sc_l_web.nd rfl (.inl rfl))
        (pss_one (ps_nput hu (pv 4) (pe_tup (pa_cons (pk G_l_draw hr (by decide) (by rfl) (pa_cons (pv 0) (pa_cons (pv 2) pa_nil))) (pa_cons (pk G_l_some hr (by decide) (by rfl) (pa_cons (pv 0) (pa_cons (pv 3) pa_nil))) (pa_cons (pk G_l_draw hr (by decide) (by rfl) (pa_cons (pv 0) (pa_cons (pv 2) pa_nil))) pa_nil)))) pe_bl rfl)))
      (pss_cons (ps_if (pt_cmpR op_eq (pk G_l_draw hr (by decide) (by rfl) (pa_cons (pv 0) (pa_cons pe_int pa_nil))) pe_int (nomark _))
        (pss_cons (ps_set (i := 2) sc_l_web.nd rfl (.inl rfl) pe_int)
        (pss_one (ps_set (i := 4) sc_l_web.nd rfl (.inl rfl) (pe_callTy (call_dictN hu rfl) (by rfl) T.b_dict B_dict (pa_cons (pe_lc (own := [("_law_sign", 7)]) rfl sc_l_web.nd (pi_str (pv 3)) (blkOk_by (N := ["_law_hand_here", "_law_most", "_law_points", "_law_signs_here", "_law_found", "_law_point", "_law_turn", "_law_sign"]) (sc := defScope s_l_web) (by decide +kernel)) (fun _ _ _ _ _ => (pg_name (i := 7) sc_l_web.nd rfl (.inl rfl))) (fun _ _ _ _ _ => pts_nil) (fun _ _ _ _ _ => (pe_tup (pa_cons (pe_tup (pa_cons pe_int (pa_cons (pv 7) (pa_cons pe_int pa_nil)))) (pa_cons pe_bl pa_nil))))) pa_nil)))))
        pss_nil)
      (pss_one (ps_ret (pe_tup (pa_cons (pv 2) (pa_cons (pe_callTy (crTup K) (by rfl) T.b_tuple B_tuple (pa_cons (pe_callB (crSortD K hu2) (by rfl) T.b_sorted B_sorted (pa_cons (pe_callTy (call_list_nd rfl) (by rfl) T.b_list B_list (pa_cons (pv 4) pa_nil)) pa_nil)) pa_nil)) pa_nil))))))))))), ?_⟩
    refine ⟨le_line (by simp), fun l nl => ?_⟩
    have sl := same_new (o := .lst [.int 1, .int 1, .int 2, .int 3, .int 4]) nl
    obtain ⟨hxs, hhl⟩ := hh.lst
    have lh : l ≠ h := fun z => by rw [z, hhl] at nl; cases nl
    refine ⟨_, rfl, h, kc, 5, rfl, hh.same sl, by omega, by omega, fun H2 k B2 hh2 hk => ?_⟩
    have hl2 : H2 l = some (.lst [.int 1, .int 1, .int 2, .int 3, .int 4]) := B2 _ _ lh upd_same
    obtain ⟨Pn, hPn, p1, p4⟩ : ∃ Pn : Nat, atI [V.int 1, V.int 1, V.int 2, V.int 3, V.int 4] (k : Int) = some (vI Pn) ∧ 1 ≤ Pn ∧ Pn ≤ 4 := by
      rcases (show k = 0 ∨ k = 1 ∨ k = 2 ∨ k = 3 ∨ k = 4 by omega) with rfl | rfl | rfl | rfl | rfl
      · exact ⟨1, atI_nat (j := 0) rfl, by omega, by omega⟩
      · exact ⟨1, atI_nat (j := 1) rfl, by omega, by omega⟩
      · exact ⟨2, atI_nat (j := 2) rfl, by omega, by omega⟩
      · exact ⟨3, atI_nat (j := 3) rfl, by omega, by omega⟩
      · exact ⟨4, atI_nat (j := 4) rfl, by omega, by omega⟩
    refine ⟨l, _, k, vI Pn, rfl, rfl, SqL.of hl2, hPn, ?_⟩
    have B02 : But h H H2 := (Same.but sl).trans B2
    clear hl2 hPn hk
    refine ⟨_, rfl, h, kc, 4, rfl, hh2, by omega, by omega, fun H3 k2 B3 hh3 hk2 => ?_⟩
    refine ⟨rfl, .inr ⟨_, rfl, 2, _, rfl, rfl, _, rfl, S AB, rfl, by rw [S_len]; exact le_line (by decide), ?_⟩⟩
    obtain ⟨sg, e1, e2, e3, e4, e5⟩ : ∃ sg : Tx, cutS (S AB) Option.none (Option.some (2 + (if decide (V.int (k2 : Nat) = .int 0) = true then 1 else 0))) = S sg ∧ sg ≠ [] ∧ (∀ c ∈ sg, c ∈ AB) ∧ sg.length ≤ 3 ∧ sg.Nodup := by
      by_cases z : decide (V.int (k2 : Nat) = .int 0) = true
      · rw [if_pos z, show (2 + 1 : Int) = ((3 : Nat) : Int) from rfl, cut_take]
        exact ⟨_, rfl, by decide, by decide, by decide, by decide⟩
      · rw [if_neg z, show (2 + 0 : Int) = ((2 : Nat) : Int) from rfl, cut_take]
        exact ⟨_, rfl, by decide, by decide, by decide, by decide⟩
    dsimp only
    rw [e1]
    intro d nd hNd
    have B03 := B02.trans B3
    have ndh : d ≠ h := fun z => by
      obtain ⟨xs, hx⟩ := hh3.lst
      rw [z, hx] at nd
      cases nd
    have d0 : H d = none := by
      cases e : H d with
      | none => rfl
      | some o => have := B03 d o ndh e; rw [nd] at this; cases this
    have sd := same_new (o := NdO P w d []) nd
    refine ⟨_, rfl, Pn, rfl, by omega, by omega, for_src (G := fun _ => True) src_rng (fun i σ H4 => ∃ (u5 : Option V) (F : List (Nat × Nat × Nat)), σ = [some (.ref h), some (vI m), some (vI Pn), some (vS sg), some (.ref d), u5, none, none] ∧ But h H H4 ∧ HandAt H4 h kc ∧ Nd P w H4 d (mks fkA F) ∧ FOk Pn F ∧ F.length ≤ i ∧ ∀ p, p < i → ∃ c, (p, c, (p + 1) % Pn) ∈ F) ?_ (fun _ _ _ _ _ => trivial) ?_ ?_⟩
    · exact ⟨none, [], rfl, B03.trans (Same.but sd), hh3.same sd, hNd, ⟨List.nodup_nil, fun r hr => by cases hr⟩, Nat.le_refl _, fun p hp => absurd hp (by omega)⟩
    · rintro i v σ H4 H5 hi ⟨u5, F, rfl, B4, hh4, hN4, hF, lF, hrd⟩ ⟨rfl, rfl⟩
      rw [Int.toNat_natCast] at hi
      refine ⟨_, rfl, _, rfl, _, rfl, _, rfl, h, kc, hh4, .inr ⟨sg, rfl, e2, by omega, fun H6 c B6 hh6 hc => ⟨_, rfl, _, 1, rfl, rfl, _, rfl, _, Pn, rfl, rfl, (by show (0 : Int) < Pn; omega), le_line (by simp), fun kt nkt => ?_⟩⟩⟩
      dsimp only at nkt ⊢
      have sk := same_new (o := .tup [.int (0 + (i : Int)), .str (S [c]), .int ((0 + (i : Int) + 1) % (Pn : Int))]) nkt
      have hkt : upd H6 kt (.tup [.int (0 + (i : Int)), .str (S [c]), .int ((0 + (i : Int) + 1) % (Pn : Int))]) kt = some (.tup (arV (i, c, (i + 1) % Pn))) := by
        rw [upd_same, Int.zero_add]; rfl
      generalize upd H6 kt (.tup [.int (0 + (i : Int)), .str (S [c]), .int ((0 + (i : Int) + 1) % (Pn : Int))]) = H7 at sk hkt ⊢
      have B7 := B4.trans (B6.same sk)
      have hN7 : Nd P w H7 d (mks fkA F) := (hN4.but B6 hh4.lst).same sk
      obtain ⟨R, hR⟩ := hN7.some
      refine ⟨d, _, fkA (i, c, (i + 1) % Pn), rfl, hN7, fkA_is hkt, by rw [mks, List.length_map]; exact lt_line (by omega), fun o hNo => ?_⟩
      rw [mks_put fkA_inj] at hNo
      refine ⟨_, _, rfl, but_mut B7 d0, (hh6.same sk).upd (fun xs z => by rw [hR] at z; cases z), hNo, hF.ins ⟨hi, e3 c hc, Nat.mod_lt _ (by omega)⟩, Nat.le_trans (ins_len _ _) (by omega), fun p hp => ?_⟩
      by_cases e : p = i
      · subst e
        exact ⟨c, mem_ins.mpr (.inr rfl)⟩
      · obtain ⟨c', hc'⟩ := hrd p (by omega)
        exact ⟨c', mem_ins.mpr (.inl hc')⟩
    rintro σ H4 ⟨u5, F, rfl, B4, hh4, hN4, hF, lF, hrd⟩
    rw [Int.toNat_natCast] at lF hrd
    refine ⟨_, rfl, _, rfl, h, kc, m, rfl, hh4, m1, by omega, fun H5 j B5 hh5 hj => ⟨1, j, rfl, rfl, ?_⟩⟩
    refine ⟨1 + (j : Int), rfl, by omega, by omega, for_src (G := fun _ => True) src_rng (fun i σ H4 => ∃ (u5 u6 : Option V) (F : List (Nat × Nat × Nat)), σ = [some (.ref h), some (vI m), some (vI Pn), some (vS sg), some (.ref d), u5, u6, none] ∧ But h H H4 ∧ HandAt H4 h kc ∧ Nd P w H4 d (mks fkA F) ∧ FOk Pn F ∧ F.length ≤ 4 + i ∧ ∀ p, p < Pn → ∃ c, (p, c, (p + 1) % Pn) ∈ F) ?_ (fun _ _ _ _ _ => trivial) ?_ ?_⟩
    · exact ⟨_, _, F, rfl, B4.trans B5, hh5, hN4.but B5 hh4.lst, hF, by omega, hrd⟩
    · rintro i v σ H6 H7 hi ⟨u5, u6, F, rfl, B6, hh6, hN6, hF, lF, hrd⟩ ⟨rfl, rfl⟩
      refine ⟨_, rfl, _, rfl, _, rfl, h, kc, Pn, rfl, hh6, p1, by omega, fun H8 x B8 hh8 hx => ⟨_, rfl, _, rfl, h, kc, hh8, .inr ⟨sg, rfl, e2, by omega, fun H9 c B9 hh9 hc => ⟨_, rfl, _, rfl, h, kc, Pn, rfl, hh9, p1, by omega, fun H10 y B10 hh10 hy => ⟨le_line (by simp), fun kt nkt => ?_⟩⟩⟩⟩⟩
      have sk := same_new (o := .tup [vI x, .str (S [c]), vI y]) nkt
      have hkt : upd H10 kt (.tup [vI x, .str (S [c]), vI y]) kt = some (.tup (arV (x, c, y))) := upd_same
      generalize upd H10 kt (.tup [vI x, .str (S [c]), vI y]) = H11 at sk hkt ⊢
      have B610 := (B8.trans B9).trans (B10.same sk)
      have B11 := B6.trans B610
      have hN11 : Nd P w H11 d (mks fkA F) := hN6.but B610 hh6.lst
      obtain ⟨R, hR⟩ := hN11.some
      refine ⟨d, _, fkA (x, c, y), rfl, hN11, fkA_is hkt, by rw [mks, List.length_map]; exact lt_line (by omega), fun o hNo => ?_⟩
      rw [mks_put fkA_inj] at hNo
      refine ⟨_, _, _, rfl, but_mut B11 d0, (hh10.same sk).upd (fun xs z => by rw [hR] at z; cases z), hNo, hF.ins ⟨hx, e3 c hc, hy⟩, Nat.le_trans (ins_len _ _) (by omega), fun p hp => ?_⟩
      obtain ⟨c', hc'⟩ := hrd p hp
      exact ⟨c', mem_ins.mpr (.inl hc')⟩
    rintro σ H6 ⟨u5, u6, F, rfl, B6, hh6, hN6, hF, lF, hrd⟩
    dsimp only
    refine seq_mid (fun σ' H' => ∃ (Pn : Nat) (d : Addr) (F : List (Nat × Nat × Nat)) (u5 u6 u7 : Option V), σ' = [some (.ref h), some (vI m), some (vI Pn), some (vS sg), some (.ref d), u5, u6, u7] ∧ But h H H' ∧ HandAt H' h kc ∧ Nd P w H' d (mks fkA F) ∧ FOk Pn F ∧ F.length ≤ 100 ∧ 1 ≤ Pn ∧ Pn ≤ 4 ∧ ∀ p, p < Pn → ∃ c, (p, c, (p + 1) % Pn) ∈ F) ?_ ?_
    · rintro σ' H7 ⟨Pn, d, F, u5, u6, u7, rfl, B7, hh7, hN7, hF, lF, p1, p4, hrd⟩
      refine ⟨_, rfl, _, rfl, d, _, rfl, hN7.r, fun lp bs nlp hK => ?_⟩
      obtain ⟨as, rfl, hpr⟩ := keyRefs_arrows hK
      have hal : as.length = F.length := Paired.length hpr
      have sp := same_new (o := .lst (as.map .ref)) nlp
      have hlp : upd H7 lp (.lst (as.map .ref)) lp = some (.lst (as.map .ref)) := upd_same
      generalize upd H7 lp (.lst (as.map .ref)) = H8 at sp hlp ⊢
      have hz1 : (as.zip F).map (·.1) = as := List.map_fst_zip (by omega)
      have hz2 : (as.zip F).map (·.2) = F := List.map_snd_zip (by omega)
      have hpr8 : ∀ y ∈ as.zip F, H8 y.1 = some (.tup (arV y.2)) := fun y hy => sp _ _ (paired_zip hpr y hy)
      refine ⟨lp, (as.zip F).map fun y => ((V.ref y.1 : V), arD y.2), rfl, ?_, ?_, ?_, ?_, ?_, fun q2 nq2 => ?_⟩
      · refine SqL.of ?_
        rw [hlp, List.map_map]
        refine congrArg (fun z => some (HO.lst z)) ?_
        conv => lhs; rw [← hz1, List.map_map]
        rfl
      · intro x hx
        obtain ⟨y, hy, rfl⟩ := List.mem_map.mp hx
        exact arD_dp (hpr8 y hy)
      · rw [List.map_map]
        exact PySem.W.AllAlike.of fun b b' => arD_alike _ _
      · rw [List.map_map]
        exact PySem.W.Sortable.tuples fun b => ⟨_, _, rfl⟩
      · intro x hx
        obtain ⟨y, hy, rfl⟩ := List.mem_map.mp hx
        show (arD y.2).depth ≤ 60
        rw [arD_depth]
        decide
      rw [sort_arrows]
      generalize hys : ((as.zip F).mergeSort fun a b => leA a.2 b.2) = ys at ⊢
      have hperm : ys.Perm (as.zip F) := by rw [← hys]; exact List.mergeSort_perm _ _
      have hsrt : (ys.map (·.2)).Pairwise arLt := by
        rw [← hys]
        exact sorted_arrows (by rw [hz2]; exact hF.nd)
      have e0 : (ys.map fun y => ((V.ref y.1 : V), arD y.2)).map (·.1) = (ys.map (·.1)).map V.ref := by
        rw [List.map_map, List.map_map]
        rfl
      rw [e0]
      have s2 := same_new (o := .lst ((ys.map (·.1)).map V.ref)) nq2
      have hq2 : upd H8 q2 (.lst ((ys.map (·.1)).map V.ref)) q2 = some (.lst ((ys.map (·.1)).map V.ref)) := upd_same
      generalize upd H8 q2 (.lst ((ys.map (·.1)).map V.ref)) = H9 at s2 hq2 ⊢
      refine ⟨q2, _, rfl, .inl ⟨SqL.of hq2, fun tp ntp => ?_⟩⟩
      have s3 := same_new (o := .tup ((ys.map (·.1)).map V.ref)) ntp
      have htp : upd H9 tp (.tup ((ys.map (·.1)).map V.ref)) tp = some (.tup ((ys.map (·.1)).map V.ref)) := upd_same
      generalize upd H9 tp (.tup ((ys.map (·.1)).map V.ref)) = H10 at s3 htp ⊢
      refine ⟨le_line (by simp), fun pp npp => ?_⟩
      have s4 := same_new (o := .tup [vI Pn, .ref tp]) npp
      have s24 := s2.trans (s3.trans s4)
      have hmem : ∀ r, r ∈ ys.map (·.2) ↔ r ∈ F := fun r => by
        rw [← hz2]
        exact (hperm.map _).mem_iff
      refine q _ pp ⟨Pn, ys.map (·.2)⟩ (B7.same (sp.trans s24)) (hh7.same (sp.trans s24)) ⟨p1, p4, hsrt, fun r hr => hF.ran r ((hmem r).mp hr), fun p hp => ?_⟩ ⟨tp, upd_same, ys.map (·.1), s4 _ _ htp, paired_of fun y hy => s24 _ _ (hpr8 y (hperm.mem_iff.mp hy))⟩
      obtain ⟨c, hc⟩ := hrd p hp
      exact ⟨c, (hmem _).mpr hc⟩
    · intro nx hnx
      refine ⟨_, rfl, h, kc, 4, rfl, hh6, by omega, by omega, fun H7 k3 B7 hh7 hk3 => ⟨rfl, decide (V.int (k3 : Nat) = .int 0), rfl, ?_⟩⟩
      have B67 := B6.trans B7
      by_cases z : decide (V.int (k3 : Nat) = .int 0) = true
      · rw [z]
        refine iteT ?_
        refine ⟨_, rfl, S sg, rfl, fun D nD => lc_src (G := fun _ => True) src_str (fun i H8 => Same H7 H8 ∧ ∃ rows : List PRow, H8 D = some (.lst (rows.map fun r => .ref r.1)) ∧ (∀ r ∈ rows, PRowOk K H8 r) ∧ rows.map (fun r => (r.2.1, r.2.2.2)) = (sg.take i).map fun c => (fkA (0, c, 0), V.bl true)) ?_ (fun _ _ _ _ => trivial) ?_ ?_⟩
        · exact ⟨same_new nD, [], upd_same, fun r hr => (by cases hr), rfl⟩
        · rintro i v H8 H9 hi ⟨s8, rows, hD, hrow, hmap⟩ ⟨rfl, c, hc, rfl⟩
          refine ⟨rfl, yes_go ?_⟩
          refine ⟨_, rfl, le_line (by simp), fun kt nkt => ⟨le_line (by simp), fun ot not' => ?_⟩⟩
          have s1 := same_new (o := .tup [.int 0, .str (S [c]), .int 0]) nkt
          have s2 := same_new (o := .tup [.ref kt, .bl true]) not'
          have s12 := s1.trans s2
          have hD2 := s12 _ _ hD
          have hkt := s2 _ _ (show upd H9 kt (.tup [.int 0, .str (S [c]), .int 0]) kt = some (.tup [.int 0, .str (S [c]), .int 0]) from upd_same)
          have hot : upd (upd H9 kt (.tup [.int 0, .str (S [c]), .int 0])) ot (.tup [.ref kt, .bl true]) ot = some (.tup [.ref kt, .bl true]) := upd_same
          generalize upd (upd H9 kt (.tup [.int 0, .str (S [c]), .int 0])) ot (.tup [.ref kt, .bl true]) = H10 at s2 s12 hD2 hkt hot ⊢
          have tupD : ∀ b xs, H10 b = some (.tup xs) → ∀ o, upd H10 D o b = some (.tup xs) := fun b xs e o => by
            rw [upd_ne (fun z => by rw [z, hD2] at e; cases e)]; exact e
          have hlr : rows.length ≤ sg.length := by
            have := congrArg List.length hmap
            rw [List.length_map, List.length_map] at this
            have := List.length_take_le i sg
            omega
          refine ⟨_, hD2, by rw [List.length_map]; exact lt_line (by omega), same_mut (s8.trans s12) nD, rows ++ [(ot, fkA (0, c, 0), kt, .bl true)], by rw [upd_same, List.map_append]; rfl, fun r hr => ?_, ?_⟩
          · rcases List.mem_append.mp hr with hr | hr
            · obtain ⟨g1, g2, g3⟩ := hrow r hr
              refine ⟨?_, Nkv.mono (fun b xs e => tupD b xs (s12 _ _ e) _) _ _ g2, g3⟩
              have g4 := Same.tup s12 g1
              rcases g4 with (g4 | ⟨o, g4⟩) | g4
              · exact .inl (.inl (tupD _ _ g4 _))
              · refine .inl (.inr ⟨o, ?_⟩)
                rw [upd_ne (fun z => by rw [z, hD2] at g4; cases g4)]; exact g4
              · exact .inr g4
            · rw [List.mem_singleton.mp hr]
              refine ⟨SqT.of (tupD _ _ hot _), ?_, (fkA_is (r := (0, c, 0)) (H := upd H10 D (.lst ((rows.map fun r => V.ref r.1) ++ [.ref ot]))) (a := kt) (tupD _ _ hkt _)).choose_spec.2.2⟩
              exact .tup (tupD _ _ hkt _) (.cons (.num _) (.cons (.text _) (.cons (.num _) .nil)))
          · rw [List.map_append, hmap, take_next hc, List.map_append]
            rfl
        · rintro H8 ⟨s8, rows, hD, hrow, hmap⟩
          rw [List.take_length] at hmap
          refine ⟨D, rows, rfl, SqL.of hD, hrow, fun p o np hNp => ?_⟩
          have e9 : rows.foldl (fun acc r => putK acc r.2.1 r.2.2.2) [] = mks fkA ((sg.map fun c => ((0, c, 0) : Nat × Nat × Nat)).foldl ins []) := by
            rw [← fold_mks, List.foldl_map]
            have : rows.foldl (fun acc r => putK acc r.2.1 r.2.2.2) [] = (rows.map (fun r => (r.2.1, r.2.2.2))).foldl (fun acc r => putK acc r.1 r.2) ([] : List (NestedKey × V)) := by
              rw [List.foldl_map]
            rw [this, hmap, List.foldl_map]
            rfl
          rw [e9] at hNp
          obtain ⟨f1, f2, f3⟩ := fold_ins (sg.map fun c => ((0, c, 0) : Nat × Nat × Nat)) [] List.nodup_nil
          refine hnx _ _ ⟨1, p, _, _, _, _, rfl, ((B67.same s8).trans (Same.but (same_new np))), (hh7.same s8).same (same_new np), hNp, ⟨f1, fun r hr => ?_⟩, ?_, by omega, by omega, fun p hp => ?_⟩
          · rcases (f3 r).mp hr with z | z
            · cases z
            · obtain ⟨c, hc, rfl⟩ := List.mem_map.mp z
              exact ⟨by show 0 < 1; omega, e3 c hc, by show 0 < 1; omega⟩
          · rw [List.length_map] at f2
            simp only [List.length_nil] at f2
            omega
          · obtain rfl : p = 0 := by omega
            obtain ⟨c, hc⟩ := List.exists_mem_of_ne_nil _ e2
            exact ⟨c, (f3 _).mpr (.inr (List.mem_map.mpr ⟨c, hc, rfl⟩))⟩
      · rw [Bool.not_eq_true] at z
        rw [z]
        refine iteF ?_
        exact hnx _ _ ⟨Pn, d, F, _, _, _, rfl, B67, hh7, hN6.but B7 hh6.lst, hF, by omega, p1, p4, hrd⟩
end
end Nj
set_option Elab.async false
set_option linter.all false
set_option maxRecDepth 100000
set_option maxHeartbeats 4000000
/-! Clashes, comings, counts. -/
namespace Nj
open PySem PySem.Spec PyProof.Rows L2
theorem inV_texts (u : Tx) (ws : List Tx) : inV (vS u) (ws.map vS) = memP ws u := by
  unfold inV
  rw [Bool.eq_iff_iff, memP_iff, List.any_eq_true]
  constructor
  · rintro ⟨y, hy, e⟩
    obtain ⟨t, ht, rfl⟩ := List.mem_map.mp hy
    have e' : (S t == S u) = true := e
    rw [← S_inj (beq_iff_eq.mp e')]
    exact ht
  · intro h
    exact ⟨vS u, List.mem_map.mpr ⟨u, h, rfl⟩, (show (S u == S u) = true from beq_iff_eq.mpr rfl)⟩
theorem flat_texts (ws : List Tx) : (ws.map vS).all flatV = true := by
  rw [List.all_eq_true]
  intro v hv
  obtain ⟨t, _, rfl⟩ := List.mem_map.mp hv
  rfl
theorem dec_texts (a b : Tx) : decide (vS a = vS b) = decide (a = b) := by
  rw [decide_eq_decide]
  exact ⟨fun z => S_inj (V.str.inj z), fun z => by rw [z]⟩
theorem cut_last (t : Tx) : cutS (S t) Option.none (Option.some (-1)) = S t.dropLast := by
  rw [cut_by (a := 0) (b := t.length - 1) (HT.sIx_none _ _) (by show (-1 + (t.length : Int)).toNat = t.length - 1; omega), List.drop_zero, Nat.sub_zero, List.dropLast_eq_take]
theorem cut_tail (t : Tx) : cutS (S t) (Option.some 1) Option.none = S t.tail := by
  have := cut_drop t 1
  rw [List.drop_one] at this
  exact this
theorem cut_mid {t : Tx} (h : 1 ≤ t.length) : cutS (S t) (Option.some 1) (Option.some (-1)) = S t.tail.dropLast := by
  rw [cut_by (a := 1) (b := t.length - 1) (by show min (1 : Int).toNat t.length = 1; show min 1 t.length = 1; omega) (by show (-1 + (t.length : Int)).toNat = t.length - 1; omega), List.drop_one, List.dropLast_eq_take, List.length_tail]
theorem gg_int (p : Tx → Bool) (d : Nat) (t : Tx) : (if ((cnt p t : Nat) : Int) < (d : Int) then ((cnt p t : Nat) : Int) else (d : Int)) = ((gg p d t : Nat) : Int) := by
  unfold gg
  by_cases h : ((cnt p t : Nat) : Int) < (d : Int)
  · rw [if_pos h]; omega
  · rw [if_neg h]; omega
section
variable {P : Program} {w : World} {K : PySem.W.Frag} {mg : Str → Option Value} {base : Heap} {CW CB : Addr}
def spClashing : Sp := fun vs H Q _ => ∃ a b : Tx, vs = [vS a, vS b] ∧ a.length ≤ 1000 ∧ b.length ≤ 1000 ∧ Q (.bl (clB a b)) H
theorem ok_l_clashing (T : Txt K mg CW CB) : Ok P w K mg base "_law_clashing" 1 ["_law_one", "_law_other"] spClashing := by
  refine T.d_l_clashing.ok sc_l_clashing (fun vs H Q E h => ?_) (fun f cdv A outer s H vs Q E hr h => ?_)
  · obtain ⟨a, b, rfl, _⟩ := h
    rfl
  · obtain ⟨a, b, rfl, la, lb, q⟩ := h
    refine ⟨_, (pss_cons (ps_par (i := 2) (j := 3) (by rfl) sc_l_clashing.nd rfl rfl (by decide) rfl rfl (pa_cons (pv 0) (pa_cons (pv 1) pa_nil)) (by rfl))
      (pss_cons (ps_if (pt_cmpR op_gt (pe_callB call_len_str (by rfl) T.b_len B_len (pa_cons (pv 0) pa_nil)) (pe_callB call_len_str (by rfl) T.b_len B_len (pa_cons (pv 1) pa_nil)) (nomark _))
        (pss_one (ps_par (i := 2) (j := 3) (by rfl) sc_l_clashing.nd rfl rfl (by decide) rfl rfl (pa_cons (pv 1) (pa_cons (pv 0) pa_nil)) (by rfl)))
        pss_nil)
      (pss_one (ps_ret (pe_or (pe_cmpR op_eq (pe_slice sl_str (pv 3) po_none (po_some (pe_callB call_len_str (by rfl) T.b_len B_len (pa_cons (pv 2) pa_nil)))) (pv 2) (nomark _)) (pe_one (pe_cmpR op_eq (pe_slice sl_str (pv 3) (po_some (pe_op op_sub (pe_callB call_len_str (by rfl) T.b_len B_len (pa_cons (pv 3) pa_nil)) (pe_callB call_len_str (by rfl) T.b_len B_len (pa_cons (pv 2) pa_nil)))) po_none) (pv 2) (nomark _)))))))), ?_⟩
    have ll : ∀ t : Tx, t.length ≤ 1000 → (S t).length ≤ sizeLine := fun t h => by rw [S_len]; exact le_line (by omega)
    refine ⟨_, rfl, _, rfl, _, _, rfl, ?_⟩
    dsimp only
    refine seq_mid (fun σ' H' => ∃ x y : Tx, σ' = [some (vS a), some (vS b), some (vS x), some (vS y)] ∧ H' = H ∧ x.length ≤ y.length ∧ y.length ≤ 1000 ∧ clB a b = (decide (y.take x.length = x) || decide (y.drop (y.length - x.length) = x))) ?_ ?_
    · rintro σ' H' ⟨x, y, rfl, rfl, hxy, hy, hc⟩
      rw [hc] at q
      have e1 : cutS (S y) Option.none (Option.some ((S x).length : Int)) = S (y.take x.length) := by rw [S_len]; exact cut_take y x.length
      refine ⟨_, rfl, _, rfl, S x, rfl, ll x (by omega), _, rfl, S y, rfl, ll y hy, _, rfl, rfl, ?_⟩
      rw [e1, dec_texts]
      by_cases h1 : y.take x.length = x
      · rw [decide_eq_true h1] at q ⊢
        exact ⟨true, rfl, iteT q⟩
      · rw [decide_eq_false h1] at q ⊢
        refine ⟨false, rfl, iteF ?_⟩
        have e2 : cutS (S y) (Option.some (((S y).length : Int) - ((S x).length : Int))) Option.none = S (y.drop (y.length - x.length)) := by
          rw [S_len, S_len, show ((y.length : Int) - (x.length : Int)) = ((y.length - x.length : Nat) : Int) by omega]
          exact cut_drop y _
        refine ⟨_, rfl, _, rfl, S y, rfl, ll y hy, _, rfl, S x, rfl, ll x (by omega), _, _, rfl, rfl, _, rfl, S y, rfl, ll y hy, _, rfl, rfl, ?_⟩
        rw [e2, dec_texts]
        exact q
    · intro nx hnx
      refine ⟨_, rfl, S a, rfl, ll a la, _, rfl, S b, rfl, ll b lb, _, _, rfl, rfl, decide (a.length > b.length), ?_, ?_⟩
      · show V.bl _ = V.bl _
        congr 1
        rw [S_len, S_len, decide_eq_decide]
        omega
      by_cases h : a.length > b.length
      · rw [decide_eq_true h]
        refine iteT ⟨_, rfl, _, rfl, _, _, rfl, hnx _ _ ⟨b, a, rfl, rfl, by omega, la, by unfold clB; rw [if_pos h]⟩⟩
      · rw [decide_eq_false h]
        refine iteF (hnx _ _ ⟨a, b, rfl, rfl, by omega, lb, by unfold clB; rw [if_neg h]⟩)
def spFits : Sp := fun vs H Q _ => ∃ (l : Addr) (ws : List Tx) (t : Tx), vs = [.ref l, vS t] ∧ LstS H l ws ∧ ws.length ≤ 1000 ∧ (∀ u ∈ ws, u.length ≤ 1000) ∧ t.length ≤ 1000 ∧ ∀ H', Same H H' → Q (.bl (fitB ws t)) H'
theorem ok_l_fits (T : Txt K mg CW CB) : Ok P w K mg base "_law_fits" 2 ["_law_words_here", "_law_text"] spFits := by
  have G_l_clashing := ok_l_clashing (P := P) (w := w) (base := base) T
  refine T.d_l_fits.ok sc_l_fits (fun vs H Q E h => ?_) (fun f cdv A outer s H vs Q E hr h => ?_)
  · obtain ⟨l, ws, t, rfl, _⟩ := h
    rfl
  · obtain ⟨l, ws, t, rfl, hl, hlen, hws, ht, q⟩ := h
    refine ⟨_, (pss_one (ps_ret (pe_and (pe_cmpR op_ne (pv 1) pe_str (nomark _)) (pe_one (pe_not (pe_callB (crAny K rfl) (by rfl) T.b_any B_any (pa_cons (pe_lc (own := [("_law_word", 2)]) rfl sc_l_fits.nd (piL K (pv 0)) (blkOk_by (N := ["_law_words_here", "_law_text", "_law_word"]) (sc := defScope s_l_fits) (by decide +kernel)) (fun _ _ _ _ _ => (pg_name (i := 2) sc_l_fits.nd rfl (.inl rfl))) (fun _ _ _ _ _ => pts_nil) (fun _ _ _ _ _ => (pk G_l_clashing hr (by decide) (by rfl) (pa_cons (pv 2) (pa_cons (pv 1) pa_nil))))) pa_nil))))))), ?_⟩
    refine ⟨_, rfl, rfl, !decide (t = []), ?_, ?_⟩
    · show V.bl (!decide (vS t = vS [])) = _
      rw [dec_texts]
    by_cases h : t = []
    · subst h
      refine iteF ?_
      exact q H (Same.refl _)
    · rw [decide_eq_false h]
      refine iteT ?_
      refine ⟨_, rfl, l, rfl, ⟨_, SqL.of hl⟩, fun D nD => lc_pure (G := fun H2 => SqL K H2 l (ws.map vS)) src_list (fun _ => true) (fun i => .bl (clB (ws[i]?.getD []) t)) nD (by rw [List.length_map]; omega) (fun H2 sm => SqL.of (sm _ _ hl)) ?_ ?_⟩
      · rintro i v H2 H' hi sm ⟨rfl, hv⟩ Qy Qn k1 _
        obtain ⟨u, rfl, hu⟩ := get_vS hv
        rw [hu] at k1
        refine ⟨rfl, yes_go ?_⟩
        exact ⟨_, rfl, _, rfl, u, t, rfl, hws u (List.mem_of_getElem? hu), ht, k1 rfl _ (Same.refl _)⟩
      · intro H2 sm hD
        rw [List.length_map, made_all ws (fun u => V.bl (clB u t)) []] at hD
        refine ⟨D, ws.map fun u => clB u t, rfl, .inl (.inl (by rw [List.map_map]; exact hD)), _, rfl, ?_⟩
        have e : (!(ws.map fun u => clB u t).any id) = fitB ws t := by
          unfold fitB
          rw [List.any_map]
          have : t.isEmpty = false := by cases t with
            | nil => exact absurd rfl h
            | cons a t => rfl
          rw [this]
          rfl
        rw [e]
        exact q H2 sm
def spComings : Sp := fun vs H Q _ => ∃ (a : Addr) (ws : List Tx) (t : Tx), vs = [.ref a, vS t] ∧ TupS H a ws ∧ t.length ≤ 100 ∧ ∀ H' l xs, Same H H' → H' l = some (.lst xs) → xs.length = occ (memP ws) t → Q (.ref l) H'
theorem ok_l_comings (T : Txt K mg CW CB) : Ok P w K mg base "_law_comings" 1 ["_law_words_here", "_law_text"] spComings := by
  refine T.d_l_comings.ok sc_l_comings (fun vs H Q E h => ?_) (fun f cdv A outer s H vs Q E hr h => ?_)
  · obtain ⟨a, ws, t, rfl, _⟩ := h
    rfl
  · obtain ⟨a, ws, t, rfl, ha, ht, q⟩ := h
    refine ⟨_, (pss_cons (ps_set (i := 2) sc_l_comings.nd rfl (.inl rfl) (pe_lst pa_nil))
      (pss_cons (ps_for PassesOwn.never rfl (pi_range1 (by rfl) T.b_range (pa_cons (pe_callB call_len_str (by rfl) T.b_len B_len (pa_cons (pv 1) pa_nil)) pa_nil)) (pg_name (i := 3) sc_l_comings.nd rfl (.inr rfl))
        (pss_one (ps_expr (pe_bm PySem.F.plainAttrs_list PySem.F.slot_list_extend PySem.F.type_list_extend mt_extend (pv 2) (pa_cons (pe_lc (own := [("_law_end", 4)]) rfl sc_l_comings.nd (pi_range2 (by rfl) T.b_range (pa_cons (pe_op op_add (pv 3) pe_int) (pa_cons (pe_op op_add (pe_callB call_len_str (by rfl) T.b_len B_len (pa_cons (pv 1) pa_nil)) pe_int) pa_nil))) (blkOk_by (N := ["_law_words_here", "_law_text", "_law_found", "_law_begin", "_law_end"]) (sc := defScope s_l_comings) (by decide +kernel)) (fun _ _ _ _ _ => (pg_name (i := 4) sc_l_comings.nd rfl (.inl rfl))) (fun _ _ _ _ _ => (pts_one (pt_cmpR (inSq K) (pe_slice sl_str (pv 1) (po_some (pv 3)) (po_some (pv 4))) (pv 0) (by rfl)))) (fun _ _ _ _ _ => (pe_tup (pa_cons (pv 3) (pa_cons (pv 4) pa_nil))))) pa_nil)))))
      (pss_one (ps_ret (pv 2))))), ?_⟩
    have ll : (S t).length ≤ sizeLine := by rw [S_len]; exact le_line (by omega)
    refine ⟨le_line (by simp), fun f nf => ?_⟩
    refine ⟨_, rfl, S t, rfl, ll, t.length, by rw [S_len], by omega, by omega, for_src (G := fun _ => True) src_rng (fun i σ H2 => ∃ (u3 : Option V) (xs : List V), σ = [some (.ref a), some (vS t), some (.ref f), u3, none] ∧ Same H H2 ∧ H2 f = some (.lst xs) ∧ xs.length = ((List.range i).map fun b => pre (memP ws) (t.drop b)).sum ∧ xs.length ≤ 100 * i) ?_ (fun _ _ _ _ _ => trivial) ?_ ?_⟩
    · exact ⟨none, [], rfl, same_new nf, upd_same, rfl, Nat.zero_le _⟩
    · rintro b v σ H2 H3 hb ⟨u3, xs, rfl, sm, hf, hxs, lxs⟩ ⟨rfl, rfl⟩
      rw [Int.toNat_natCast] at hb
      have ha3 := sm _ _ ha
      refine ⟨_, rfl, .inl ⟨rfl, _, SqL.of hf⟩, _, rfl, _, 1, rfl, rfl, _, rfl, S t, rfl, ll, _, 1, rfl, rfl, _, _, rfl, ⟨?_, ?_, ?_, ?_⟩, fun D nD => ?_⟩
      · omega
      · omega
      · rw [S_len]; omega
      · rw [S_len]; omega
      have hn : ((((S t).length : Int) + 1) - (0 + (b : Int) + 1)).toNat = t.length - b := by rw [S_len]; omega
      rw [hn]
      refine lc_tup (ρ := Nat) (G := fun _ => True) src_rng (fun j => [.int (0 + (b : Int)), .int (0 + (b : Int) + 1 + (j : Int))]) (fun j => memP ws ((t.drop b).take (j + 1))) (fun j => j) nD (by omega) (fun _ _ => trivial) ?_ ?_
      · rintro j v H4 H5 hj s4 ⟨rfl, rfl⟩ Qy Qn k1 k2
        have ec : cutS (S t) (Option.some (0 + (b : Int))) (Option.some (0 + (b : Int) + 1 + (j : Int))) = S ((t.drop b).take (j + 1)) := by
          rw [show (0 + (b : Int) + 1 + (j : Int)) = ((b + 1 + j : Nat) : Int) by omega, Int.zero_add, cut_by (HT.sIx_nat _ _ _) (HT.sIx_nat _ _ _), Nat.min_eq_left (by omega), Nat.min_eq_left (by omega), show b + 1 + j - b = j + 1 by omega]
        refine ⟨rfl, ?_⟩
        refine ⟨_, rfl, _, rfl, _, rfl, _, rfl, _, rfl, S t, rfl, ll, _, rfl, a, _, rfl, .inr (SqT.of (s4 _ _ ha3)), rfl, flat_texts ws, memP ws ((t.drop b).take (j + 1)), ?_, ?_⟩
        · show V.bl (inV _ _) = _
          have e2 := ec
          rw [show (V.str (cutS (S t) (some (0 + (b : Int))) (some (0 + (b : Int) + 1 + (j : Int)))) : V) = vS ((t.drop b).take (j + 1)) from congrArg V.str ec, inV_texts]
        by_cases hk : memP ws ((t.drop b).take (j + 1)) = true
        · rw [hk]
          refine iteT ⟨_, rfl, _, rfl, le_line (by simp), fun p np => k1 hk _ p (Same.refl _) np⟩
        · rw [Bool.not_eq_true] at hk
          rw [hk]
          exact iteF (k2 hk _ (Same.refl _))
      · intro H4 as s4 hD hp
        have hlen : as.length = pre (memP ws) (t.drop b) := by
          have h1 : as.length = _ := Paired.length hp
          rw [h1]
          unfold made pre
          rw [List.length_map, ← List.countP_eq_length_filter, List.length_drop]
        have hle : pre (memP ws) (t.drop b) ≤ 100 := by
          unfold pre
          refine Nat.le_trans List.countP_le_length ?_
          rw [List.length_range, List.length_drop]
          omega
        refine ⟨f, D, _, _, rfl, rfl, s4 _ _ hf, hD, by rw [List.length_map]; exact le_line (by omega), ?_⟩
        refine ⟨_, xs ++ as.map .ref, rfl, same_mut (sm.trans s4) nf, upd_same, ?_, ?_⟩
        · rw [List.length_append, List.length_map, hlen, hxs, List.range_succ, List.map_append, List.sum_append]
          simp
        · rw [List.length_append, List.length_map, hlen]; omega
    · rintro σ H2 ⟨u3, xs, rfl, sm, hf, hxs, _⟩
      rw [Int.toNat_natCast, ← occ_sum] at hxs
      exact ⟨_, rfl, q H2 f xs sm hf hxs⟩
def spCount : Sp := fun vs H Q _ => ∃ (a : Addr) (ws : List Tx) (t : Tx), vs = [.ref a, vS t] ∧ TupS H a ws ∧ Bif (memP ws) ∧ t.length ≤ 100 ∧ ∀ H', Same H H' → Q (vI (cnt (memP ws) t)) H'
theorem ok_l_count (T : Txt K mg CW CB) : Ok P w K mg base "_law_count" 2 ["_law_words_here", "_law_text"] spCount := by
  have G_l_comings := ok_l_comings (P := P) (w := w) (base := base) T
  refine T.d_l_count.ok sc_l_count (fun vs H Q E h => ?_) (fun f cdv A outer s H vs Q E hr h => ?_)
  · obtain ⟨a, ws, t, rfl, _⟩ := h
    rfl
  · obtain ⟨a, ws, t, rfl, ha, B, ht, q⟩ := h
    refine ⟨_, (pss_one (ps_ret (pe_op op_sub (pe_op op_add (pe_callB call_len_str (by rfl) T.b_len B_len (pa_cons (pv 1) pa_nil)) pe_int) (pe_callB (crLen K) (by rfl) T.b_len B_len (pa_cons (pk G_l_comings hr (by decide) (by rfl) (pa_cons (pv 0) (pa_cons (pv 1) pa_nil))) pa_nil))))), ?_⟩
    have ll : (S t).length ≤ sizeLine := by rw [S_len]; exact le_line (by omega)
    refine ⟨_, rfl, S t, rfl, ll, _, 1, rfl, rfl, _, rfl, _, rfl, a, ws, t, rfl, ha, ht, fun H2 l xs s2 hl hx => ⟨l, xs, rfl, .inl (SqL.of hl), _, _, rfl, rfl, ?_⟩⟩
    have h1 := occ_le B t
    have e : (((S t).length : Int) + 1 - (xs.length : Int)) = ((cnt (memP ws) t : Nat) : Int) := by
      rw [S_len, hx]
      unfold cnt
      omega
    show Q (V.int (((S t).length : Int) + 1 - (xs.length : Int))) H2
    rw [e]
    exact q H2 s2
end
end Nj
set_option Elab.async false
set_option linter.all false
set_option maxRecDepth 100000
set_option maxHeartbeats 4000000
/-! The made book. -/
namespace Nj
open PySem PySem.Spec PyProof.Rows L2
theorem isW_long {p : Tx → Bool} {d : Nat} {t : Tx} (h : 2 ≤ t.length) : decide (((gg p d t.dropLast : Nat) : Int) + ((gg p d t.tail : Nat) : Int) - ((gg p d t : Nat) : Int) - ((gg p d t.tail.dropLast : Nat) : Int) = 1) = isW p d t := by
  have e : t.isEmpty = false := by cases t with
    | nil => simp at h
    | cons a t => rfl
  unfold isW
  rw [e, if_neg (by omega)]
  show _ = decide _
  rw [decide_eq_decide]
  omega
theorem isW_short {p : Tx → Bool} {d : Nat} {t : Tx} (h : t.length = 1) : decide (((gg p d t : Nat) : Int) = 1) = isW p d t := by
  have e : t.isEmpty = false := by cases t with
    | nil => simp at h
    | cons a t => rfl
  unfold isW
  rw [e, if_pos h]
  show _ = decide _
  rw [decide_eq_decide]
  omega
def fnds (W : Web) (L : Tx → Bool) (d i : Nat) : List Tx := (List.range i).flatMap fun k => (stre W (k + 1)).filter (isW L d)
theorem fnds_succ (W : Web) (L : Tx → Bool) (d i : Nat) : fnds W L d (i + 1) = fnds W L d i ++ (stre W (i + 1)).filter (isW L d) := by
  unfold fnds
  rw [List.range_succ, List.flatMap_append, List.flatMap_cons, List.flatMap_nil, List.append_nil]
theorem mem_fnds {W : Web} (G : GoodW W) {L : Tx → Bool} {d i : Nat} {t : Tx} : t ∈ fnds W L d i ↔ FW W t ∧ isW L d t = true ∧ 1 ≤ t.length ∧ t.length ≤ i := by
  unfold fnds
  rw [List.mem_flatMap]
  constructor
  · rintro ⟨k, hk, h⟩
    obtain ⟨h1, h2⟩ := List.mem_filter.mp h
    obtain ⟨h3, h4⟩ := (mem_stre G _ _).mp h1
    have := List.mem_range.mp hk
    exact ⟨h3, h2, by omega, by omega⟩
  · rintro ⟨h1, h2, h3, h4⟩
    exact ⟨t.length - 1, List.mem_range.mpr (by omega), List.mem_filter.mpr ⟨(mem_stre G _ _).mpr ⟨h1, by omega⟩, h2⟩⟩
theorem fnds_nodup {W : Web} (G : GoodW W) (L : Tx → Bool) (d : Nat) : ∀ i, (fnds W L d i).Nodup
  | 0 => by simp [fnds]
  | i + 1 => by
    rw [fnds_succ]
    refine List.nodup_append.mpr ⟨fnds_nodup G L d i, (stre_nodup _).sublist List.filter_sublist, fun a ha b hb e => ?_⟩
    subst e
    have h1 := ((mem_fnds G).mp ha).2.2.2
    have h2 := ((mem_stre G _ _).mp (List.mem_filter.mp hb).1).2
    omega
/-- sorted texts -/
theorem sort_texts {ts : List Tx} : ((ts.map fun t => ((vS t : V), PyData.str (S t))).mergeSort (PySem.W.dataLe false (·.2))).map (·.1) = (sortT ts).map vS := by
  have e : (ts.map fun t => ((vS t : V), PyData.str (S t))).mergeSort (PySem.W.dataLe false (·.2)) = (sortT ts).map fun t => ((vS t : V), PyData.str (S t)) := by
    refine (List.map_mergeSort fun a _ b _ => ?_).symm
    show leT a b = !PySem.W.dataLt (.str (S b)) (.str (S a))
    rw [PySem.W.dataLt_str, S_list, S_list]
    rfl
  rw [e, List.map_map]
  rfl
section
variable {P : Program} {w : World} {K : PySem.W.Frag} {mg : Str → Option Value} {base : Heap} {CW CB : Addr}
/-- sorted of a list of texts, as the rule asks it -/
theorem sort_ready {H : Hp} {a : Addr} {ts : List Tx} {Q : VK} (ha : LstS H a ts) (q : ∀ p, H p = none → Q (.ref p) (upd H p (.lst ((sortT ts).map vS)))) : rSortD K [.ref a] H Q := by
  refine ⟨a, ts.map fun t => ((vS t : V), PyData.str (S t)), rfl, ?_, ?_, ?_, ?_, ?_, fun p np => ?_⟩
  · rw [List.map_map]
    exact SqL.of ha
  · intro x hx
    obtain ⟨t, _, rfl⟩ := List.mem_map.mp hx
    exact .str _
  · rw [List.map_map]
    exact PySem.W.AllAlike.of fun b b' => rfl
  · rw [List.map_map]
    exact PySem.W.Sortable.others fun b => ⟨fun z => (nomatch z), fun xs z => (nomatch z)⟩
  · intro x hx
    obtain ⟨t, _, rfl⟩ := List.mem_map.mp hx
    simp [PyData.depth]
  · rw [sort_texts]
    exact q p np
def spIsLast : Sp := fun vs H Q _ => ∃ (a : Addr) (lot : List Tx) (d : Nat) (t : Tx), vs = [.ref a, vI d, vS t] ∧ TupS H a lot ∧ Bif (memP lot) ∧ 2 ≤ t.length ∧ t.length ≤ 100 ∧ ∀ H', Same H H' → Q (.bl (isW (memP lot) d t)) H'
theorem ok_l_is_last (T : Txt K mg CW CB) : Ok P w K mg base "_law_is_last" 3 ["_law_lot_here", "_law_number", "_law_text"] spIsLast := by
  have G_l_count := ok_l_count (P := P) (w := w) (base := base) T
  refine T.d_l_is_last.ok sc_l_is_last (fun vs H Q E h => ?_) (fun f cdv A outer s H vs Q E hr h => ?_)
  · obtain ⟨a, lot, d, t, rfl, _⟩ := h
    rfl
  · obtain ⟨a, lot, d, t, rfl, ha, B, h2, h100, q⟩ := h
    refine ⟨_, (pss_cons (ps_set (i := 3) sc_l_is_last.nd rfl (.inl rfl) (pe_op op_add (pe_callB (call_min2 rfl) (by rfl) T.b_min B_min (pa_cons (pv 1) (pa_cons (pk G_l_count hr (by decide) (by rfl) (pa_cons (pv 0) (pa_cons (pe_slice sl_str (pv 2) po_none (po_some (pe_un un_neg pe_int))) pa_nil))) pa_nil))) (pe_callB (call_min2 rfl) (by rfl) T.b_min B_min (pa_cons (pv 1) (pa_cons (pk G_l_count hr (by decide) (by rfl) (pa_cons (pv 0) (pa_cons (pe_slice sl_str (pv 2) (po_some pe_int) po_none) pa_nil))) pa_nil)))))
      (pss_one (ps_ret (pe_cmpR op_eq (pe_op op_sub (pe_op op_sub (pv 3) (pe_callB (call_min2 rfl) (by rfl) T.b_min B_min (pa_cons (pv 1) (pa_cons (pk G_l_count hr (by decide) (by rfl) (pa_cons (pv 0) (pa_cons (pv 2) pa_nil))) pa_nil)))) (pe_callB (call_min2 rfl) (by rfl) T.b_min B_min (pa_cons (pv 1) (pa_cons (pk G_l_count hr (by decide) (by rfl) (pa_cons (pv 0) (pa_cons (pe_slice sl_str (pv 2) (po_some pe_int) (po_some (pe_un un_neg pe_int))) pa_nil))) pa_nil)))) pe_int (nomark _))))), ?_⟩
    have ll : (S t).length ≤ sizeLine := by rw [S_len]; exact le_line (by omega)
    refine ⟨_, rfl, _, rfl, _, rfl, _, rfl, _, rfl, S t, rfl, ll, a, lot, t.dropLast, by rw [cut_last]; rfl, ha, B, by rw [List.length_dropLast]; omega, fun H2 s2 => ⟨d, _, rfl, ?_⟩⟩
    rw [gg_int]
    refine ⟨_, rfl, _, rfl, _, rfl, _, rfl, S t, rfl, ll, a, lot, t.tail, by rw [cut_tail]; rfl, s2 _ _ ha, B, by rw [List.length_tail]; omega, fun H3 s3 => ⟨d, _, rfl, ?_⟩⟩
    rw [gg_int]
    refine ⟨_, _, rfl, rfl, ?_⟩
    have s13 := s2.trans s3
    refine ⟨_, rfl, _, rfl, _, rfl, _, rfl, a, lot, t, rfl, s13 _ _ ha, B, h100, fun H4 s4 => ⟨d, _, rfl, ?_⟩⟩
    rw [gg_int]
    refine ⟨_, _, rfl, rfl, ?_⟩
    have s14 := s13.trans s4
    refine ⟨_, rfl, _, rfl, _, rfl, _, rfl, _, rfl, _, rfl, S t, rfl, ll, a, lot, t.tail.dropLast, by rw [cut_mid (by omega)]; rfl, s14 _ _ ha, B, by rw [List.length_dropLast, List.length_tail]; omega, fun H5 s5 => ⟨d, _, rfl, ?_⟩⟩
    rw [gg_int]
    refine ⟨_, _, rfl, rfl, rfl, ?_⟩
    have e : decide (V.int (((gg (memP lot) d t.dropLast : Nat) : Int) + ((gg (memP lot) d t.tail : Nat) : Int) - ((gg (memP lot) d t : Nat) : Int) - ((gg (memP lot) d t.tail.dropLast : Nat) : Int)) = V.int 1) = isW (memP lot) d t := by
      rw [← isW_long h2, decide_eq_decide]
      exact ⟨fun z => V.int.inj z, fun z => by rw [z]⟩
    rw [e]
    exact q H5 (s14.trans s5)
end
end Nj
set_option Elab.async false
set_option linter.all false
set_option maxRecDepth 100000
set_option maxHeartbeats 4000000
/-! The made book, walked. -/
namespace Nj
open PySem PySem.Spec PyProof.Rows L2
theorem stre1 {W : Web} (G : GoodW W) : ((signs W).map fun c => [c]) = stre W 1 := (stre_one G).symm
section
variable {P : Program} {w : World} {K : PySem.W.Frag} {mg : Str → Option Value} {base : Heap} {CW CB : Addr}
structure LotOk (W : Web) (lot : List Tx) (d : Nat) : Prop where
  k : Lot (memP lot) d
  l3 : lot.length ≤ 3
  lf : ∀ t ∈ lot, FW W t ∧ t.length ≤ 3
  d4 : d ≤ 4
def spMade : Sp := fun vs H Q _ => ∃ (p a : Addr) (W : Web) (lot : List Tx) (d : Nat), vs = [.ref p, .ref a, vI d] ∧ GoodW W ∧ PartsAt H p W ∧ TupS H a lot ∧ LotOk W lot d ∧ (∀ H', Same H H' → Q .non H') ∧ ∀ H' r ws, Same H H' → TupS H' r ws → FullBook W ws d → Q (.ref r) H'
theorem ok_l_made (T : Txt K mg CW CB) : Ok P w K mg base "_law_made" 4 ["_law_parts", "_law_lot_here", "_law_number"] spMade := by
  have G_l_count := ok_l_count (P := P) (w := w) (base := base) T
  have G_l_signs := ok_l_signs (P := P) (w := w) (base := base) T
  have G_l_longer := ok_l_longer (P := P) (w := w) (base := base) T
  have G_l_is_last := ok_l_is_last (P := P) (w := w) (base := base) T
  refine T.d_l_made.ok sc_l_made (fun vs H Q E h => ?_) (fun f cdv A outer s H vs Q E hr h => ?_)
  · obtain ⟨p, a, W, lot, d, rfl, _⟩ := h
    rfl
  · obtain ⟨p, a, W, lot, d, rfl, G, hP, ha, LK, qn, qr⟩ := h
    have hu2 : (A.deeper (envOfC "_law_made" (defScope s_l_made) s.heap.objs.size f cdv)).units + 64 < cLine := by have := hr.un; omega
    refine ⟨_, (pss_cons (ps_set (i := 3) sc_l_made.nd rfl (.inl rfl) (pe_lst pa_nil))
      (pss_cons (ps_set (i := 4) sc_l_made.nd rfl (.inl rfl) (pk G_l_signs hr (by decide) (by rfl) (pa_cons (pv 0) pa_nil)))
      (pss_cons (ps_for PassesOwn.never rfl (pi_range2 (by rfl) T.b_range (pa_cons pe_int (pa_cons pe_int pa_nil))) (pg_name (i := 5) sc_l_made.nd rfl (.inl rfl))
        (pss_cons (ps_set (i := 6) sc_l_made.nd rfl (.inl rfl) pe_int)
        (pss_cons (ps_for PassesOwn.never rfl (piL K (pv 4)) (pg_name (i := 7) sc_l_made.nd rfl (.inl rfl))
          (pss_cons (ps_if (pt_cmpR op_eq (pv 5) pe_int (nomark _))
            (pss_one (ps_set (i := 8) sc_l_made.nd rfl (.inl rfl) (pe_cmpR op_eq (pe_callB (call_min2 rfl) (by rfl) T.b_min B_min (pa_cons (pv 2) (pa_cons (pk G_l_count hr (by decide) (by rfl) (pa_cons (pv 1) (pa_cons (pv 7) pa_nil))) pa_nil))) pe_int (nomark _))))
            (pss_cons (ps_set (i := 9) sc_l_made.nd rfl (.inl rfl) (pe_op op_add (pe_callB (call_min2 rfl) (by rfl) T.b_min B_min (pa_cons (pv 2) (pa_cons (pk G_l_count hr (by decide) (by rfl) (pa_cons (pv 1) (pa_cons (pe_slice sl_str (pv 7) po_none (po_some (pe_un un_neg pe_int))) pa_nil))) pa_nil))) (pe_callB (call_min2 rfl) (by rfl) T.b_min B_min (pa_cons (pv 2) (pa_cons (pk G_l_count hr (by decide) (by rfl) (pa_cons (pv 1) (pa_cons (pe_slice sl_str (pv 7) (po_some pe_int) po_none) pa_nil))) pa_nil)))))
            (pss_one (ps_set (i := 8) sc_l_made.nd rfl (.inl rfl) (pe_cmpR op_eq (pe_op op_sub (pe_op op_sub (pv 9) (pe_callB (call_min2 rfl) (by rfl) T.b_min B_min (pa_cons (pv 2) (pa_cons (pk G_l_count hr (by decide) (by rfl) (pa_cons (pv 1) (pa_cons (pv 7) pa_nil))) pa_nil)))) (pe_callB (call_min2 rfl) (by rfl) T.b_min B_min (pa_cons (pv 2) (pa_cons (pk G_l_count hr (by decide) (by rfl) (pa_cons (pv 1) (pa_cons (pe_slice sl_str (pv 7) (po_some pe_int) (po_some (pe_un un_neg pe_int))) pa_nil))) pa_nil)))) pe_int (nomark _))))))
          (pss_cons (ps_if (pt_val (pv 8))
            (pss_one (ps_expr (pe_bm PySem.F.plainAttrs_list PySem.F.slot_list_append PySem.F.type_list_append mt_append (pv 3) (pa_cons (pv 7) pa_nil))))
            pss_nil)
          (pss_one (ps_set (i := 6) sc_l_made.nd rfl (.inl rfl) (pe_op op_add (pv 6) (pe_callTy call_int1 (by rfl) T.b_int B_int (pa_cons (pe_cmpR op_lt (pk G_l_count hr (by decide) (by rfl) (pa_cons (pv 1) (pa_cons (pv 7) pa_nil))) (pv 2) (nomark _)) pa_nil))))))))
        (pss_cons (ps_if (pt_cmpR op_eq (pv 6) pe_int (nomark _))
          (pss_cons (ps_setLc (i := 10) (own := [("_law_text", 7)]) rfl sc_l_made.nd rfl rfl (sw_true rfl rfl rfl (by decide +kernel)) (piL K (pk G_l_longer hr (by decide) (by rfl) (pa_cons (pv 0) (pa_cons (pv 4) pa_nil)))) (blkOk_by (N := ["_law_parts", "_law_lot_here", "_law_number", "_law_found", "_law_texts", "_law_length", "_law_few", "_law_text", "_law_word", "_law_more", "_law_last"]) (sc := defScope s_l_made) (by decide +kernel)) (fun _ _ _ _ _ => (pg_name (i := 7) sc_l_made.nd rfl (.inl rfl))) (fun _ _ _ _ _ => (pts_one (pt_val (pk G_l_is_last hr (by decide) (by rfl) (pa_cons (pv 1) (pa_cons (pv 2) (pa_cons (pv 7) pa_nil))))))) (fun _ _ _ _ _ => (pv 7)))
          (pss_one (ps_ret (pe_callTy (crTup K) (by rfl) T.b_tuple B_tuple (pa_cons (pe_callB (crSortD K hu2) (by rfl) T.b_sorted B_sorted (pa_cons (pe_op op_cat (pv 3) (pv 10)) pa_nil)) pa_nil)))))
          pss_nil)
        (pss_cons (ps_set (i := 4) sc_l_made.nd rfl (.inl rfl) (pk G_l_longer hr (by decide) (by rfl) (pa_cons (pv 0) (pa_cons (pv 4) pa_nil))))
        (pss_one (ps_if (pt_cmpR op_gt (pe_callB (crLen K) (by rfl) T.b_len B_len (pa_cons (pv 4) pa_nil)) pe_int (nomark _))
          (pss_one (ps_ret pe_non))
          pss_nil)))))))
      (pss_one (ps_ret pe_non))))), ?_⟩
    generalize hL : memP lot = L at *
    have d4 := LK.d4
    have Bf := LK.k.b
    rw [hL] at Bf
    refine ⟨le_line (by simp), fun f3 nf3 => ?_⟩
    have sf := same_new (o := .lst []) nf3
    have hf3 : upd H f3 (.lst []) f3 = some (.lst []) := upd_same
    refine ⟨_, rfl, p, W, rfl, G, hP.same sf, fun H2 l4 s2 nl4 hl4 => ?_⟩
    have sm2 := sf.trans s2
    have l43 : l4 ≠ f3 := fun z => by rw [z, hf3] at nl4; cases nl4
    refine ⟨1, 10, rfl, ⟨by decide, by decide, by decide, by decide⟩, for_src (G := fun _ => True) src_rng (fun i σ H3 => ∃ (u5 u6 u7 u8 u9 : Option V) (l : Addr), σ = [some (.ref p), some (.ref a), some (vI d), some (.ref f3), some (.ref l), u5, u6, u7, u8, u9, none] ∧ Same H H3 ∧ l ≠ f3 ∧ LstS H3 l (stre W (i + 1)) ∧ LstS H3 f3 (fnds W L d i) ∧ (stre W (i + 1)).length ≤ 160 ∧ (fnds W L d i).length ≤ 160 * i) ?_ (fun _ _ _ _ _ => trivial) ?_ ?_⟩
    · refine ⟨none, none, none, none, none, l4, rfl, sm2, l43, by rw [← stre1 G]; exact hl4, s2 _ _ hf3, ?_, Nat.le_refl _⟩
      exact Nat.le_trans (stre_le4 G).1 (by omega)
    · rintro i v σ H3 H4 hi ⟨u5, u6, u7, u8, u9, l, rfl, sm3, lf3, hl3, hfd, hs160, hfl⟩ ⟨rfl, rfl⟩
      have hi9 : i < 9 := hi
      have S4 : SqL K H4 l ((stre W (i + 1)).map vS) := SqL.of hl3
      refine ⟨_, rfl, l, rfl, ⟨_, S4⟩, for_src (G := fun H5 => SqL K H5 l ((stre W (i + 1)).map vS)) src_list (fun j σ H5 => ∃ (u7 u8 u9 : Option V), σ = [some (.ref p), some (.ref a), some (vI d), some (.ref f3), some (.ref l), some (.int (1 + (i : Int))), some (vI (((stre W (i + 1)).take j).countP fun t => decide (cnt L t < d))), u7, u8, u9, none] ∧ Same H H5 ∧ LstS H5 l (stre W (i + 1)) ∧ LstS H5 f3 (fnds W L d i ++ ((stre W (i + 1)).take j).filter (isW L d))) ?_ ?_ ?_ ?_⟩
      · exact ⟨u7, u8, u9, by simp, sm3, hl3, by simpa using hfd⟩
      · rintro j σ H5 _ ⟨_, _, _, _, _, h, _⟩
        exact SqL.of h
      · rintro j v σ H5 H6 hj ⟨u7, u8, u9, rfl, sm5, hl5, hf5⟩ ⟨rfl, hv⟩
        obtain ⟨t, rfl, ht⟩ := get_vS hv
        rw [List.length_map] at hj
        have htm := List.mem_of_getElem? ht
        obtain ⟨htF, htl⟩ := (mem_stre G _ _).mp htm
        have ll : (S t).length ≤ sizeLine := by rw [S_len]; exact le_line (by omega)
        dsimp only
        refine seq_mid (fun σ' H' => ∃ u9 : Option V, σ' = [some (.ref p), some (.ref a), some (vI d), some (.ref f3), some (.ref l), some (.int (1 + (i : Int))), some (vI (((stre W (i + 1)).take j).countP fun t => decide (cnt L t < d))), some (vS t), some (.bl (isW L d t)), u9, none] ∧ Same H6 H') ?_ ?_
        · rintro σ' H7 ⟨u9, rfl, s7⟩
          refine seq_mid (fun σ' H' => ∃ u9 : Option V, σ' = [some (.ref p), some (.ref a), some (vI d), some (.ref f3), some (.ref l), some (.int (1 + (i : Int))), some (vI (((stre W (i + 1)).take j).countP fun t => decide (cnt L t < d))), some (vS t), some (.bl (isW L d t)), u9, none] ∧ Same H H' ∧ LstS H' l (stre W (i + 1)) ∧ LstS H' f3 (fnds W L d i ++ ((stre W (i + 1)).take (j + 1)).filter (isW L d))) ?_ ?_
          · rintro σ' H8 ⟨u9, rfl, sm8, hl8, hf8⟩
            refine ⟨_, rfl, _, rfl, _, rfl, a, lot, t, rfl, sm8 _ _ ha, by rw [hL]; exact Bf, by omega, fun H9 s9 => ⟨_, rfl, _, d, rfl, rfl, .inr ⟨_, rfl, _, _, rfl, rfl, ?_⟩⟩⟩
            refine ⟨some (vS t), some (.bl (isW L d t)), u9, ?_, sm8.trans s9, s9 _ _ hl8, s9 _ _ hf8⟩
            have e : (V.int (((((stre W (i + 1)).take j).countP fun t => decide (cnt L t < d) : Nat) : Int) + (if decide (((cnt (memP lot) t : Nat) : Int) < (d : Int)) = true then 1 else 0))) = vI (((stre W (i + 1)).take (j + 1)).countP fun t => decide (cnt L t < d)) := by
              rw [take_next ht, List.countP_append, List.countP_cons, List.countP_nil, hL]
              by_cases z : cnt L t < d
              · rw [if_pos (decide_eq_true (show ((cnt L t : Nat) : Int) < (d : Int) by omega)), if_pos (decide_eq_true z)]
                show V.int _ = V.int _
                congr 1
              · rw [if_neg (fun y => z (by have := of_decide_eq_true y; omega)), if_neg (fun y => z (of_decide_eq_true y))]
                show V.int _ = V.int _
                congr 1
            exact congrArg (fun z => [some (V.ref p), some (V.ref a), some (vI d), some (V.ref f3), some (V.ref l), some (V.int (1 + (i : Int))), some z, some (vS t), some (V.bl (isW L d t)), u9, none]) e
          · intro nx hnx
            have hl7 := s7 _ _ hl5
            have hf7 := s7 _ _ hf5
            refine ⟨_, rfl, isW L d t, rfl, ?_⟩
            by_cases hw : isW L d t = true
            · rw [hw]
              refine iteT ⟨_, rfl, .inl ⟨rfl, _, SqL.of hf7⟩, _, rfl, f3, _, _, rfl, rfl, hf7, ?_, ?_⟩
              · rw [List.length_map, List.length_append]
                have h1 := List.length_filter_le (isW L d) ((stre W (i + 1)).take j)
                have h2 := List.length_take_le j (stre W (i + 1))
                exact lt_line (by omega)
              · refine hnx _ _ ⟨u9, by rw [hw], same_mut (sm5.trans s7) nf3, ?_, ?_⟩
                · show upd _ f3 _ l = _
                  rw [upd_ne lf3]
                  exact hl7
                · show upd _ f3 _ f3 = _
                  rw [upd_same, take_next ht, List.filter_append, List.filter_cons, if_pos hw, List.filter_nil]
                  simp only [List.map_append, List.append_assoc, List.map_cons, List.map_nil]
            · rw [Bool.not_eq_true] at hw
              rw [hw]
              refine iteF (hnx _ _ ⟨u9, by rw [hw], sm5.trans s7, hl7, ?_⟩)
              rw [take_next ht, List.filter_append, List.filter_cons, if_neg (by rw [hw]; decide), List.filter_nil, List.append_nil]
              exact hf7
        · intro nx hnx
          have ha6 := sm5 _ _ ha
          refine ⟨_, rfl, rfl, decide (i = 0), ?_, ?_⟩
          · show V.bl _ = V.bl _
            congr 1
            rw [decide_eq_decide]
            exact ⟨fun z => by have := V.int.inj z; omega, fun z => by rw [z]; rfl⟩
          by_cases h0 : i = 0
          · rw [decide_eq_true h0]
            refine iteT ?_
            refine ⟨_, rfl, _, rfl, _, rfl, a, lot, t, rfl, ha6, by rw [hL]; exact Bf, by omega, fun H7 s7 => ⟨d, _, rfl, ?_⟩⟩
            rw [gg_int, hL]
            refine ⟨rfl, ?_⟩
            have e : decide (V.int ((gg L d t : Nat) : Int) = V.int 1) = isW L d t := by
              rw [← isW_short (by rw [htl, h0]), decide_eq_decide]
              exact ⟨fun z => V.int.inj z, fun z => by rw [z]⟩
            rw [e]
            exact hnx _ _ ⟨_, rfl, s7⟩
          · rw [decide_eq_false h0]
            refine iteF ?_
            have h2 : 2 ≤ t.length := by omega
            refine ⟨_, rfl, _, rfl, _, rfl, _, rfl, _, rfl, S t, rfl, ll, a, lot, t.dropLast, by rw [cut_last]; rfl, ha6, by rw [hL]; exact Bf, by rw [List.length_dropLast]; omega, fun H7 s7 => ⟨d, _, rfl, ?_⟩⟩
            rw [gg_int]
            refine ⟨_, rfl, _, rfl, _, rfl, _, rfl, S t, rfl, ll, a, lot, t.tail, by rw [cut_tail]; rfl, s7 _ _ ha6, by rw [hL]; exact Bf, by rw [List.length_tail]; omega, fun H8 s8 => ⟨d, _, rfl, ?_⟩⟩
            rw [gg_int]
            refine ⟨_, _, rfl, rfl, ?_⟩
            have s78 := s7.trans s8
            refine ⟨_, rfl, _, rfl, _, rfl, _, rfl, a, lot, t, rfl, s78 _ _ ha6, by rw [hL]; exact Bf, by omega, fun H9 s9 => ⟨d, _, rfl, ?_⟩⟩
            rw [gg_int]
            refine ⟨_, _, rfl, rfl, ?_⟩
            have s79 := s78.trans s9
            refine ⟨_, rfl, _, rfl, _, rfl, _, rfl, _, rfl, _, rfl, S t, rfl, ll, a, lot, t.tail.dropLast, by rw [cut_mid (by omega)]; rfl, s79 _ _ ha6, by rw [hL]; exact Bf, by rw [List.length_dropLast, List.length_tail]; omega, fun H10 s10 => ⟨d, _, rfl, ?_⟩⟩
            rw [gg_int, hL]
            refine ⟨_, _, rfl, rfl, rfl, ?_⟩
            have e : decide (V.int (((gg L d t.dropLast : Nat) : Int) + ((gg L d t.tail : Nat) : Int) - ((gg L d t : Nat) : Int) - ((gg L d t.tail.dropLast : Nat) : Int)) = V.int 1) = isW L d t := by
              rw [← isW_long h2, decide_eq_decide]
              exact ⟨fun z => V.int.inj z, fun z => by rw [z]⟩
            rw [e]
            exact hnx _ _ ⟨_, rfl, s79.trans s10⟩
      · rintro σ H5 ⟨u7, u8, u9, rfl, sm5, hl5, hf5⟩
        rw [List.length_map, List.take_length] at hf5
        rw [List.length_map, List.take_length]
        have hSF : ∀ t ∈ stre W (i + 1), FW W t ∧ t.length ≤ 1000 := fun t ht => ⟨((mem_stre G _ _).mp ht).1, by rw [((mem_stre G _ _).mp ht).2]; omega⟩
        have hfn : (fnds W L d i ++ (stre W (i + 1)).filter (isW L d)).length ≤ 160 * (i + 1) := by
          rw [List.length_append]
          have := List.length_filter_le (isW L d) (stre W (i + 1))
          omega
        refine ⟨_, rfl, rfl, decide (((stre W (i + 1)).countP fun t => decide (cnt L t < d)) = 0), ?_, ?_⟩
        · show V.bl _ = V.bl _
          congr 1
          rw [decide_eq_decide]
          exact ⟨fun z => by have := V.int.inj z; omega, fun z => by rw [z]; rfl⟩
        by_cases h0 : ((stre W (i + 1)).countP fun t => decide (cnt L t < d)) = 0
        · rw [decide_eq_true h0]
          refine iteT ?_
          refine ⟨_, rfl, _, rfl, p, l, W, _, rfl, G, hP.same sm5, hl5, by omega, hSF, fun H6 g s6 ng hg => ⟨g, rfl, ⟨_, SqL.of hg⟩, fun D nD => ?_⟩⟩
          have sm6 := sm5.trans s6
          have hlen2 : ∀ t ∈ longer W (stre W (i + 1)), t.length = i + 2 := fun t ht => ((mem_stre G (i + 2) t).mp ht).2
          have hlo : (longer W (stre W (i + 1))).length ≤ 480 := Nat.le_trans (longer_len G _) (by omega)
          refine lc_pure (G := fun H7 => SqL K H7 g ((longer W (stre W (i + 1))).map vS)) src_list (fun j => isW L d ((longer W (stre W (i + 1)))[j]?.getD [])) (fun j => vS ((longer W (stre W (i + 1)))[j]?.getD [])) nD (by rw [List.length_map]; omega) (fun H7 s7 => SqL.of (s7 _ _ hg)) ?_ ?_
          · rintro j v H7 H8 hj s7 ⟨rfl, hv⟩ Qy Qn k1 k2
            obtain ⟨t, rfl, ht⟩ := get_vS hv
            rw [ht] at k1 k2
            have htl := hlen2 t (List.mem_of_getElem? ht)
            refine ⟨rfl, ?_⟩
            refine ⟨_, rfl, _, rfl, _, rfl, a, lot, d, t, rfl, (sm6.trans s7) _ _ ha, by rw [hL]; exact Bf, by omega, by omega, fun H9 s9 => ⟨isW L d t, by rw [hL], ?_⟩⟩
            by_cases hb : isW L d t = true
            · dsimp only
              rw [if_pos hb]
              exact ⟨_, rfl, k1 hb _ s9⟩
            · dsimp only
              rw [if_neg hb]
              rw [Bool.not_eq_true] at hb
              exact k2 hb _ s9
          · intro H7 s7 hD
            rw [List.length_map, made_filter (longer W (stre W (i + 1))) (isW L d) vS []] at hD
            have sm7 := sm6.trans s7
            have hf7 := s7 _ _ (s6 _ _ hf5)
            have hfl2 := List.length_filter_le (isW L d) (longer W (stre W (i + 1)))
            refine ⟨_, rfl, _, rfl, f3, D, _, _, rfl, rfl, hf7, hD, by rw [List.length_map, List.length_map]; exact le_line (by omega), fun c nc => ?_⟩
            have s8 := same_new (o := .lst ((fnds W L d i ++ (stre W (i + 1)).filter (isW L d)).map vS ++ ((longer W (stre W (i + 1))).filter (isW L d)).map vS)) nc
            have hc : LstS (upd H7 c (.lst ((fnds W L d i ++ (stre W (i + 1)).filter (isW L d)).map vS ++ ((longer W (stre W (i + 1))).filter (isW L d)).map vS))) c (fnds W L d (i + 2)) := by
              show upd _ c _ c = _
              rw [upd_same, fnds_succ, fnds_succ, ← List.map_append]
              rfl
            generalize upd H7 c (.lst ((fnds W L d i ++ (stre W (i + 1)).filter (isW L d)).map vS ++ ((longer W (stre W (i + 1))).filter (isW L d)).map vS)) = H8 at s8 hc ⊢
            dsimp only [tNil]
            refine sort_ready hc fun q2 nq2 => ?_
            have s9 := same_new (o := .lst ((sortT (fnds W L d (i + 2))).map vS)) nq2
            have hq2 : upd H8 q2 (.lst ((sortT (fnds W L d (i + 2))).map vS)) q2 = some (.lst ((sortT (fnds W L d (i + 2))).map vS)) := upd_same
            generalize upd H8 q2 (.lst ((sortT (fnds W L d (i + 2))).map vS)) = H9 at s9 hq2 ⊢
            refine ⟨q2, _, rfl, .inl ⟨SqL.of hq2, fun r nr => ?_⟩⟩
            have hall : ∀ t, FW W t → t.length = i + 1 → d ≤ cnt L t := fun t h1 h2 => by
              have := List.countP_eq_zero.mp h0 t ((mem_stre G _ _).mpr ⟨h1, h2⟩)
              simp only [decide_eq_true_eq] at this
              omega
            have U : Full (FW W) (memP lot) d (i + 1) := ⟨G.lang, LK.k, by omega, by rw [hL]; exact hall⟩
            have M : Many (FW W) (memP lot) d (i + 1) (stre W (i + 1)) lot := ⟨U, fun t => memP_iff, LK.l3, LK.lf, fun t => mem_stre G _ t, stre_nodup _, d4⟩
            have FB : FullBook W (sortT (fnds W L d (i + 2))) d := by
              refine full_made G M (by omega) hs160 (sortT_asc (fnds_nodup G L d _)) fun t => ?_
              rw [mem_sortT, mem_fnds G, hL]
              constructor
              · exact fun h => ⟨h.1, h.2.1⟩
              · intro h
                have h1 := U.short h.1 (by rw [hL]; exact h.2)
                have h2 : 1 ≤ t.length := by
                  cases t with
                  | nil => rw [isW_nil] at h; cases h.2
                  | cons a t => simp
                exact ⟨h.1, h.2, h2, by omega⟩
            exact qr _ r _ (sm7.trans (s8.trans (s9.trans (same_new nr)))) upd_same FB
        · rw [decide_eq_false h0]
          refine iteF ?_
          refine ⟨_, rfl, _, rfl, p, l, W, _, rfl, G, hP.same sm5, hl5, by omega, hSF, fun H6 g s6 ng hg => ?_⟩
          have sm6 := sm5.trans s6
          refine ⟨_, rfl, g, _, rfl, .inl (SqL.of hg), _, 160, rfl, rfl, decide ((longer W (stre W (i + 1))).length > 160), ?_, ?_⟩
          · show V.bl _ = V.bl _
            congr 1
            rw [decide_eq_decide, List.length_map]
            omega
          by_cases h1 : (longer W (stre W (i + 1))).length > 160
          · rw [decide_eq_true h1]
            exact iteT (qn H6 sm6)
          · rw [decide_eq_false h1]
            refine iteF ?_
            refine ⟨_, _, _, _, _, g, rfl, sm6, fun z => ?_, hg, ?_, ?_, ?_⟩
            · rw [z, hf5] at ng
              cases ng
            · show LstS H6 f3 (fnds W L d (i + 1))
              rw [fnds_succ]
              exact s6 _ _ hf5
            · show (longer W (stre W (i + 1))).length ≤ 160
              omega
            · rw [fnds_succ]
              exact hfn
    · rintro σ H3 ⟨u5, u6, u7, u8, u9, l, rfl, sm3, _⟩
      exact qn H3 sm3
end
end Nj
set_option Elab.async false
set_option linter.all false
set_option maxRecDepth 100000
set_option maxHeartbeats 4000000
/-! Lots, full books, words: printed by w19.py. -/
namespace Nj
open PySem PySem.Spec PyProof.Rows L2
theorem HandAt.cel {H : Hp} {h c : Addr} (hh : HandAt H h c) : ∃ xs, H c = some (.lst xs) := by
  obtain ⟨cells, i, b, s, t, _, h2, _⟩ := hh
  exact ⟨_, h2⟩
theorem PartsAt.but {H H' : Hp} {p x : Addr} {W : Web} (h : PartsAt H p W) (e : But x H H') (hx : ∃ xs, H x = Option.some (.lst xs)) : PartsAt H' p W := by
  obtain ⟨xs, hx⟩ := hx
  obtain ⟨aa, h1, h2⟩ := h
  exact ⟨aa, e _ _ (fun z => by rw [z, hx] at h1; cases h1) h1, h2.but e fun ys z => by rw [hx] at z; cases z⟩
section
variable {P : Program} {w : World} {K : PySem.W.Frag} {mg : Str → Option Value} {base : Heap} {CW CB : Addr}
def spLot : Sp := fun vs H Q _ => ∃ (h kc p : Addr) (W : Web) (d : Nat), vs = [.ref h, .ref p, vI d] ∧ HandAt H h kc ∧ GoodW W ∧ PartsAt H p W ∧ ∀ H' r fs, But h H H' → HandAt H' h kc → TupS H' r (sortT fs) → Draft W 3 3 fs → Q (.ref r) H'
theorem ok_l_lot (T : Txt K mg CW CB) : Ok P w K mg base "_law_lot" 4 ["_law_hand_here", "_law_parts", "_law_number"] spLot := by
  have G_l_draw := ok_l_draw (P := P) (w := w) (base := base) T
  have G_l_some := ok_l_some (P := P) (w := w) (base := base) T
  have G_l_stretches := ok_l_stretches (P := P) (w := w) (base := base) T
  have G_l_fits := ok_l_fits (P := P) (w := w) (base := base) T
  refine T.d_l_lot.ok sc_l_lot (fun vs H Q E h => ?_) (fun f cdv A outer s H vs Q E hr h => ?_)
  · obtain ⟨h, kc, p, W, d, rfl, _⟩ := h
    rfl
  · obtain ⟨h, kc, p, W, d, rfl, hh, G, hP, q⟩ := h
    have hu2 : (A.deeper (envOfC "_law_lot" (defScope s_l_lot) s.heap.objs.size f cdv)).units + 64 < cLine := by have := hr.un; omega
    refine ⟨_, (pss_cons (ps_set (i := 3) sc_l_lot.nd rfl (.inl rfl) (pe_lst pa_nil))
      (pss_cons (ps_for PassesOwn.never rfl (pi_range1 (by rfl) T.b_range (pa_cons (pk G_l_draw hr (by decide) (by rfl) (pa_cons (pv 0) (pa_cons pe_int pa_nil))) pa_nil)) (pg_name (i := 4) sc_l_lot.nd rfl (.inl rfl))
        (pss_cons (ps_set (i := 5) sc_l_lot.nd rfl (.inl rfl) (pk G_l_some hr (by decide) (by rfl) (pa_cons (pv 0) (pa_cons (pk G_l_stretches hr (by decide) (by rfl) (pa_cons (pv 1) (pa_cons (pe_op op_add pe_int (pk G_l_draw hr (by decide) (by rfl) (pa_cons (pv 0) (pa_cons pe_int pa_nil)))) pa_nil))) pa_nil))))
        (pss_one (ps_if (PW.pt (pw_and (pt_cmpR (niSq K) (pv 5) (pv 3) (by rfl)) (pw_and1 (pt_val (pk G_l_fits hr (by decide) (by rfl) (pa_cons (pv 3) (pa_cons (pv 5) pa_nil)))))))
          (pss_one (ps_expr (pe_bm PySem.F.plainAttrs_list PySem.F.slot_list_append PySem.F.type_list_append mt_append (pv 3) (pa_cons (pv 5) pa_nil))))
          pss_nil))))
      (pss_one (ps_ret (pe_callTy (crTup K) (by rfl) T.b_tuple B_tuple (pa_cons (pe_callB (crSortD K hu2) (by rfl) T.b_sorted B_sorted (pa_cons (pv 3) pa_nil)) pa_nil)))))), ?_⟩
    have B1 : But h H H := Same.but (Same.refl H)
    have hh1 := hh
    refine ⟨le_line (by simp), fun f nf => ?_⟩
    have sf := same_new (o := .lst []) nf
    have f0 : H f = Option.none := by
      cases e : H f with
      | none => rfl
      | some o =>
        have := B1 f o (fun z => by obtain ⟨xs, hx⟩ := hh1.lst; rw [z, hx] at nf; cases nf) e
        rw [nf] at this
        cases this
    have fh : f ≠ h := fun z => by obtain ⟨xs, hx⟩ := hh1.lst; rw [z, hx] at nf; cases nf
    have fk : f ≠ kc := fun z => by obtain ⟨xs, hx⟩ := hh1.cel; rw [z, hx] at nf; cases nf
    refine ⟨_, rfl, h, kc, 4, rfl, hh1.same sf, by omega, by omega, fun H2 n B2 hh2 hn => ⟨n, rfl, by omega, by omega, for_src (G := fun _ => True) src_rng (fun i σ H3 => ∃ (ut ux : Option V) (fs : List Tx), σ = [some (.ref h), some (.ref p), some (vI d), some (.ref f), ut, ux] ∧ But h H H3 ∧ HandAt H3 h kc ∧ LstS H3 f fs ∧ Draft W i 3 fs) ?_ (fun _ _ _ _ _ => trivial) ?_ ?_⟩⟩
    · refine ⟨_, _, [], rfl, (B1.same sf).trans B2, hh2, ?_, Draft.new W 3⟩
      exact B2 _ _ fh (show upd _ f _ f = _ from upd_same)
    · rintro i v σ H3 H3' hi ⟨ut, ux, fs, rfl, B3, hh3, hf3, DD⟩ ⟨rfl, rfl⟩
      refine ⟨_, rfl, _, rfl, _, rfl, h, kc, 3, rfl, hh3, by omega, by omega, fun H4 k B4 hh4 hk => ⟨1, k, rfl, rfl, p, W, 1 + k, rfl, G, hP.but (B3.trans B4) hh.lst, by omega, fun H5 l s5 nl hl => ⟨h, kc, hh4.same s5, .inl ⟨l, stre W (1 + k), rfl, ?_, hl, stre_ne G _, ?_, fun H6 t B6 hh6 ht => ?_⟩⟩⟩⟩
      · intro z
        obtain ⟨xs, hx⟩ := hh4.lst
        rw [z, hx] at nl
        cases nl
      · have h1 := stre_le G (1 + k)
        have h2 := Nat.pow_le_pow_right (show 0 < 3 by decide) (show 1 + k ≤ 5 by omega)
        exact Nat.le_trans h1 (Nat.le_trans h2 (by decide))
      obtain ⟨htF, htl⟩ := (mem_stre G _ _).mp ht
      have B36 := (B4.same s5).trans B6
      have B06 := B3.trans B36
      have hf6 : LstS H6 f fs := B36 _ _ fh hf3
      have lfs : fs.length ≤ 10 := by have := DD.nn; omega
      refine ⟨_, rfl, _, rfl, f, _, rfl, .inl (SqL.of hf6), rfl, flat_texts fs, !memP fs t, ?_, ?_⟩
      · show V.bl (!inV (vS t) (fs.map vS)) = _
        rw [inV_texts]
      by_cases hm : memP fs t = true
      · rw [hm]
        refine iteF ?_
        exact ⟨_, _, fs, rfl, B06, hh6, hf6, DD.more (by omega)⟩
      · rw [Bool.not_eq_true] at hm
        rw [hm]
        refine iteT ?_
        refine ⟨_, rfl, _, rfl, f, fs, t, rfl, hf6, by omega, fun u hu => by have := DD.ll u hu; omega, by omega, fun H7 s7 => ⟨fitB fs t, rfl, ?_⟩⟩
        have hf7 := s7 _ _ hf6
        by_cases hfit : fitB fs t = true
        · rw [hfit]
          refine iteT ⟨_, rfl, .inl ⟨rfl, _, SqL.of hf7⟩, _, rfl, f, _, _, rfl, rfl, hf7, by rw [List.length_map]; exact lt_line (by omega), ?_⟩
          refine ⟨_, _, fs ++ [t], rfl, but_mut (B06.same s7) f0, (hh6.same s7).put fh fk, ?_, DD.add htF (by omega) (fun z => by rw [memP_iff.mpr z] at hm; cases hm) hfit⟩
          show upd _ f _ f = _
          rw [upd_same, List.map_append]
          rfl
        · rw [Bool.not_eq_true] at hfit
          rw [hfit]
          refine iteF ?_
          exact ⟨_, _, fs, rfl, B06.same s7, hh6.same s7, hf7, DD.more (by omega)⟩
    · rintro σ H3 ⟨ut, ux, fs, rfl, B3, hh3, hf3, DD⟩
      rw [Int.toNat_natCast] at DD
      dsimp only
      refine ⟨_, rfl, ?_⟩
      dsimp only [tNil]
      refine sort_ready hf3 fun s1 ns1 => ?_
      have ss := same_new (o := .lst ((sortT fs).map vS)) ns1
      have hs1 : upd H3 s1 (.lst ((sortT fs).map vS)) s1 = some (.lst ((sortT fs).map vS)) := upd_same
      generalize upd H3 s1 (.lst ((sortT fs).map vS)) = H4 at ss hs1 ⊢
      refine ⟨s1, _, rfl, .inl ⟨SqL.of hs1, fun r nr => ?_⟩⟩
      have s2 := ss.trans (same_new (o := .tup ((sortT fs).map vS)) nr)
      exact q _ r fs (B3.same s2) (hh3.same s2) upd_same (DD.more (by omega))
def spFull : Sp := fun vs H Q _ => ∃ (h kc p : Addr) (W : Web), vs = [.ref h, .ref p] ∧ HandAt H h kc ∧ GoodW W ∧ PartsAt H p W ∧
  ∀ H' r a ws d, But h H H' → HandAt H' h kc → H' r = some (.tup [vI d, .ref a]) → TupS H' a ws → FullBook W ws d → Q (.ref r) H'
theorem ok_l_full (T : Txt K mg CW CB) : Ok P w K mg base "_law_full" 5 ["_law_hand_here", "_law_parts"] spFull := by
  have G_l_draw := ok_l_draw (P := P) (w := w) (base := base) T
  have G_l_lot := ok_l_lot (P := P) (w := w) (base := base) T
  have G_l_count := ok_l_count (P := P) (w := w) (base := base) T
  have G_l_made := ok_l_made (P := P) (w := w) (base := base) T
  have G_l_stretches := ok_l_stretches (P := P) (w := w) (base := base) T
  refine T.d_l_full.ok sc_l_full (fun vs H Q E h => ?_) (fun f cdv A outer s H vs Q E hr h => ?_)
  · obtain ⟨h, kc, p, W, rfl, _⟩ := h
    rfl
  · obtain ⟨h, kc, p, W, rfl, hh, G, hP, q⟩ := h
    refine ⟨_, (pss_cons (ps_set (i := 2) sc_l_full.nd rfl (.inr rfl) (pe_ix (ixL K) (pe_lst (pa_cons pe_int (pa_cons pe_int (pa_cons pe_int (pa_cons pe_int (pa_cons pe_int (pa_cons pe_int pa_nil))))))) (pk G_l_draw hr (by decide) (by rfl) (pa_cons (pv 0) (pa_cons pe_int pa_nil))) (fun _ _ => rfl)))
      (pss_cons (ps_set (i := 3) sc_l_full.nd rfl (.inr rfl) (pk G_l_lot hr (by decide) (by rfl) (pa_cons (pv 0) (pa_cons (pv 1) (pa_cons (pv 2) pa_nil)))))
      (pss_cons (ps_if (pt_val (pe_callB (crAll K rfl) (by rfl) T.b_all B_all (pa_cons (pe_lc (own := [("_law_text", 5)]) rfl sc_l_full.nd (piT K (pv 3)) (blkOk_by (N := ["_law_hand_here", "_law_parts", "_law_number", "_law_lot_here", "_law_found", "_law_text"]) (sc := defScope s_l_full) (by decide +kernel)) (fun _ _ _ _ _ => (pg_name (i := 5) sc_l_full.nd rfl (.inl rfl))) (fun _ _ _ _ _ => pts_nil) (fun _ _ _ _ _ => (pe_cmpR op_lt (pk G_l_count hr (by decide) (by rfl) (pa_cons (pv 3) (pa_cons (pv 5) pa_nil))) (pv 2) (nomark _)))) pa_nil)))
        (pss_cons (ps_set (i := 4) sc_l_full.nd rfl (.inl rfl) (pk G_l_made hr (by decide) (by rfl) (pa_cons (pv 1) (pa_cons (pv 3) (pa_cons (pv 2) pa_nil)))))
        (pss_one (ps_if (pt_cmpR op_notN (pv 4) pe_non (nomark _))
          (pss_one (ps_ret (pe_tup (pa_cons (pv 2) (pa_cons (pv 4) pa_nil)))))
          pss_nil)))
        pss_nil)
      (pss_cons (ps_set (i := 2) sc_l_full.nd rfl (.inr rfl) (pe_callB (call_min2 rfl) (by rfl) T.b_min B_min (pa_cons (pv 2) (pa_cons pe_int pa_nil))))
      (pss_one (ps_ret (pe_tup (pa_cons (pv 2) (pa_cons (pe_callTy (crTup K) (by rfl) T.b_tuple B_tuple (pa_cons (pk G_l_stretches hr (by decide) (by rfl) (pa_cons (pv 1) (pa_cons (pv 2) pa_nil))) pa_nil)) pa_nil))))))))), ?_⟩
    refine ⟨le_line (by simp), fun l nl => ?_⟩
    have sl := same_new (o := .lst [.int 1, .int 2, .int 2, .int 3, .int 3, .int 4]) nl
    have lh : l ≠ h := fun z => by obtain ⟨xs, hx⟩ := hh.lst; rw [z, hx] at nl; cases nl
    refine ⟨_, rfl, h, kc, 6, rfl, hh.same sl, by omega, by omega, fun H2 k B2 hh2 hk => ?_⟩
    have hl2 : H2 l = some (.lst [.int 1, .int 2, .int 2, .int 3, .int 3, .int 4]) := B2 _ _ lh upd_same
    obtain ⟨d, hd, d1, d4⟩ : ∃ d : Nat, atI [V.int 1, V.int 2, V.int 2, V.int 3, V.int 3, V.int 4] (k : Int) = some (vI d) ∧ 1 ≤ d ∧ d ≤ 4 := by
      rcases (show k = 0 ∨ k = 1 ∨ k = 2 ∨ k = 3 ∨ k = 4 ∨ k = 5 by omega) with rfl | rfl | rfl | rfl | rfl | rfl
      · exact ⟨1, atI_nat (j := 0) rfl, by omega, by omega⟩
      · exact ⟨2, atI_nat (j := 1) rfl, by omega, by omega⟩
      · exact ⟨2, atI_nat (j := 2) rfl, by omega, by omega⟩
      · exact ⟨3, atI_nat (j := 3) rfl, by omega, by omega⟩
      · exact ⟨3, atI_nat (j := 4) rfl, by omega, by omega⟩
      · exact ⟨4, atI_nat (j := 5) rfl, by omega, by omega⟩
    refine ⟨l, _, k, vI d, rfl, rfl, SqL.of hl2, hd, ?_⟩
    have B02 : But h H H2 := (Same.but sl).trans B2
    clear hl2 hd hk
    refine ⟨_, rfl, _, rfl, _, rfl, h, kc, p, W, d, rfl, hh2, G, hP.but B02 hh.lst, fun H3 a fs B3 hh3 ha DD => ?_⟩
    have B03 := B02.trans B3
    have BK := DD.book (by decide) (by decide)
    have hP3 := hP.but B03 hh.lst
    have hll : (sortT fs).length ≤ 3 := by rw [sortT_len]; exact DD.nn
    dsimp only
    refine seq_mid (fun σ' H' => ∃ (u4 u5 : Option V), σ' = [some (.ref h), some (.ref p), some (vI d), some (.ref a), u4, u5] ∧ Same H3 H') ?_ ?_
    · rintro σ' H4 ⟨u4, u5, rfl, s4⟩
      have em : V.int (if (3 : Int) < (d : Int) then 3 else (d : Int)) = vI (min d 3) := by
        by_cases z : (3 : Int) < (d : Int)
        · rw [if_pos z, show min d 3 = 3 by omega]; rfl
        · rw [if_neg z, show min d 3 = d by omega]
      refine ⟨_, rfl, d, 3, rfl, ?_⟩
      rw [em]
      refine ⟨_, rfl, _, rfl, _, rfl, p, W, min d 3, rfl, G, hP3.same s4, by omega, fun H5 l s5 nl hl => ⟨l, _, rfl, .inl ⟨SqL.of hl, fun tp ntp => ?_⟩⟩⟩
      have s6 := same_new (o := .tup ((stre W (min d 3)).map vS)) ntp
      have htp : upd H5 tp (.tup ((stre W (min d 3)).map vS)) tp = some (.tup ((stre W (min d 3)).map vS)) := upd_same
      generalize upd H5 tp (.tup ((stre W (min d 3)).map vS)) = H6 at s6 htp ⊢
      refine ⟨le_line (by simp), fun r nr => ?_⟩
      have s7 := same_new (o := .tup [vI (min d 3), .ref tp]) nr
      have s37 := s4.trans (s5.trans (s6.trans s7))
      exact q _ r tp _ (min d 3) (B03.same s37) (hh3.same s37) upd_same (s7 _ _ htp) (full_flat G (by omega) (by omega))
    · intro nx hnx
      refine ⟨_, rfl, a, rfl, ⟨_, SqT.of ha⟩, fun D nD => lc_pure (G := fun H4 => SqT K H4 a ((sortT fs).map vS)) src_tup (fun _ => true) (fun i => .bl (decide (cnt (memP (sortT fs)) ((sortT fs)[i]?.getD []) < d))) nD (by rw [List.length_map]; omega) (fun H4 s4 => SqT.of (s4 _ _ ha)) ?_ ?_⟩
      · rintro i v H4 H5 hi s4 ⟨rfl, hv⟩ Qy Qn k1 _
        obtain ⟨t, rfl, ht⟩ := get_vS hv
        rw [ht] at k1
        refine ⟨rfl, yes_go ?_⟩
        refine ⟨_, rfl, _, rfl, a, sortT fs, t, rfl, s4 _ _ ha, BK.bb, by have := BK.l10 t (List.mem_of_getElem? ht); omega, fun H6 s6 => ⟨_, rfl, _, d, rfl, rfl, ?_⟩⟩
        have e : (V.bl (decide (((cnt (memP (sortT fs)) t : Nat) : Int) < (d : Int)))) = V.bl (decide (cnt (memP (sortT fs)) t < d)) := by
          congr 1
          rw [decide_eq_decide]
          omega
        show Qy (V.bl (decide (((cnt (memP (sortT fs)) t : Nat) : Int) < (d : Int)))) H6
        rw [e]
        exact k1 rfl _ s6
      · intro H4 s4 hD
        rw [List.length_map, made_all (sortT fs) (fun t => V.bl (decide (cnt (memP (sortT fs)) t < d))) []] at hD
        refine ⟨D, (sortT fs).map fun t => decide (cnt (memP (sortT fs)) t < d), rfl, .inl (.inl (by rw [List.map_map]; exact hD)), _, rfl, ?_⟩
        by_cases hall : ((sortT fs).map fun t => decide (cnt (memP (sortT fs)) t < d)).all id = true
        · rw [hall]
          refine iteT ?_
          have hlo : ∀ t, memP (sortT fs) t = true → cnt (memP (sortT fs)) t < d := fun t ht => by
            rw [List.all_map, List.all_eq_true] at hall
            exact of_decide_eq_true (hall t (memP_iff.mp ht))
          have LK : LotOk W (sortT fs) d := ⟨⟨BK.bb, hlo, d1⟩, hll, fun t ht => ⟨BK.fw t ht, DD.ll t (mem_sortT.mp ht)⟩, d4⟩
          refine ⟨_, rfl, _, rfl, _, rfl, p, a, W, sortT fs, d, rfl, G, hP3.same s4, s4 _ _ ha, LK, fun H5 s5 => ?_, fun H5 b ws s5 hb FB => ?_⟩
          · refine ⟨_, rfl, rfl, false, rfl, iteF ?_⟩
            exact hnx _ _ ⟨_, _, rfl, s4.trans s5⟩
          · refine ⟨_, rfl, rfl, true, rfl, iteT ?_⟩
            refine ⟨_, rfl, _, rfl, le_line (by simp), fun r nr => ?_⟩
            have s6 := same_new (o := .tup [vI d, .ref b]) nr
            have s36 := s4.trans (s5.trans s6)
            exact q _ r b ws d (B03.same s36) (hh3.same s36) upd_same (s6 _ _ hb) FB
        · rw [Bool.not_eq_true] at hall
          rw [hall]
          exact iteF (hnx _ _ ⟨_, _, rfl, s4⟩)
def spWords : Sp := fun vs H Q _ => ∃ (h kc p : Addr) (W : Web), vs = [.ref h, .ref p] ∧ HandAt H h kc ∧ GoodW W ∧ PartsAt H p W ∧ ∀ H' r ws, But h H H' → HandAt H' h kc → TupS H' r ws → BookOk W ws → Q (.ref r) H'
theorem ok_l_words (T : Txt K mg CW CB) : Ok P w K mg base "_law_words" 6 ["_law_hand_here", "_law_parts"] spWords := by
  have G_l_draw := ok_l_draw (P := P) (w := w) (base := base) T
  have G_l_some := ok_l_some (P := P) (w := w) (base := base) T
  have G_l_stretches := ok_l_stretches (P := P) (w := w) (base := base) T
  have G_l_fits := ok_l_fits (P := P) (w := w) (base := base) T
  have G_l_full := ok_l_full (P := P) (w := w) (base := base) T
  refine T.d_l_words.ok sc_l_words (fun vs H Q E h => ?_) (fun f cdv A outer s H vs Q E hr h => ?_)
  · obtain ⟨h, kc, p, W, rfl, _⟩ := h
    rfl
  · obtain ⟨h, kc, p, W, rfl, hh, G, hP, q⟩ := h
    have hu2 : (A.deeper (envOfC "_law_words" (defScope s_l_words) s.heap.objs.size f cdv)).units + 64 < cLine := by have := hr.un; omega
    refine ⟨_, (pss_cons (ps_set (i := 2) sc_l_words.nd rfl (.inr rfl) (pk G_l_draw hr (by decide) (by rfl) (pa_cons (pv 0) (pa_cons pe_int pa_nil))))
      (pss_cons (ps_set (i := 3) sc_l_words.nd rfl (.inl rfl) (pe_ix (ixT K) (pk G_l_full hr (by decide) (by rfl) (pa_cons (pv 0) (pa_cons (pv 1) pa_nil))) pe_int (fun _ _ => rfl)))
      (pss_cons (ps_if (pt_cmpR op_eq (pv 2) pe_int (nomark _))
        (pss_one (ps_ret (pv 3)))
        pss_nil)
      (pss_cons (ps_if (pt_cmpR op_lt (pv 2) pe_int (nomark _))
        (pss_one (ps_ret (pe_callTy (crTup K) (by rfl) T.b_tuple B_tuple (pa_cons (pe_lc (own := [("_law_word", 7)]) rfl sc_l_words.nd (piT K (pv 3)) (blkOk_by (N := ["_law_hand_here", "_law_parts", "_law_kind", "_law_words_here", "_law_found", "_law_turn", "_law_text", "_law_word"]) (sc := defScope s_l_words) (by decide +kernel)) (fun _ _ _ _ _ => (pg_name (i := 7) sc_l_words.nd rfl (.inl rfl))) (fun _ _ _ _ _ => (pts_one (pt_cmpR op_gt (pk G_l_draw hr (by decide) (by rfl) (pa_cons (pv 0) (pa_cons (pe_op op_add pe_int (pv 2)) pa_nil))) pe_int (nomark _)))) (fun _ _ _ _ _ => (pv 7))) pa_nil))))
        pss_nil)
      (pss_cons (ps_set (i := 4) sc_l_words.nd rfl (.inl rfl) (pe_lst pa_nil))
      (pss_cons (ps_for PassesOwn.never rfl (pi_range1 (by rfl) T.b_range (pa_cons (pk G_l_draw hr (by decide) (by rfl) (pa_cons (pv 0) (pa_cons pe_int pa_nil))) pa_nil)) (pg_name (i := 5) sc_l_words.nd rfl (.inl rfl))
        (pss_cons (ps_set (i := 6) sc_l_words.nd rfl (.inl rfl) (pk G_l_some hr (by decide) (by rfl) (pa_cons (pv 0) (pa_cons (pk G_l_stretches hr (by decide) (by rfl) (pa_cons (pv 1) (pa_cons (pe_op op_add pe_int (pk G_l_draw hr (by decide) (by rfl) (pa_cons (pv 0) (pa_cons pe_int pa_nil)))) pa_nil))) pa_nil))))
        (pss_one (ps_if (PW.pt (pw_and (pt_cmpR (niSq K) (pv 6) (pv 4) (by rfl)) (pw_and1 (pt_val (pk G_l_fits hr (by decide) (by rfl) (pa_cons (pv 4) (pa_cons (pv 6) pa_nil)))))))
          (pss_one (ps_expr (pe_bm PySem.F.plainAttrs_list PySem.F.slot_list_append PySem.F.type_list_append mt_append (pv 4) (pa_cons (pv 6) pa_nil))))
          pss_nil))))
      (pss_one (ps_ret (pe_callTy (crTup K) (by rfl) T.b_tuple B_tuple (pa_cons (pe_callB (crSortD K hu2) (by rfl) T.b_sorted B_sorted (pa_cons (pv 4) pa_nil)) pa_nil)))))))))), ?_⟩
    refine ⟨_, rfl, h, kc, 4, rfl, hh, by omega, by omega, fun Ha kind Ba hha hkind => ?_⟩
    refine ⟨_, rfl, _, rfl, h, kc, p, W, rfl, hha, G, hP.but Ba hh.lst, fun H1 r0 a ws d Bb hh1 hr0 ha FB => ?_⟩
    have B1 := Ba.trans Bb
    refine ⟨r0, _, 1, .ref a, rfl, rfl, SqT.of hr0, atI_nat (j := 1) rfl, ?_⟩
    refine ⟨_, rfl, rfl, decide (kind = 0), ?_, ?_⟩
    · show V.bl _ = V.bl _
      congr 1
      rw [decide_eq_decide]
      exact ⟨fun z => by have := V.int.inj z; omega, fun z => by rw [z]; rfl⟩
    by_cases k0 : kind = 0
    · rw [decide_eq_true k0]
      exact iteT ⟨_, rfl, q H1 a ws B1 hh1 ha FB.bk⟩
    rw [decide_eq_false k0]
    refine iteF ?_
    refine ⟨_, rfl, kind, 3, rfl, rfl, decide (kind < 3), ?_, ?_⟩
    · show V.bl _ = V.bl _
      congr 1
      rw [decide_eq_decide]
      omega
    by_cases k3 : kind < 3
    · rw [decide_eq_true k3]
      refine iteT ?_
      have hln := FB.bk.n400
      refine ⟨_, rfl, a, rfl, ⟨_, SqT.of ha⟩, fun D nD => lc_src (G := fun H2 => SqT K H2 a (ws.map vS)) src_tup (fun i H2 => But h H1 H2 ∧ HandAt H2 h kc ∧ ∃ vs, LstS H2 D vs ∧ vs.Sublist (ws.take i)) ?_ ?_ ?_ ?_⟩
      · have sD := same_new (o := .lst []) nD
        exact ⟨Same.but sD, hh1.same sD, [], upd_same, List.Sublist.refl _⟩
      · rintro i H2 _ ⟨B2, hh2, _⟩
        refine SqT.of (B2 _ _ (fun z => ?_) ha)
        obtain ⟨xs, hx⟩ := hh1.lst
        rw [← z, ha] at hx
        cases hx
      · rintro i v H2 H3 hi ⟨B2, hh2, vs, hD, hsub⟩ ⟨rfl, hv⟩
        obtain ⟨t, rfl, ht⟩ := get_vS hv
        rw [List.length_map] at hi
        have Dh : D ≠ h := fun z => by obtain ⟨xs, hx⟩ := hh1.lst; rw [z, hx] at nD; cases nD
        have Dk : D ≠ kc := fun z => by obtain ⟨xs, hx⟩ := hh1.cel; rw [z, hx] at nD; cases nD
        have hvl : vs.length ≤ i := Nat.le_trans hsub.length_le (List.length_take_le _ _)
        refine ⟨rfl, ?_⟩
        refine ⟨_, rfl, _, rfl, 2, kind, rfl, rfl, h, kc, 2 + kind, rfl, hh2, by omega, by omega, fun H4 k B4 hh4 hk => ⟨k, 0, rfl, rfl, decide (0 < k), ?_, ?_⟩⟩
        · show V.bl _ = V.bl _
          congr 1
          rw [decide_eq_decide]
          omega
        have hD4 : LstS H4 D vs := B4 _ _ Dh hD
        by_cases hk0 : 0 < k
        · rw [decide_eq_true hk0]
          refine iteT ⟨_, rfl, _, hD4, by rw [List.length_map]; exact lt_line (by omega), but_mut (B2.trans B4) nD, hh4.put Dh Dk, vs ++ [t], ?_, ?_⟩
          · show upd _ D _ D = _
            rw [upd_same, List.map_append]
            rfl
          · rw [take_next ht]
            exact hsub.append (List.Sublist.refl _)
        · rw [decide_eq_false hk0]
          refine iteF ⟨B2.trans B4, hh4, vs, hD4, ?_⟩
          rw [take_next ht]
          exact hsub.trans (List.sublist_append_left _ _)
      · rintro H2 ⟨B2, hh2, vs, hD, hsub⟩
        rw [List.length_map, List.take_length] at hsub
        refine ⟨D, _, rfl, .inl ⟨SqL.of hD, fun r nr => ?_⟩⟩
        have s3 := same_new (o := .tup (vs.map vS)) nr
        exact q _ r vs ((B1.trans B2).same s3) (hh2.same s3) upd_same (FB.bk.sub hsub)
    rw [decide_eq_false k3]
    refine iteF ?_
    refine ⟨le_line (by simp), fun f nf => ?_⟩
    have sf := same_new (o := .lst []) nf
    have f0 : H f = Option.none := by
      cases e : H f with
      | none => rfl
      | some o =>
        have := B1 f o (fun z => by obtain ⟨xs, hx⟩ := hh1.lst; rw [z, hx] at nf; cases nf) e
        rw [nf] at this
        cases this
    have fh : f ≠ h := fun z => by obtain ⟨xs, hx⟩ := hh1.lst; rw [z, hx] at nf; cases nf
    have fk : f ≠ kc := fun z => by obtain ⟨xs, hx⟩ := hh1.cel; rw [z, hx] at nf; cases nf
    refine ⟨_, rfl, h, kc, 8, rfl, hh1.same sf, by omega, by omega, fun H2 n B2 hh2 hn => ⟨n, rfl, by omega, by omega, for_src (G := fun _ => True) src_rng (fun i σ H3 => ∃ (ut ux : Option V) (fs : List Tx), σ = [some (.ref h), some (.ref p), some (vI kind), some (.ref a), some (.ref f), ut, ux, none] ∧ But h H H3 ∧ HandAt H3 h kc ∧ LstS H3 f fs ∧ Draft W i 5 fs) ?_ (fun _ _ _ _ _ => trivial) ?_ ?_⟩⟩
    · refine ⟨_, _, [], rfl, (B1.same sf).trans B2, hh2, ?_, Draft.new W 5⟩
      exact B2 _ _ fh (show upd _ f _ f = _ from upd_same)
    · rintro i v σ H3 H3' hi ⟨ut, ux, fs, rfl, B3, hh3, hf3, DD⟩ ⟨rfl, rfl⟩
      refine ⟨_, rfl, _, rfl, _, rfl, h, kc, 5, rfl, hh3, by omega, by omega, fun H4 k B4 hh4 hk => ⟨1, k, rfl, rfl, p, W, 1 + k, rfl, G, hP.but (B3.trans B4) hh.lst, by omega, fun H5 l s5 nl hl => ⟨h, kc, hh4.same s5, .inl ⟨l, stre W (1 + k), rfl, ?_, hl, stre_ne G _, ?_, fun H6 t B6 hh6 ht => ?_⟩⟩⟩⟩
      · intro z
        obtain ⟨xs, hx⟩ := hh4.lst
        rw [z, hx] at nl
        cases nl
      · have h1 := stre_le G (1 + k)
        have h2 := Nat.pow_le_pow_right (show 0 < 3 by decide) (show 1 + k ≤ 5 by omega)
        exact Nat.le_trans h1 (Nat.le_trans h2 (by decide))
      obtain ⟨htF, htl⟩ := (mem_stre G _ _).mp ht
      have B36 := (B4.same s5).trans B6
      have B06 := B3.trans B36
      have hf6 : LstS H6 f fs := B36 _ _ fh hf3
      have lfs : fs.length ≤ 10 := by have := DD.nn; omega
      refine ⟨_, rfl, _, rfl, f, _, rfl, .inl (SqL.of hf6), rfl, flat_texts fs, !memP fs t, ?_, ?_⟩
      · show V.bl (!inV (vS t) (fs.map vS)) = _
        rw [inV_texts]
      by_cases hm : memP fs t = true
      · rw [hm]
        refine iteF ?_
        exact ⟨_, _, fs, rfl, B06, hh6, hf6, DD.more (by omega)⟩
      · rw [Bool.not_eq_true] at hm
        rw [hm]
        refine iteT ?_
        refine ⟨_, rfl, _, rfl, f, fs, t, rfl, hf6, by omega, fun u hu => by have := DD.ll u hu; omega, by omega, fun H7 s7 => ⟨fitB fs t, rfl, ?_⟩⟩
        have hf7 := s7 _ _ hf6
        by_cases hfit : fitB fs t = true
        · rw [hfit]
          refine iteT ⟨_, rfl, .inl ⟨rfl, _, SqL.of hf7⟩, _, rfl, f, _, _, rfl, rfl, hf7, by rw [List.length_map]; exact lt_line (by omega), ?_⟩
          refine ⟨_, _, fs ++ [t], rfl, but_mut (B06.same s7) f0, (hh6.same s7).put fh fk, ?_, DD.add htF (by omega) (fun z => by rw [memP_iff.mpr z] at hm; cases hm) hfit⟩
          show upd _ f _ f = _
          rw [upd_same, List.map_append]
          rfl
        · rw [Bool.not_eq_true] at hfit
          rw [hfit]
          refine iteF ?_
          exact ⟨_, _, fs, rfl, B06.same s7, hh6.same s7, hf7, DD.more (by omega)⟩
    · rintro σ H3 ⟨ut, ux, fs, rfl, B3, hh3, hf3, DD⟩
      rw [Int.toNat_natCast] at DD
      dsimp only
      refine ⟨_, rfl, ?_⟩
      dsimp only [tNil]
      refine sort_ready hf3 fun s1 ns1 => ?_
      have ss := same_new (o := .lst ((sortT fs).map vS)) ns1
      have hs1 : upd H3 s1 (.lst ((sortT fs).map vS)) s1 = some (.lst ((sortT fs).map vS)) := upd_same
      generalize upd H3 s1 (.lst ((sortT fs).map vS)) = H4 at ss hs1 ⊢
      refine ⟨s1, _, rfl, .inl ⟨SqL.of hs1, fun r nr => ?_⟩⟩
      have s2 := ss.trans (same_new (o := .tup ((sortT fs).map vS)) nr)
      exact q _ r _ (B3.same s2) (hh3.same s2) upd_same (DD.book (by omega) (by decide))
end
end Nj
set_option Elab.async false
set_option linter.all false
set_option maxRecDepth 100000
set_option maxHeartbeats 4000000
/-! The law's own test for the same. -/
namespace Nj
open PySem PySem.Spec PyProof.Rows L2
section
variable {P : Program} {w : World} {K : PySem.W.Frag} {mg : Str → Option Value} {base : Heap} {CW CB : Addr}
theorem kAI : PySem.W.kitAny K (.type "int") [.type "tuple", .type "list"] = some false := kitAny_cons (b := false) (kit_ty (by decide +kernel)) (fun _ => kitAny_cons (b := false) (kit_ty (by decide +kernel)) (fun _ => kitAny_nil) (fun h => nomatch h)) (fun h => nomatch h)
theorem kAT : PySem.W.kitAny K (.type "tuple") [.type "tuple", .type "list"] = some true := kitAny_cons (b := true) (kit_ty (by decide +kernel)) (fun h => nomatch h) (fun _ => rfl)
theorem kAL : PySem.W.kitAny K (.type "list") [.type "tuple", .type "list"] = some true := kitAny_cons (b := false) (kit_ty (by decide +kernel)) (fun _ => kitAny_cons (b := true) (kit_ty (by decide +kernel)) (fun h => nomatch h) (fun _ => rfl)) (fun h => nomatch h)
theorem src_zipT {a b : Addr} {xs ys : List V} (e : xs.length = ys.length) : Src (RZ.ItzT K a b) xs.length (fun H => SqT K H a xs ∧ SqT K H b ys) fun i v H H' => ∃ T x y, v = .ref T ∧ H T = none ∧ H' = upd H T (.tup [x, y]) ∧ xs[i]? = some x ∧ ys[i]? = some y :=
  ⟨fun i H hi hG => ⟨xs, ys, xs[i], ys[i], hG.1, hG.2, List.getElem?_eq_getElem hi, List.getElem?_eq_getElem (by omega)⟩, fun i H x H' hi hG q => by
    obtain ⟨T, x, y, h1, h2, h3, h4, h5⟩ := q
    exact ⟨T, x, y, h1, h2, h3, h4 _ hG.1, h5 _ hG.2⟩, fun H hG => ⟨xs, ys, hG.1, hG.2, .inl (Nat.le_refl _)⟩⟩
theorem src_zipL {a b : Addr} {xs ys : List V} (e : xs.length = ys.length) : Src (Itz K a b) xs.length (fun H => SqL K H a xs ∧ SqL K H b ys) fun i v H H' => ∃ T x y, v = .ref T ∧ H T = none ∧ H' = upd H T (.tup [x, y]) ∧ xs[i]? = some x ∧ ys[i]? = some y :=
  ⟨fun i H hi hG => ⟨xs, ys, xs[i], ys[i], hG.1, hG.2, List.getElem?_eq_getElem hi, List.getElem?_eq_getElem (by omega)⟩, fun i H x H' hi hG q => by
    obtain ⟨T, x, y, h1, h2, h3, h4, h5⟩ := q
    exact ⟨T, x, y, h1, h2, h3, h4 _ hG.1, h5 _ hG.2⟩, fun H hG => ⟨xs, ys, hG.1, hG.2, .inl (Nat.le_refl _)⟩⟩
theorem ok_l_is0 (T : Txt K mg CW CB) : Ok P w K mg base "_law_is" 1 ["_law_told", "_law_due"] (fun _ _ _ _ => False) :=
  T.d_l_is.ok sc_l_is (fun vs H Q E h => h.elim) (fun f cdv A outer s H vs Q E hr h => h.elim)
def spIs1 : Sp := fun vs H Q _ => ∃ i : Int, vs = [.int i, .int i] ∧ ∀ H', Same H H' → Q (.bl true) H'
theorem ok_l_is1 (T : Txt K mg CW CB) : Ok P w K mg base "_law_is" 2 ["_law_told", "_law_due"] spIs1 := by
  have G_l_is := ok_l_is0 (P := P) (w := w) (base := base) T
  refine T.d_l_is.ok sc_l_is (fun vs H Q E h => ?_) (fun f cdv A outer s H vs Q E hr h => ?_)
  · obtain ⟨i, rfl, _⟩ := h
    rfl
  · obtain ⟨i, rfl, q⟩ := h
    refine ⟨_, (pss_cons (ps_if (pt_val (pe_callB (crIsiT K) (by rfl) T.b_isinstance B_isinstance (pa_cons (pv 1) (pa_cons (pe_tup (pa_cons (pe_bltn (v := .ty "tuple") (by rfl) T.b_tuple B_tuple rfl) (pa_cons (pe_bltn (v := .ty "list") (by rfl) T.b_list B_list rfl) pa_nil))) pa_nil))))
        (pss_cons (ps_if (PW.pt (pw_or (pt_cmpR op_ne (pe_callB (crIsi K) (by rfl) T.b_isinstance B_isinstance (pa_cons (pv 0) (pa_cons (pe_bltn (v := .ty "tuple") (by rfl) T.b_tuple B_tuple rfl) pa_nil))) (pe_callB (crIsi K) (by rfl) T.b_isinstance B_isinstance (pa_cons (pv 1) (pa_cons (pe_bltn (v := .ty "tuple") (by rfl) T.b_tuple B_tuple rfl) pa_nil))) (nomark _)) (pw_or1 (pt_not (pt_val (pe_callB (crIsiT K) (by rfl) T.b_isinstance B_isinstance (pa_cons (pv 0) (pa_cons (pe_tup (pa_cons (pe_bltn (v := .ty "tuple") (by rfl) T.b_tuple B_tuple rfl) (pa_cons (pe_bltn (v := .ty "list") (by rfl) T.b_list B_list rfl) pa_nil))) pa_nil))))))))
          (pss_one (ps_ret pe_bl))
          pss_nil)
        (pss_one (ps_ret (pe_and (pe_cmpR op_eq (pe_callB (crLen K) (by rfl) T.b_len B_len (pa_cons (pv 0) pa_nil)) (pe_callB (crLen K) (by rfl) T.b_len B_len (pa_cons (pv 1) pa_nil)) (nomark _)) (pe_one (pe_callB (crAll K rfl) (by rfl) T.b_all B_all (pa_cons (pe_lc (own := [("_law_one", 2), ("_law_two", 3)]) rfl sc_l_is.nd (RZ.pi_zipA (by rfl) T.b_zip (pa_cons (pv 0) (pa_cons (pv 1) pa_nil))) (blkOk_by (N := ["_law_told", "_law_due", "_law_one", "_law_two"]) (sc := defScope s_l_is) (by decide +kernel)) (fun _ _ _ _ _ => (pgT K (n := 2) rfl (pgs_cons (pg_name (i := 2) sc_l_is.nd rfl (.inl rfl)) (pgs_cons (pg_name (i := 3) sc_l_is.nd rfl (.inl rfl)) pgs_nil)))) (fun _ _ _ _ _ => pts_nil) (fun _ _ _ _ _ => (pk G_l_is hr (by decide) (by rfl) (pa_cons (pv 2) (pa_cons (pv 3) pa_nil))))) pa_nil)))))))
        pss_nil)
      (pss_one (ps_ret (pe_and (pe_cmpR op_eq (pe_callB (crIsi K) (by rfl) T.b_isinstance B_isinstance (pa_cons (pv 0) (pa_cons (pe_bltn (v := .ty "bool") (by rfl) T.b_bool B_bool rfl) pa_nil))) (pe_callB (crIsi K) (by rfl) T.b_isinstance B_isinstance (pa_cons (pv 1) (pa_cons (pe_bltn (v := .ty "bool") (by rfl) T.b_bool B_bool rfl) pa_nil))) (nomark _)) (pe_one (pe_cmpR op_eq (pv 0) (pv 1) (nomark _))))))), ?_⟩
    refine ⟨_, rfl, le_line (by simp), fun tp ntp => ⟨.int i, tp, _, _, _, false, rfl, upd_same, .cons (.ty _) (.cons (.ty _) .nil), .base (.int i), kAI, false, rfl, iteF ?_⟩⟩
    refine ⟨_, rfl, .int i, .ty "bool", _, _, false, rfl, .ty _, .base (.int i), kIB, _, rfl, .int i, .ty "bool", _, _, false, rfl, .ty _, .base (.int i), kIB, rfl, true, rfl, iteT ?_⟩
    refine ⟨_, rfl, _, rfl, rfl, ?_⟩
    rw [decide_eq_true rfl]
    exact q _ (same_new ntp)
def spIs2 : Sp := fun vs H Q _ => ∃ (a b : Addr) (xs : List Int), vs = [.ref a, .ref b] ∧ H a = some (.tup (xs.map V.int)) ∧ H b = some (.tup (xs.map V.int)) ∧ xs.length ≤ 10 ∧ ∀ H', Same H H' → Q (.bl true) H'
theorem ok_l_is2 (T : Txt K mg CW CB) : Ok P w K mg base "_law_is" 3 ["_law_told", "_law_due"] spIs2 := by
  have G_l_is := ok_l_is1 (P := P) (w := w) (base := base) T
  refine T.d_l_is.ok sc_l_is (fun vs H Q E h => ?_) (fun f cdv A outer s H vs Q E hr h => ?_)
  · obtain ⟨a, b, xs, rfl, _⟩ := h
    rfl
  · obtain ⟨a, b, xs, rfl, ha, hb, hx, q⟩ := h
    refine ⟨_, (pss_cons (ps_if (pt_val (pe_callB (crIsiT K) (by rfl) T.b_isinstance B_isinstance (pa_cons (pv 1) (pa_cons (pe_tup (pa_cons (pe_bltn (v := .ty "tuple") (by rfl) T.b_tuple B_tuple rfl) (pa_cons (pe_bltn (v := .ty "list") (by rfl) T.b_list B_list rfl) pa_nil))) pa_nil))))
        (pss_cons (ps_if (PW.pt (pw_or (pt_cmpR op_ne (pe_callB (crIsi K) (by rfl) T.b_isinstance B_isinstance (pa_cons (pv 0) (pa_cons (pe_bltn (v := .ty "tuple") (by rfl) T.b_tuple B_tuple rfl) pa_nil))) (pe_callB (crIsi K) (by rfl) T.b_isinstance B_isinstance (pa_cons (pv 1) (pa_cons (pe_bltn (v := .ty "tuple") (by rfl) T.b_tuple B_tuple rfl) pa_nil))) (nomark _)) (pw_or1 (pt_not (pt_val (pe_callB (crIsiT K) (by rfl) T.b_isinstance B_isinstance (pa_cons (pv 0) (pa_cons (pe_tup (pa_cons (pe_bltn (v := .ty "tuple") (by rfl) T.b_tuple B_tuple rfl) (pa_cons (pe_bltn (v := .ty "list") (by rfl) T.b_list B_list rfl) pa_nil))) pa_nil))))))))
          (pss_one (ps_ret pe_bl))
          pss_nil)
        (pss_one (ps_ret (pe_and (pe_cmpR op_eq (pe_callB (crLen K) (by rfl) T.b_len B_len (pa_cons (pv 0) pa_nil)) (pe_callB (crLen K) (by rfl) T.b_len B_len (pa_cons (pv 1) pa_nil)) (nomark _)) (pe_one (pe_callB (crAll K rfl) (by rfl) T.b_all B_all (pa_cons (pe_lc (own := [("_law_one", 2), ("_law_two", 3)]) rfl sc_l_is.nd (RZ.pi_zipA (by rfl) T.b_zip (pa_cons (pv 0) (pa_cons (pv 1) pa_nil))) (blkOk_by (N := ["_law_told", "_law_due", "_law_one", "_law_two"]) (sc := defScope s_l_is) (by decide +kernel)) (fun _ _ _ _ _ => (pgT K (n := 2) rfl (pgs_cons (pg_name (i := 2) sc_l_is.nd rfl (.inl rfl)) (pgs_cons (pg_name (i := 3) sc_l_is.nd rfl (.inl rfl)) pgs_nil)))) (fun _ _ _ _ _ => pts_nil) (fun _ _ _ _ _ => (pk G_l_is hr (by decide) (by rfl) (pa_cons (pv 2) (pa_cons (pv 3) pa_nil))))) pa_nil)))))))
        pss_nil)
      (pss_one (ps_ret (pe_and (pe_cmpR op_eq (pe_callB (crIsi K) (by rfl) T.b_isinstance B_isinstance (pa_cons (pv 0) (pa_cons (pe_bltn (v := .ty "bool") (by rfl) T.b_bool B_bool rfl) pa_nil))) (pe_callB (crIsi K) (by rfl) T.b_isinstance B_isinstance (pa_cons (pv 1) (pa_cons (pe_bltn (v := .ty "bool") (by rfl) T.b_bool B_bool rfl) pa_nil))) (nomark _)) (pe_one (pe_cmpR op_eq (pv 0) (pv 1) (nomark _))))))), ?_⟩
    refine ⟨_, rfl, le_line (by simp), fun tp ntp => ?_⟩
    have s1 := same_new (o := .tup [.ty "tuple", .ty "list"]) ntp
    refine ⟨.ref b, tp, _, _, _, true, rfl, upd_same, .cons (.ty _) (.cons (.ty _) .nil), .base (.tup (s1 _ _ hb)), kAT, true, rfl, iteT ?_⟩
    refine ⟨_, rfl, .ref a, .ty "tuple", _, _, true, rfl, .ty _, .base (.tup (s1 _ _ ha)), kTT, _, rfl, .ref b, .ty "tuple", _, _, true, rfl, .ty _, .base (.tup (s1 _ _ hb)), kTT, rfl, false, rfl, iteF ?_⟩
    refine ⟨_, rfl, le_line (by simp), fun tq ntq => ?_⟩
    have s2 := s1.trans (same_new (o := .tup [.ty "tuple", .ty "list"]) ntq)
    refine ⟨.ref a, tq, _, _, _, true, rfl, upd_same, .cons (.ty _) (.cons (.ty _) .nil), .base (.tup (s2 _ _ ha)), kAT, true, rfl, iteF ?_⟩
    have ha2 := s2 _ _ ha
    have hb2 := s2 _ _ hb
    refine ⟨_, rfl, a, _, rfl, .inr (SqT.of ha2), _, rfl, b, _, rfl, .inr (SqT.of hb2), rfl, true, ?_, iteT ?_⟩
    · rw [decide_eq_true rfl]
    refine ⟨_, rfl, _, rfl, a, b, _, _, rfl, .inr ⟨SqT.of ha2, SqT.of hb2, fun D nD => ?_⟩⟩
    refine lc_pure (src_zipT (K := K) (xs := xs.map V.int) (ys := xs.map V.int) rfl) (fun _ => true) (fun _ => .bl true) nD (by rw [List.length_map]; omega) (fun H2 sm => ⟨SqT.of (sm _ _ ha2), SqT.of (sm _ _ hb2)⟩) ?_ ?_
    · rintro i v H2 H' hi sm ⟨t, x, y, rfl, nt, rfl, h1, h2⟩ Qy Qn k1 _
      rw [h1] at h2
      obtain rfl := Option.some.inj h2
      rw [List.getElem?_map] at h1
      cases e : xs[i]? with
      | none => rw [e] at h1; cases h1
      | some z =>
        rw [e] at h1
        obtain rfl := Option.some.inj h1
        refine ⟨t, _, rfl, SqT.of upd_same, rfl, _, _, rfl, _, _, rfl, rfl, ?_⟩
        refine ⟨rfl, yes_go ?_⟩
        exact ⟨_, rfl, _, rfl, z, rfl, fun H3 s3 => k1 rfl _ ((same_new nt).trans s3)⟩
    · intro H2 sm hD
      rw [made_bl _ fun _ => true] at hD
      refine ⟨D, _, rfl, .inl (.inl hD), ?_⟩
      rw [all_true]
      exact q H2 (s2.trans sm)
def spIs3 : Sp := fun vs H Q _ => ∃ (a b : Addr) (as bs : List Addr) (rows : List (List Int)), vs = [.ref a, .ref b] ∧ H a = some (.lst (as.map .ref)) ∧ H b = some (.lst (bs.map .ref)) ∧
  Paired (fun x r => H x = some (.tup (r.map V.int))) as rows ∧ Paired (fun x r => H x = some (.tup (r.map V.int))) bs rows ∧ (∀ r ∈ rows, r.length ≤ 10) ∧ rows.length ≤ 1000 ∧ ∀ H', Same H H' → Q (.bl true) H'
theorem ok_l_is3 (T : Txt K mg CW CB) : Ok P w K mg base "_law_is" 4 ["_law_told", "_law_due"] spIs3 := by
  have G_l_is := ok_l_is2 (P := P) (w := w) (base := base) T
  refine T.d_l_is.ok sc_l_is (fun vs H Q E h => ?_) (fun f cdv A outer s H vs Q E hr h => ?_)
  · obtain ⟨a, b, as, bs, rows, rfl, _⟩ := h
    rfl
  · obtain ⟨a, b, as, bs, rows, rfl, ha, hb, hpa, hpb, hr10, hrl, q⟩ := h
    refine ⟨_, (pss_cons (ps_if (pt_val (pe_callB (crIsiT K) (by rfl) T.b_isinstance B_isinstance (pa_cons (pv 1) (pa_cons (pe_tup (pa_cons (pe_bltn (v := .ty "tuple") (by rfl) T.b_tuple B_tuple rfl) (pa_cons (pe_bltn (v := .ty "list") (by rfl) T.b_list B_list rfl) pa_nil))) pa_nil))))
        (pss_cons (ps_if (PW.pt (pw_or (pt_cmpR op_ne (pe_callB (crIsi K) (by rfl) T.b_isinstance B_isinstance (pa_cons (pv 0) (pa_cons (pe_bltn (v := .ty "tuple") (by rfl) T.b_tuple B_tuple rfl) pa_nil))) (pe_callB (crIsi K) (by rfl) T.b_isinstance B_isinstance (pa_cons (pv 1) (pa_cons (pe_bltn (v := .ty "tuple") (by rfl) T.b_tuple B_tuple rfl) pa_nil))) (nomark _)) (pw_or1 (pt_not (pt_val (pe_callB (crIsiT K) (by rfl) T.b_isinstance B_isinstance (pa_cons (pv 0) (pa_cons (pe_tup (pa_cons (pe_bltn (v := .ty "tuple") (by rfl) T.b_tuple B_tuple rfl) (pa_cons (pe_bltn (v := .ty "list") (by rfl) T.b_list B_list rfl) pa_nil))) pa_nil))))))))
          (pss_one (ps_ret pe_bl))
          pss_nil)
        (pss_one (ps_ret (pe_and (pe_cmpR op_eq (pe_callB (crLen K) (by rfl) T.b_len B_len (pa_cons (pv 0) pa_nil)) (pe_callB (crLen K) (by rfl) T.b_len B_len (pa_cons (pv 1) pa_nil)) (nomark _)) (pe_one (pe_callB (crAll K rfl) (by rfl) T.b_all B_all (pa_cons (pe_lc (own := [("_law_one", 2), ("_law_two", 3)]) rfl sc_l_is.nd (RZ.pi_zipA (by rfl) T.b_zip (pa_cons (pv 0) (pa_cons (pv 1) pa_nil))) (blkOk_by (N := ["_law_told", "_law_due", "_law_one", "_law_two"]) (sc := defScope s_l_is) (by decide +kernel)) (fun _ _ _ _ _ => (pgT K (n := 2) rfl (pgs_cons (pg_name (i := 2) sc_l_is.nd rfl (.inl rfl)) (pgs_cons (pg_name (i := 3) sc_l_is.nd rfl (.inl rfl)) pgs_nil)))) (fun _ _ _ _ _ => pts_nil) (fun _ _ _ _ _ => (pk G_l_is hr (by decide) (by rfl) (pa_cons (pv 2) (pa_cons (pv 3) pa_nil))))) pa_nil)))))))
        pss_nil)
      (pss_one (ps_ret (pe_and (pe_cmpR op_eq (pe_callB (crIsi K) (by rfl) T.b_isinstance B_isinstance (pa_cons (pv 0) (pa_cons (pe_bltn (v := .ty "bool") (by rfl) T.b_bool B_bool rfl) pa_nil))) (pe_callB (crIsi K) (by rfl) T.b_isinstance B_isinstance (pa_cons (pv 1) (pa_cons (pe_bltn (v := .ty "bool") (by rfl) T.b_bool B_bool rfl) pa_nil))) (nomark _)) (pe_one (pe_cmpR op_eq (pv 0) (pv 1) (nomark _))))))), ?_⟩
    have la : as.length = rows.length := Paired.length hpa
    have lb : bs.length = rows.length := Paired.length hpb
    refine ⟨_, rfl, le_line (by simp), fun tp ntp => ?_⟩
    have s1 := same_new (o := .tup [.ty "tuple", .ty "list"]) ntp
    refine ⟨.ref b, tp, _, _, _, true, rfl, upd_same, .cons (.ty _) (.cons (.ty _) .nil), .base (.lst (s1 _ _ hb)), kAL, true, rfl, iteT ?_⟩
    refine ⟨_, rfl, .ref a, .ty "tuple", _, _, false, rfl, .ty _, .base (.lst (s1 _ _ ha)), kLT, _, rfl, .ref b, .ty "tuple", _, _, false, rfl, .ty _, .base (.lst (s1 _ _ hb)), kLT, rfl, false, rfl, iteF ?_⟩
    refine ⟨_, rfl, le_line (by simp), fun tq ntq => ?_⟩
    have s2 := s1.trans (same_new (o := .tup [.ty "tuple", .ty "list"]) ntq)
    refine ⟨.ref a, tq, _, _, _, true, rfl, upd_same, .cons (.ty _) (.cons (.ty _) .nil), .base (.lst (s2 _ _ ha)), kAL, true, rfl, iteF ?_⟩
    have ha2 := s2 _ _ ha
    have hb2 := s2 _ _ hb
    refine ⟨_, rfl, a, _, rfl, .inl (SqL.of ha2), _, rfl, b, _, rfl, .inl (SqL.of hb2), rfl, true, ?_, iteT ?_⟩
    · rw [decide_eq_true (by rw [List.length_map, List.length_map, la, lb])]
    refine ⟨_, rfl, _, rfl, a, b, _, _, rfl, .inl ⟨SqL.of ha2, SqL.of hb2, fun D nD => ?_⟩⟩
    refine lc_pure (src_zipL (K := K) (xs := as.map .ref) (ys := bs.map .ref) (by rw [List.length_map, List.length_map, la, lb])) (fun _ => true) (fun _ => .bl true) nD (by rw [List.length_map]; omega) (fun H2 sm => ⟨SqL.of (sm _ _ ha2), SqL.of (sm _ _ hb2)⟩) ?_ ?_
    · rintro i v H2 H' hi sm ⟨t, x, y, rfl, nt, rfl, h1, h2⟩ Qy Qn k1 _
      rw [List.getElem?_map] at h1 h2
      cases e1 : as[i]? with
      | none => rw [e1] at h1; cases h1
      | some x' =>
        cases e2 : bs[i]? with
        | none => rw [e2] at h2; cases h2
        | some y' =>
          rw [e1] at h1
          rw [e2] at h2
          obtain rfl := Option.some.inj h1
          obtain rfl := Option.some.inj h2
          obtain ⟨r, g1, g2⟩ := L2.paired_get hpa e1
          obtain ⟨r', g3, g4⟩ := L2.paired_get hpb e2
          rw [g1] at g3
          obtain rfl := Option.some.inj g3
          have st := same_new (o := .tup [.ref x', .ref y']) nt
          have sx := s2.trans (sm.trans st)
          refine ⟨t, _, rfl, SqT.of upd_same, rfl, _, _, rfl, _, _, rfl, rfl, ?_⟩
          refine ⟨rfl, yes_go ?_⟩
          exact ⟨_, rfl, _, rfl, x', y', r, rfl, sx _ _ g2, sx _ _ g4, hr10 r (List.mem_of_getElem? g1), fun H3 s3 => k1 rfl _ (st.trans s3)⟩
    · intro H2 sm hD
      rw [made_bl _ fun _ => true] at hD
      refine ⟨D, _, rfl, .inl (.inl hD), ?_⟩
      rw [all_true]
      exact q H2 (s2.trans sm)
end
end Nj
set_option Elab.async false
set_option linter.all false
set_option maxRecDepth 100000
set_option maxHeartbeats 4000000
/-! What the law's body needs. -/
namespace Nj
open PySem PySem.Spec PyProof.Rows L2
theorem make_same {H H' : Hp} {x dx : Addr} {o1 o2 : HO} (e : But x (upd (upd H dx o1) x o2) H') (hx : H x = none) (hd : H dx = none) : Same H H' := fun b o q => by
  have bx : b ≠ x := ne_of_none q hx
  refine e b o bx ?_
  rw [upd_ne bx, upd_ne (ne_of_none q hd)]
  exact q
section
variable {P : Program} {w : World} {CW CB : Addr}
theorem WebAt.hand {H H' : Hp} {x h : Addr} {W : Web} (hW : WebAt P w CW H x W) (e : But h H H') (hl : ∃ xs, H h = Option.some (.lst xs)) : WebAt P w CW H' x W := by
  obtain ⟨xs, hl⟩ := hl
  obtain ⟨dx, fs, aa, sd, T, h1, h2, h3, h4, h5, h6, h7, h8⟩ := hW
  have nt : ∀ ys, H h ≠ some (.tup ys) := fun ys z => by rw [hl] at z; cases z
  have ntu : ∀ c ys, H c = some (.tup ys) → H' c = some (.tup ys) := fun c ys q => e _ _ (fun z => nt ys (by rw [← z]; exact q)) q
  refine ⟨dx, fs, aa, sd, T, e _ _ (fun z => by rw [z, hl] at h1; cases h1) h1, h2, h3, h4.but e nt, h5, h6, h7.but e ⟨xs, hl⟩, fun p c => ?_⟩
  rcases h8 p c with h | ⟨a, gs, g1, g2, g3⟩
  · exact .inl h
  · exact .inr ⟨a, gs, g1, ntu _ _ g2, g3⟩
theorem BookAt.hand {H H' : Hp} {b h : Addr} {W : Web} {ws : List Tx} (hB : BookAt P w CW CB H b W ws) (e : But h H H') (hl : ∃ xs, H h = Option.some (.lst xs)) : BookAt P w CW CB H' b W ws := by
  obtain ⟨dx, fs, x, kd, bd, KW, BG, h1, h2, h3, h4, h5, h6, h7, h8, h9⟩ := hB
  have h3' := h3.hand e hl
  obtain ⟨xs, hl⟩ := hl
  exact ⟨dx, fs, x, kd, bd, KW, BG, e _ _ (fun z => by rw [z, hl] at h1; cases h1) h1, h2, h3', h4, e _ _ (fun z => by rw [z, hl] at h5; cases h5) h5, h6, h7, e _ _ (fun z => by rw [z, hl] at h8; cases h8) h8, h9⟩
end
/-! sorted pairs -/
def ltP (p q : Nat × Nat) : Prop := p.1 < q.1 ∨ (p.1 = q.1 ∧ p.2 < q.2)
instance (p q : Nat × Nat) : Decidable (ltP p q) := by unfold ltP; infer_instance
def rowD (p : Nat × Nat) : PyData := .tuple [.int p.1, .int p.2]
def leP (p q : Nat × Nat) : Bool := !decide (ltP q p)
theorem rowD_lt (r s : Nat × Nat) : PySem.W.dataLt (rowD r) (rowD s) = decide (ltP r s) := by
  obtain ⟨a, b⟩ := r
  obtain ⟨a', b'⟩ := s
  have e0 : PyProof.Rows.lexLt itemOrd (PySem.W.keyToksAll []) (PySem.W.keyToksAll []) = false := lex_irrefl _
  unfold rowD
  rw [PySem.W.dataLt_tuple, PySem.W.dataLt_cons (by simp [PySem.W.alike]), PySem.W.dataLt_cons (by simp [PySem.W.alike]), e0, PySem.W.dataLt_int, PySem.W.dataLt_int]
  simp only [PyData.eqv]
  by_cases h1 : a = a'
  · subst h1
    by_cases h2 : b = b'
    · subst h2
      simp [ltP]
    · have : ¬ ((b : Int) = (b' : Int)) := by omega
      simp [ltP, this]
  · have : ¬ ((a : Int) = (a' : Int)) := by omega
    simp [ltP, this, h1]
theorem ltP_tri {p q : Nat × Nat} (h : p ≠ q) : ltP p q ∨ ltP q p := by
  obtain ⟨a, b⟩ := p
  obtain ⟨a', b'⟩ := q
  have : ¬ (a = a' ∧ b = b') := fun z => h (by rw [z.1, z.2])
  unfold ltP
  dsimp only
  omega
theorem leP_trans (a b c : Nat × Nat) (h1 : leP a b = true) (h2 : leP b c = true) : leP a c = true := by
  obtain ⟨a1, a2⟩ := a
  obtain ⟨b1, b2⟩ := b
  obtain ⟨c1, c2⟩ := c
  unfold leP at h1 h2 ⊢
  rw [Bool.not_eq_true', decide_eq_false_iff_not] at h1 h2 ⊢
  unfold ltP at h1 h2 ⊢
  dsimp only at h1 h2 ⊢
  omega
theorem leP_total (a b : Nat × Nat) : (leP a b || leP b a) = true := by
  obtain ⟨a1, a2⟩ := a
  obtain ⟨b1, b2⟩ := b
  unfold leP
  rw [Bool.or_eq_true, Bool.not_eq_true', decide_eq_false_iff_not, Bool.not_eq_true', decide_eq_false_iff_not]
  unfold ltP
  dsimp only
  omega
theorem ascP_eq : ∀ {l m : List (Nat × Nat)}, l.Pairwise ltP → m.Pairwise ltP → (∀ x, x ∈ l ↔ x ∈ m) → l = m
  | [], [], _, _, _ => rfl
  | [], b :: m, _, _, h => by have := (h b).mpr (by simp); simp at this
  | a :: l, [], _, _, h => by have := (h a).mp (by simp); simp at this
  | a :: l, b :: m, h1, h2, h => by
    have asym : ∀ {p q : Nat × Nat}, ltP p q → ¬ ltP q p := fun {p q} h g => by unfold ltP at h g; omega
    rw [List.pairwise_cons] at h1 h2
    have e : a = b := by
      have g1 := (h a).mp (by simp)
      have g2 := (h b).mpr (by simp)
      rcases List.mem_cons.mp g1 with z | z
      · exact z
      · rcases List.mem_cons.mp g2 with y | y
        · exact y.symm
        · exact absurd (h2.1 a z) (asym (h1.1 b y))
    subst e
    rw [ascP_eq h1.2 h2.2 fun x => ?_]
    have := h x
    rw [List.mem_cons, List.mem_cons] at this
    constructor
    · intro hx
      rcases this.mp (.inr hx) with z | z
      · subst z; exact absurd (h1.1 x hx) fun g => asym g g
      · exact z
    · intro hx
      rcases this.mpr (.inr hx) with z | z
      · subst z; exact absurd (h2.1 x hx) fun g => asym g g
      · exact z
theorem sortP_asc {M : List (Nat × Nat)} (n : M.Nodup) : (M.mergeSort leP).Pairwise ltP := by
  have h1 := List.pairwise_mergeSort leP_trans leP_total M
  have h2 : (M.mergeSort leP).Nodup := (List.mergeSort_perm M leP).nodup_iff.mpr n
  refine (List.pairwise_and_iff.mpr ⟨h1, h2⟩).imp fun {a b} h => ?_
  obtain ⟨h3, h4⟩ := h
  unfold leP at h3
  simp only [Bool.not_eq_true', decide_eq_false_iff_not] at h3
  exact (ltP_tri h4).resolve_right h3
theorem sortP_perm {M N : List (Nat × Nat)} (n : M.Nodup) (h : M.Perm N) : M.mergeSort leP = N.mergeSort leP :=
  ascP_eq (sortP_asc n) (sortP_asc (h.nodup_iff.mp n)) fun x => by rw [(List.mergeSort_perm M leP).mem_iff, (List.mergeSort_perm N leP).mem_iff, h.mem_iff]
/-- the pairs' references sorted: they stand for the sorted pairs -/
theorem sort_rows {ts : List Addr} {M : List (Nat × Nat)} (hl : ts.length = M.length) : ∃ us : List Addr, (((ts.zip M).map fun y => ((V.ref y.1 : V), rowD y.2)).mergeSort (PySem.W.dataLe false (·.2))).map (·.1) = us.map V.ref ∧
    ∀ {R : Addr → Nat × Nat → Prop}, Paired R ts M → Paired R us (M.mergeSort leP) := by
  have e1 : ((ts.zip M).map fun y => ((V.ref y.1 : V), rowD y.2)).mergeSort (PySem.W.dataLe false (·.2)) = ((ts.zip M).mergeSort fun a b => leP a.2 b.2).map fun y => ((V.ref y.1 : V), rowD y.2) := by
    refine (List.map_mergeSort fun a _ b _ => ?_).symm
    show leP a.2 b.2 = !PySem.W.dataLt (rowD b.2) (rowD a.2)
    rw [rowD_lt]
    rfl
  have e2 : ((ts.zip M).mergeSort fun a b => leP a.2 b.2).map (·.2) = M.mergeSort leP := by
    have := List.map_mergeSort (r := fun a b : Addr × Nat × Nat => leP a.2 b.2) (s := leP) (f := fun y : Addr × Nat × Nat => y.2) (l := ts.zip M) fun a _ b _ => rfl
    rw [this, List.map_snd_zip (by omega)]
  refine ⟨((ts.zip M).mergeSort fun a b => leP a.2 b.2).map (·.1), ?_, fun {R} hp => ?_⟩
  · rw [e1, List.map_map, List.map_map]
    rfl
  · rw [← e2]
    exact paired_of fun y hy => paired_zip hp y ((List.mergeSort_perm (ts.zip M) _).mem_iff.mp hy)
theorem keys_nodup {L : List (Nat × Nat)} (h : Keys L) : L.Nodup := (List.pairwise_map.mp h).imp fun h e => h (by rw [e])
theorem occ_none : ∀ t : Tx, occ (memP []) t = 0
  | [] => rfl
  | a :: t => by
    show pre (memP []) (a :: t) + occ (memP []) t = 0
    rw [occ_none t]
    have : pre (memP []) (a :: t) = 0 := by
      unfold pre
      exact List.countP_eq_zero.mpr fun k _ => by simp [memP]
    omega
theorem cnt_none (t : Tx) : cnt (memP []) t = t.length + 1 := by
  unfold cnt
  rw [occ_none]
  rfl
/-- two tables of the same stretches hold the same pairs -/
theorem Tells.same {α : Type} {L M : List (Nat × Nat)} {us : List α} {f : α → Nat} (a : Tells L us f) (b : Tells M us f) : L.Perm M := Tells.perm a b fun _ => rfl
end Nj
set_option Elab.async false
set_option linter.all false
set_option maxRecDepth 100000
set_option maxHeartbeats 4000000
/-! The law. -/
namespace Nj
open PySem PySem.Spec PyProof.Rows L2
section
variable {P : Program} {w : World} {K : PySem.W.Frag} {mg : Str → Option Value} {base : Heap} {CW CB : Addr}
theorem paired_map {α β γ : Type} {R : α → γ → Prop} {f : β → γ} : ∀ {a : List α} {b : List β}, Paired R a (b.map f) → Paired (fun x y => R x (f y)) a b
  | _, [], h => by cases h; exact .nil
  | _, _ :: _, h => by
    cases h with
    | cons h t => exact .cons h (paired_map t)
theorem paired_to {α β γ : Type} {R : α → γ → Prop} {f : β → γ} : ∀ {a : List α} {b : List β}, Paired (fun x y => R x (f y)) a b → Paired R a (b.map f)
  | _, _, .nil => .nil
  | _, _, .cons h t => .cons h (paired_to t)
abbrev RowsAt (H : Hp) (ts : List Addr) (M : List (Nat × Nat)) : Prop := Paired (fun t pr => H t = some (.tup [vI pr.1, vI pr.2])) ts M
theorem RowsAt.same {H H' : Hp} {ts : List Addr} {M : List (Nat × Nat)} (e : Same H H') (h : RowsAt H ts M) : RowsAt H' ts M := Paired.mapP h fun x r q => e _ _ q
theorem rows_ready {H : Hp} {a : Addr} {ts : List Addr} {M : List (Nat × Nat)} {Q : VK} (ha : H a = some (.lst (ts.map .ref))) (hp : RowsAt H ts M) (q : ∀ p us, H p = none → RowsAt H us (M.mergeSort leP) → Q (.ref p) (upd H p (.lst (us.map .ref)))) : rSortD K [.ref a] H Q := by
  have hl : ts.length = M.length := Paired.length hp
  have hz1 : (ts.zip M).map (·.1) = ts := List.map_fst_zip (by omega)
  have hpr : ∀ y ∈ ts.zip M, H y.1 = some (.tup [vI y.2.1, vI y.2.2]) := fun y hy => paired_zip hp y hy
  obtain ⟨us, e1, e2⟩ := sort_rows hl
  refine ⟨a, (ts.zip M).map fun y => ((V.ref y.1 : V), rowD y.2), rfl, ?_, ?_, ?_, ?_, ?_, fun p np => ?_⟩
  · refine SqL.of ?_
    rw [ha, List.map_map]
    refine congrArg (fun z => some (HO.lst z)) ?_
    conv => lhs; rw [← hz1, List.map_map]
    rfl
  · intro x hx
    obtain ⟨y, hy, rfl⟩ := List.mem_map.mp hx
    exact .tup (SqT.of (hpr y hy)) (.cons (.int _) (.cons (.int _) .nil))
  · rw [List.map_map]
    exact PySem.W.AllAlike.of fun b b' => by simp [rowD, PySem.W.alike, PySem.W.alikeAll]
  · rw [List.map_map]
    exact PySem.W.Sortable.tuples fun b => ⟨_, _, rfl⟩
  · intro x hx
    obtain ⟨y, hy, rfl⟩ := List.mem_map.mp hx
    simp [rowD, PyData.depth, PyData.depthAll]
  · rw [e1]
    exact q p us np (e2 hp)
def spLaw (K : PySem.W.Frag) : Sp := fun vs H Q _ => ∃ (a : Addr) (ns : List Int), vs = [.ref a] ∧ SqL K H a (ns.map V.int) ∧ ns.length ≤ 63 ∧ ∀ H', Q (.bl true) H'
theorem ok_law (T : Txt K mg CW CB) {f : Addr} {fd : FuncData} (F : Fun K "law" "law" s_law f fd) : FnOk P w K mg base CX0 7 f fd ["_law_script"] (spLaw K) := by
  have G_l_hand := ok_l_hand (P := P) (w := w) (base := base) T
  have G_l_web := ok_l_web (P := P) (w := w) (base := base) T
  have G_Web_init := ok_Web_init (P := P) (w := w) (base := base) T
  have G_Book_init := ok_Book_init (P := P) (w := w) (base := base) T
  have G_l_words := ok_l_words (P := P) (w := w) (base := base) T
  have G_l_draw := ok_l_draw (P := P) (w := w) (base := base) T
  have G_l_stretches := ok_l_stretches (P := P) (w := w) (base := base) T
  have G_l_count := ok_l_count (P := P) (w := w) (base := base) T
  have G_ways_counts := ok_ways_counts (P := P) (w := w) (base := base) T
  have G_l_is := ok_l_is3 (P := P) (w := w) (base := base) T
  have G_many_stretches := ok_many_stretches (P := P) (w := w) (base := base) T
  have G_l_full := ok_l_full (P := P) (w := w) (base := base) T
  refine F.ok sc_law (fun vs H Q E h => ?_) (fun cdv A outer s H vs Q E hr h => ?_)
  · obtain ⟨a, ns, rfl, _⟩ := h
    rfl
  · obtain ⟨sa, ns, rfl, ha, hns, q⟩ := h
    have hu1 : (A.deeper (envOfC "law" (defScope s_law) s.heap.objs.size f cdv)).units + 1 < cLine := by have := hr.un; omega
    have hu0 : (A.deeper (envOfC "law" (defScope s_law) s.heap.objs.size f cdv)).units < cLine := by omega
    have hu2 : (A.deeper (envOfC "law" (defScope s_law) s.heap.objs.size f cdv)).units + 64 < cLine := by have := hr.un; omega
    refine ⟨_, (pss_cons (ps_set (i := 1) sc_law.nd rfl (.inl rfl) (pk G_l_hand hr (by decide) (by rfl) (pa_cons (pv 0) pa_nil)))
      (pss_cons (ps_set (i := 2) sc_law.nd rfl (.inl rfl) (pk G_l_web hr (by decide) (by rfl) (pa_cons (pv 1) (pa_cons pe_int pa_nil))))
      (pss_cons (ps_set (i := 3) sc_law.nd rfl (.inl rfl) (mkO G_Web_init hr (by decide) (by rfl) T.g_Web (pa_cons (pe_ix (ixT K) (pv 2) pe_int (fun _ _ => rfl)) (pa_cons (pe_ix (ixT K) (pv 2) pe_int (fun _ _ => rfl)) pa_nil))))
      (pss_cons (ps_for PassesOwn.never rfl (pi_range1 (by rfl) T.b_range (pa_cons pe_int pa_nil)) (pg_name (i := 4) sc_law.nd rfl (.inl rfl))
        (pss_cons (ps_set (i := 5) sc_law.nd rfl (.inl rfl) (pk G_l_words hr (by decide) (by rfl) (pa_cons (pv 1) (pa_cons (pv 2) pa_nil))))
        (pss_cons (ps_set (i := 6) sc_law.nd rfl (.inl rfl) (mkO G_Book_init hr (by decide) (by rfl) T.g_Book (pa_cons (pv 3) (pa_cons (pv 5) pa_nil))))
        (pss_cons (ps_set (i := 7) sc_law.nd rfl (.inl rfl) (pk G_l_draw hr (by decide) (by rfl) (pa_cons (pv 1) (pa_cons pe_int pa_nil))))
        (pss_cons (ps_set (i := 8) sc_law.nd rfl (.inl rfl) pe_dnewK)
        (pss_cons (ps_for PassesOwn.never rfl (piL K (pk G_l_stretches hr (by decide) (by rfl) (pa_cons (pv 2) (pa_cons (pv 7) pa_nil)))) (pg_name (i := 9) sc_law.nd rfl (.inl rfl))
          (pss_cons (ps_set (i := 10) sc_law.nd rfl (.inl rfl) (pk G_l_count hr (by decide) (by rfl) (pa_cons (pv 5) (pa_cons (pv 9) pa_nil))))
          (pss_one (ps_dput hu1 (pv 8) (pv 10) (pe_op op_add (pe_dget2 hu1 (pv 8) (pv 10) pe_int ⟨rfl, rfl, rfl, rfl⟩) pe_int) rfl))))
        (pss_cons (ps_set (i := 11) sc_law.nd rfl (.inl rfl) (pk G_ways_counts hr (by decide) (by rfl) (pa_cons (pv 6) (pa_cons (pv 7) pa_nil))))
        (pss_cons (ps_if (PW.pt (pw_or (pt_not (pt_val (pe_callB (crIsi K) (by rfl) T.b_isinstance B_isinstance (pa_cons (pv 11) (pa_cons (pe_bltn (v := .ty "dict") (by rfl) T.b_dict B_dict rfl) pa_nil))))) (pw_or1 (pt_not (pt_val (pk G_l_is hr (by decide) (by rfl) (pa_cons (pe_callB (crSortD K hu2) (by rfl) T.b_sorted B_sorted (pa_cons (LiI.pe_listItems rfl (pv 11) (by rfl) T.b_list B_list) pa_nil)) (pa_cons (pe_callB (crSortD K hu2) (by rfl) T.b_sorted B_sorted (pa_cons (LiI.pe_listItems rfl (pv 8) (by rfl) T.b_list B_list) pa_nil)) pa_nil))))))))
          (pss_one (ps_ret pe_bl))
          pss_nil)
        (pss_cons (ps_expr (pe_dclear (pv 11)))
        (pss_cons (ps_if (pt_cmpR (op_ne_dictA hu0) (pk G_ways_counts hr (by decide) (by rfl) (pa_cons (pv 6) (pa_cons (pv 7) pa_nil))) (pv 8) (nomark _))
          (pss_one (ps_ret pe_bl))
          pss_nil)
        (pss_cons (ps_set (i := 12) sc_law.nd rfl (.inl rfl) (pe_op op_add pe_int (pk G_l_draw hr (by decide) (by rfl) (pa_cons (pv 1) (pa_cons pe_int pa_nil)))))
        (pss_one (ps_if (pt_cmpR op_ne (pe_callB (crSum K rfl) (by rfl) T.b_sum B_sum (pa_cons (pe_listVals rfl (pk G_ways_counts hr (by decide) (by rfl) (pa_cons (pv 6) (pa_cons (pv 12) pa_nil))) (by rfl) T.b_list) pa_nil)) (pk G_many_stretches hr (by decide) (by rfl) (pa_cons (pv 3) (pa_cons (pv 12) pa_nil))) (nomark _))
          (pss_one (ps_ret pe_bl))
          pss_nil)))))))))))))
      (pss_cons (ps_asg (pk G_l_full hr (by decide) (by rfl) (pa_cons (pv 1) (pa_cons (pv 2) pa_nil))) (pgT K (n := 2) rfl (pgs_cons (pg_name (i := 13) sc_law.nd rfl (.inl rfl)) (pgs_cons (pg_name (i := 5) sc_law.nd rfl (.inl rfl)) pgs_nil))))
      (pss_cons (ps_set (i := 14) sc_law.nd rfl (.inl rfl) (pe_callB (crMax K rfl) (by rfl) T.b_max B_max (pa_cons (pe_lc (own := [("_law_word", 15)]) rfl sc_law.nd (piT K (pv 5)) (blkOk_by (N := ["_law_script", "_law_hand_here", "_law_parts", "_law_web_here", "_law_turn", "_law_words_here", "_law_book", "_law_length", "_law_due", "_law_text", "_law_many", "_law_told", "_law_far", "_law_made_here", "_law_size", "_law_word"]) (sc := defScope s_law) (by decide +kernel)) (fun _ _ _ _ _ => (pg_name (i := 15) sc_law.nd rfl (.inl rfl))) (fun _ _ _ _ _ => pts_nil) (fun _ _ _ _ _ => (pe_callB call_len_str (by rfl) T.b_len B_len (pa_cons (pv 15) pa_nil)))) pa_nil)))
      (pss_cons (ps_set (i := 12) sc_law.nd rfl (.inl rfl) (pe_op op_add (pv 14) (pk G_l_draw hr (by decide) (by rfl) (pa_cons (pv 1) (pa_cons (pe_op op_sub pe_int (pv 14)) pa_nil)))))
      (pss_cons (ps_if (pt_cmpR (op_ne_dictA hu0) (pk G_ways_counts hr (by decide) (by rfl) (pa_cons (mkO G_Book_init hr (by decide) (by rfl) T.g_Book (pa_cons (pv 3) (pa_cons (pv 5) pa_nil))) (pa_cons (pv 12) pa_nil))) (pe_disp (pps_cons (pv 13) (pk G_many_stretches hr (by decide) (by rfl) (pa_cons (pv 3) (pa_cons (pv 12) pa_nil))) pps_nil) (by rfl) (by rfl) (fun z => by cases z) (by decide)) (nomark _))
        (pss_one (ps_ret pe_bl))
        pss_nil)
      (pss_one (ps_ret (pe_cmpR (op_eq_dictA hu0) (pk G_ways_counts hr (by decide) (by rfl) (pa_cons (mkO G_Book_init hr (by decide) (by rfl) T.g_Book (pa_cons (pv 3) (pa_cons (pe_tup pa_nil) pa_nil))) (pa_cons (pv 12) pa_nil))) (pe_disp (pps_cons (pe_op op_add (pv 12) pe_int) (pk G_many_stretches hr (by decide) (by rfl) (pa_cons (pv 3) (pa_cons (pv 12) pa_nil))) pps_nil) (by rfl) (by rfl) (fun z => by cases z) (by decide)) (nomark _)))))))))))), ?_⟩
    refine ⟨_, rfl, sa, ns, rfl, ha, hns, fun H1 h kc s1 nh nk hh1 => ?_⟩
    refine ⟨_, rfl, h, kc, 4, rfl, hh1, by omega, by omega, fun H2 p W B2 hh2 G hP2 => ?_⟩
    obtain ⟨aa, hp2, hA2⟩ := id hP2
    refine ⟨_, rfl, p, _, _, vI W.P, rfl, rfl, SqT.of hp2, atI_nat (j := 0) rfl, _, rfl, p, _, _, .ref aa, rfl, rfl, SqT.of hp2, atI_nat (j := 1) rfl, fun x dx nx ndx dxx => ?_⟩
    have s2a := (same_new (o := .own x) ndx).trans (same_new (o := .ins CW dx []) (by rw [upd_ne (Ne.symm dxx)]; exact nx))
    refine ⟨x, dx, aa, W, rfl, G, upd_same, hA2.same s2a, fun H3 B3 hW3 => ⟨rfl, ?_⟩⟩
    have s23 := make_same B3 nx ndx
    have hh3 := hh2.same s23
    have hP3 := hP2.same s23
    refine ⟨2, rfl, by omega, by omega, for_src (G := fun _ => True) src_rng (fun i σ H4 => ∃ (u4 u5 u6 u7 u8 u9 u10 u11 u12 : Option V), σ = [some (.ref sa), some (.ref h), some (.ref p), some (.ref x), u4, u5, u6, u7, u8, u9, u10, u11, u12, none, none, none] ∧ HandAt H4 h kc ∧ PartsAt H4 p W ∧ WebAt P w CW H4 x W) ?_ (fun _ _ _ _ _ => trivial) ?_ ?_⟩
    · exact ⟨none, none, none, none, none, none, none, none, none, rfl, hh3, hP3, hW3⟩
    · rintro i v σ H4 H4' hi ⟨u4, u5, u6, u7, u8, u9, u10, u11, u12, rfl, hh4, hP4, hW4⟩ ⟨rfl, rfl⟩
      refine ⟨_, rfl, _, rfl, h, kc, p, W, rfl, hh4, G, hP4, fun H5 r ws B5 hh5 hr5 BK => ?_⟩
      have hP5 := hP4.but B5 hh4.lst
      have hW5 := hW4.hand B5 hh4.lst
      -- the book
      refine ⟨_, rfl, _, rfl, fun bk db nbk ndb dbk => ?_⟩
      have s5a := (same_new (o := .own bk) ndb).trans (same_new (o := .ins CB db []) (by rw [upd_ne (Ne.symm dbk)]; exact nbk))
      have xbk : x ≠ bk := fun z => by
        obtain ⟨_, _, _, _, _, hx, _⟩ := hW5
        rw [z, nbk] at hx
        cases hx
      refine ⟨bk, x, r, db, W, ws, rfl, G, upd_same, xbk, hW5.same s5a, s5a _ _ hr5, BK, fun H6 B6 hB6 => ⟨rfl, ?_⟩⟩
      have s56 := make_same B6 nbk ndb
      have hh6 := hh5.same s56
      have hP6 := hP5.same s56
      have hW6 := hW5.same s56
      have hr6 : TupS H6 r ws := s56 _ _ hr5
      refine ⟨_, rfl, h, kc, 8, rfl, hh6, by omega, by omega, fun H7 n B7 hh7 hn => ?_⟩
      have hP7 := hP6.but B7 hh6.lst
      have hW7 := hW6.hand B7 hh6.lst
      have hB7 := hB6.hand B7 hh6.lst
      have hr7 : TupS H7 r ws := B7 _ _ (fun z => by
        obtain ⟨xs, hx⟩ := hh6.lst
        have hr6' : H6 r = some (.tup (ws.map vS)) := hr6
        rw [z, hx] at hr6'
        cases hr6') hr6
      intro dd ndd
      have sd := same_new (o := .dK []) ndd
      have hdd : upd H7 dd (.dK []) dd = some (.dK []) := upd_same
      refine ⟨_, rfl, _, rfl, p, W, n, rfl, G, hP7.same sd, by omega, fun H8 l s8 nl hl => ?_⟩
      have s78 := sd.trans s8
      have ldd : l ≠ dd := fun z => by rw [z, hdd] at nl; cases nl
      have hstn : (stre W n).length ≤ 2187 := Nat.le_trans (stre_le G n) (Nat.le_trans (Nat.pow_le_pow_right (show 0 < 3 by decide) (show n ≤ 7 by omega)) (by decide))
      refine ⟨l, rfl, ⟨_, SqL.of hl⟩, for_src (G := fun H9 => SqL K H9 l ((stre W n).map vS)) src_list (fun j σ H9 => ∃ (u9 u10 : Option V) (M : List (Nat × Nat)), σ = [some (.ref sa), some (.ref h), some (.ref p), some (.ref x), some (.int (0 + (i : Int))), some (.ref r), some (.ref bk), some (vI n), some (.ref dd), u9, u10, u11, u12, none, none, none] ∧ Same H7 H9 ∧ LstS H9 l (stre W n) ∧ H9 dd = some (.dK (tabV kN M)) ∧ M.length ≤ j ∧ Tells M ((stre W n).take j) (cnt (memP ws))) ?_ ?_ ?_ ?_⟩
      · exact ⟨_, _, [], rfl, s78, hl, s8 _ _ hdd, Nat.le_refl _, Tells.new _⟩
      · rintro j σ H9 _ ⟨_, _, _, _, _, h, _⟩
        exact SqL.of h
      · rintro j v σ H9 H10 hj ⟨u9, u10, M, rfl, s9, hl9, hd9, lM, hM⟩ ⟨rfl, hv⟩
        obtain ⟨t, rfl, ht⟩ := get_vS hv
        rw [List.length_map] at hj
        have htl := ((mem_stre G n t).mp (List.mem_of_getElem? ht)).2
        refine ⟨_, rfl, _, rfl, r, ws, t, rfl, s9 _ _ hr7, BK.bb, by omega, fun H11 s11 => ?_⟩
        have hd11 := s11 _ _ hd9
        have hl11 := s11 _ _ hl9
        refine ⟨_, rfl, dd, rfl, .inl ⟨_, .inl hd11⟩, _, rfl, _, DGet.k (k := kN (cnt (memP ws) t)) hd11, ?_⟩
        refine ⟨look M (cnt (memP ws) t), 1, tabV_get kN_inj M _, rfl, ?_⟩
        refine ⟨_, rfl, _, rfl, dd, _, rfl, DPut.k (k := kN (cnt (memP ws) t)) hd11 (by rw [tabV_len]; exact lt_line (by omega)), ?_⟩
        refine ⟨_, _, add M (cnt (memP ws) t) 1, rfl, same_mut (s9.trans s11) ndd, ?_, ?_, Nat.le_trans (add_len _ _ _) (by omega), ?_⟩
        · show upd _ dd _ l = _
          rw [upd_ne ldd]
          exact hl11
        · rw [upd_same, show add M (cnt (memP ws) t) 1 = put M (cnt (memP ws) t) (look M (cnt (memP ws) t) + 1) from rfl, ← tabV_put kN_inj]
          rfl
        · rw [take_next ht]
          exact hM.snoc t
      rintro σ H9 ⟨u9, u10, M, rfl, s9, hl9, hd9, lM, hM⟩
      rw [List.length_map, List.take_length] at hM
      rw [List.length_map] at lM
      -- told
      refine ⟨_, rfl, _, rfl, bk, W, ws, n, rfl, G, hB7.same s9, BK, by omega, fun H10 d M2 s10 nd10 hd10 hM2 => ?_⟩
      have s710 := s9.trans s10
      have hdd10 := s10 _ _ hd9
      have hperm : M2.Perm M := Tells.same hM2 hM
      have lM2 : M2.length = M.length := hperm.length_eq
      refine ⟨_, rfl, .ref d, .ty "dict", _, _, true, rfl, .ty _, .base (.dK hd10), kDD, true, rfl, iteF ?_⟩
      refine ⟨_, rfl, d, _, rfl, hd10, fun H11 lp ts s11 nlp hts hnin hlp hpair => ?_⟩
      have s11' : Same H10 H11 := s11
      have lts : ts.length = M2.length := by rw [Paired.length hpair, tabV_len]
      dsimp only [tNil]
      have hrows1 : RowsAt H11 ts M2 := paired_map (R := fun t (q : L2.Key × V) => H11 t = some (.tup [kV q.1, q.2])) (f := fun p : Nat × Nat => (kN p.1, vI p.2)) hpair
      refine rows_ready hlp hrows1 fun p1 us1 np1 hus1 => ?_
      have s12 := same_new (o := .lst (us1.map .ref)) np1
      have hp1 : upd H11 p1 (.lst (us1.map .ref)) p1 = some (.lst (us1.map .ref)) := upd_same
      have hus1' := hus1.same s12
      generalize upd H11 p1 (.lst (us1.map .ref)) = H12 at s12 hp1 hus1' ⊢
      have s1012 := s11'.trans s12
      refine ⟨_, rfl, dd, _, rfl, s1012 _ _ hdd10, fun H13 lq tt s13 nlq htt hnin2 hlq hpair2 => ?_⟩
      have s13' : Same H12 H13 := s13
      dsimp only [tNil]
      have hrows2 : RowsAt H13 tt M := paired_map (R := fun t (q : L2.Key × V) => H13 t = some (.tup [kV q.1, q.2])) (f := fun p : Nat × Nat => (kN p.1, vI p.2)) hpair2
      refine rows_ready hlq hrows2 fun p2 us2 np2 hus2 => ?_
      have s14 := same_new (o := .lst (us2.map .ref)) np2
      have hp2' : upd H13 p2 (.lst (us2.map .ref)) p2 = some (.lst (us2.map .ref)) := upd_same
      have hus2' := hus2.same s14
      generalize upd H13 p2 (.lst (us2.map .ref)) = H14 at s14 hp2' hus2' ⊢
      have s1214 := s13'.trans s14
      have s1014 := s1012.trans s1214
      rw [sortP_perm (keys_nodup hM2.nd) hperm] at hus1'
      have hus1'' := hus1'.same s1214
      have lsr : (M.mergeSort leP).length ≤ 1000000 := by rw [List.length_mergeSort]; omega
      refine ⟨p1, p2, us1, us2, (M.mergeSort leP).map fun pr => [(pr.1 : Int), (pr.2 : Int)], rfl, s1214 _ _ hp1, hp2', paired_to (R := fun x (r : List Int) => H14 x = some (.tup (r.map V.int))) (f := fun pr : Nat × Nat => [(pr.1 : Int), (pr.2 : Int)]) hus1'', paired_to (R := fun x (r : List Int) => H14 x = some (.tup (r.map V.int))) (f := fun pr : Nat × Nat => [(pr.1 : Int), (pr.2 : Int)]) hus2', ?_, ?_, fun H15 s15 => ⟨true, rfl, iteF ?_⟩⟩
      · intro r hr
        obtain ⟨pr, _, rfl⟩ := List.mem_map.mp hr
        simp
      · rw [List.length_map, List.length_mergeSort]
        have hk : M.length ≤ 9 := by
          have h1 := hM.nd.length_le_of_subset (l₂ := List.range 9) fun k hk => by
            obtain ⟨u, hu, e⟩ := hM.ks k hk
            have := ((mem_stre G n u).mp hu).2
            rw [← e]
            refine List.mem_range.mpr ?_
            unfold cnt
            omega
          rw [List.length_map, List.length_range] at h1
          exact h1
        omega
      have s1015 := s1014.trans s15
      -- cleared
      have hd15 := s1015 _ _ hd10
      refine ⟨_, rfl, .inr (.inr (.inl ⟨rfl, .inl ⟨_, hd15⟩⟩)), d, _, rfl, rfl, hd15, ?_⟩
      have s916 : Same H9 (upd H15 d (.dK [])) := same_mut (s10.trans s1015) nd10
      generalize upd H15 d (.dK []) = H16 at s916 ⊢
      have hB9 := hB7.same s9
      refine ⟨_, rfl, _, rfl, bk, W, ws, n, rfl, G, hB9.same s916, BK, by omega, fun H17 d2 M3 s17 nd17 hd17 hM3 => ?_⟩
      have s917 := s916.trans s17
      have hperm3 : M3.Perm M := Tells.same hM3 hM
      refine ⟨_, rfl, d2, dd, _, _, rfl, rfl, hd17, s917 _ _ hd9, by rw [tabV_len, tabV_len]; exact hperm3.length_eq, fun pr hpr => ?_, false, rfl, iteF ?_⟩
      · obtain ⟨q0, hq0, rfl⟩ := List.mem_map.mp hpr
        exact ⟨tabV_val kN_inj hM.nd (hperm3.mem_iff.mp hq0), rfl⟩
      have hh17 := (hh7.same s9).same s917
      have hP17 := (hP7.same s9).same s917
      have hW17 := (hW7.same s9).same s917
      have hB17 := hB9.same s917
      refine ⟨_, rfl, h, kc, 53, rfl, hh17, by omega, by omega, fun H18 k B18 hh18 hk => ⟨8, k, rfl, rfl, ?_⟩⟩
      have hP18 := hP17.but B18 hh17.lst
      have hW18 := hW17.hand B18 hh17.lst
      have hB18 := hB17.hand B18 hh17.lst
      refine ⟨_, rfl, _, rfl, bk, W, ws, 8 + k, rfl, G, hB18, BK, by omega, fun H19 d3 M4 s19 nd19 hd19 hM4 => ⟨d3, _, rfl, .inr ⟨_, .inl hd19, rfl⟩, fun lv nlv => ?_⟩⟩
      have s20 := same_new (o := .lst ((tabV kN M4).map (·.2))) nlv
      refine ⟨lv, M4.map fun p => ((p.2 : Nat) : Int), rfl, ?_, ?_⟩
      · refine SqL.of ?_
        rw [upd_same, tabV, List.map_map, List.map_map]
        rfl
      rw [hM4.total]
      have s1820 := s19.trans s20
      refine ⟨_, rfl, _, rfl, x, W, 8 + k, rfl, G, hW18.same s1820, by omega, fun H21 s21 => ⟨rfl, false, ?_, iteF ?_⟩⟩
      · show V.bl (!decide (vI (stre W (8 + k)).length = vI (stre W (8 + k)).length)) = _
        rw [decide_eq_true rfl]
        rfl
      have s1821 := s1820.trans s21
      exact ⟨_, _, _, _, _, _, _, _, _, rfl, hh18.same s1821, hP18.same s1821, hW18.same s1821⟩
    · rintro σ H4 ⟨u4, u5, u6, u7, u8, u9, u10, u11, u12, rfl, hh4, hP4, hW4⟩
      refine ⟨_, rfl, _, rfl, h, kc, p, W, rfl, hh4, G, hP4, fun H5 r a ws d B5 hh5 hr ha FB => ?_⟩
      refine ⟨r, _, rfl, SqT.of hr, rfl, _, _, rfl, _, _, rfl, rfl, ?_⟩
      have hW5 := hW4.hand B5 hh4.lst
      have hP5 := hP4.but B5 hh4.lst
      have hln := FB.bk.n400
      refine ⟨_, rfl, a, rfl, ⟨_, SqT.of ha⟩, fun D nD => lc_pure (G := fun H6 => SqT K H6 a (ws.map vS)) src_tup (fun _ => true) (fun i => .int (((ws[i]?.getD []).length : Nat) : Int)) nD (by rw [List.length_map]; omega) (fun H6 s6 => SqT.of (s6 _ _ ha)) ?_ ?_⟩
      · rintro i v H6 H6' hi s6 ⟨rfl, hv⟩ Qy Qn k1 _
        obtain ⟨t, rfl, ht⟩ := get_vS hv
        have ht10 := FB.bk.l10 t (List.mem_of_getElem? ht)
        rw [ht] at k1
        refine ⟨rfl, yes_go ⟨_, rfl, S t, rfl, by rw [S_len]; exact le_line (by omega), ?_⟩⟩
        rw [S_len]
        exact k1 rfl _ (Same.refl _)
      intro H6 s6 hD
      rw [List.length_map, made_all ws (fun t => V.int ((t.length : Nat) : Int)) []] at hD
      refine ⟨D, ws.map fun t => ((t.length : Nat) : Int), rfl, .inl (.inl (by rw [List.map_map]; exact hD)), by rw [List.length_map]; exact List.length_pos_iff.mpr FB.ne, fun m hm hmax => ?_⟩
      obtain ⟨u0, hu0m, rfl⟩ := List.mem_map.mp hm
      have hu10 := FB.bk.l10 u0 hu0m
      have hlong : ∀ u ∈ ws, u.length ≤ u0.length := fun u hu => by
        have := hmax _ (List.mem_map.mpr ⟨u, hu, rfl⟩)
        omega
      generalize hsz : u0.length = sz at hu10 hlong ⊢
      have hh6 := hh5.same s6
      have hW6 := hW5.same s6
      have ha6 : TupS H6 a ws := s6 _ _ ha
      refine ⟨_, rfl, _, rfl, _, rfl, 61, sz, rfl, rfl, h, kc, 61 - sz, ?_, hh6, by omega, by omega, fun H7 k B7 hh7 hk => ⟨sz, k, rfl, rfl, ?_⟩⟩
      · show [V.ref h, V.int (61 - (sz : Int))] = [V.ref h, V.int ((61 - sz : Nat) : Int)]
        rw [show (61 - (sz : Int)) = ((61 - sz : Nat) : Int) by omega]
      have hW7 := hW6.hand B7 hh6.lst
      have ha7 : TupS H7 a ws := B7 _ _ (fun z => by
        obtain ⟨xs, hx⟩ := hh6.lst
        have ha6' : H6 a = some (.tup (ws.map vS)) := ha6
        rw [z, hx] at ha6'
        cases ha6') ha6
      have hfar : sz + k ≤ 60 := by omega
      have hne : stre W (sz + k) ≠ [] := stre_ne G _
      have xne : ∀ {H : Hp} {b : Addr}, WebAt P w CW H x W → H b = none → x ≠ b := fun {H b} hW nb z => by
        obtain ⟨_, _, _, _, _, hx, _⟩ := hW
        rw [z, nb] at hx
        cases hx
      refine ⟨_, rfl, _, rfl, fun bk db nbk ndb dbk => ?_⟩
      have s7a := (same_new (o := .own bk) ndb).trans (same_new (o := .ins CB db []) (by rw [upd_ne (Ne.symm dbk)]; exact nbk))
      refine ⟨bk, x, a, db, W, ws, rfl, G, upd_same, xne hW7 nbk, hW7.same s7a, s7a _ _ ha7, FB.bk, fun H8 B8 hB8 => ⟨rfl, ?_⟩⟩
      have s78 := make_same B8 nbk ndb
      refine ⟨_, rfl, bk, W, ws, sz + k, rfl, G, hB8, FB.bk, hfar, fun H9 d2 M s9 nd2 hd2 hM => ?_⟩
      have hM1 : M = [(d, (stre W (sz + k)).length)] := hM.one hne fun u hu => by
        obtain ⟨h1, h2⟩ := (mem_stre G _ u).mp hu
        exact FB.ways u h1 fun v hv => by have := hlong v hv; omega
      subst hM1
      have hW9 := (hW7.same s78).same s9
      intro dp ndp
      have sdp := same_new (o := .dK []) ndp
      have d2p : d2 ≠ dp := fun z => by rw [z, ndp] at hd2; cases hd2
      refine ⟨_, rfl, _, rfl, _, rfl, x, W, sz + k, rfl, G, hW9.same sdp, by omega, fun H10 s10 => ⟨s10 _ _ upd_same, [(kN d, vI (stre W (sz + k)).length)], rfl, by simp, ?_⟩⟩
      have hd10 : H10 d2 = some (.dK (tabV kN [(d, (stre W (sz + k)).length)])) := s10 _ _ (sdp _ _ hd2)
      refine ⟨d2, dp, tabV kN [(d, (stre W (sz + k)).length)], _, rfl, rfl, by rw [upd_ne d2p]; exact hd10, upd_same, rfl, fun pr hpr => ?_, false, rfl, iteF ?_⟩
      · obtain rfl : pr = (kN d, vI (stre W (sz + k)).length) := by simpa [tabV] using hpr
        exact ⟨valV_pos (p := (kN d, vI (stre W (sz + k)).length)) rfl, rfl⟩
      have s711 : Same H9 (upd H10 dp (.dK (mergeK [] [(kN d, vI (stre W (sz + k)).length)]))) := same_mut (sdp.trans s10) ndp
      generalize upd H10 dp (.dK (mergeK [] [(kN d, vI (stre W (sz + k)).length)])) = H11 at s711 ⊢
      have hW11 := hW9.same s711
      refine ⟨_, rfl, le_line (by simp), fun tp ntp => ?_⟩
      have st := same_new (o := .tup []) ntp
      have htp : upd H11 tp (.tup []) tp = some (.tup []) := upd_same
      have hW12 := hW11.same st
      generalize upd H11 tp (.tup []) = H12 at st htp hW12 ⊢
      intro bk2 db2 nbk2 ndb2 dbk2
      have s12a := (same_new (o := .own bk2) ndb2).trans (same_new (o := .ins CB db2 []) (by rw [upd_ne (Ne.symm dbk2)]; exact nbk2))
      refine ⟨bk2, x, tp, db2, W, [], rfl, G, upd_same, xne hW12 nbk2, hW12.same s12a, s12a _ _ htp, BookOk.none W, fun H13 B13 hB13 => ⟨rfl, ?_⟩⟩
      have s1213 := make_same B13 nbk2 ndb2
      refine ⟨_, rfl, bk2, W, [], sz + k, rfl, G, hB13, BookOk.none W, hfar, fun H14 d3 M3 s14 nd3 hd3 hM3 => ?_⟩
      have hM2 : M3 = [(sz + k + 1, (stre W (sz + k)).length)] := hM3.one hne fun u hu => by
        rw [cnt_none, ((mem_stre G _ u).mp hu).2]
      subst hM2
      have hW14 := (hW12.same s1213).same s14
      intro dq ndq
      have sdq := same_new (o := .dK []) ndq
      have d3q : d3 ≠ dq := fun z => by rw [z, ndq] at hd3; cases hd3
      refine ⟨_, rfl, _, 1, rfl, rfl, _, rfl, _, rfl, x, W, sz + k, rfl, G, hW14.same sdq, by omega, fun H15 s15 => ⟨s15 _ _ upd_same, [(kN (sz + k + 1), vI (stre W (sz + k)).length)], rfl, by simp, ?_⟩⟩
      have hd15 : H15 d3 = some (.dK (tabV kN [(sz + k + 1, (stre W (sz + k)).length)])) := s15 _ _ (sdq _ _ hd3)
      refine ⟨d3, dq, tabV kN [(sz + k + 1, (stre W (sz + k)).length)], _, rfl, rfl, by rw [upd_ne d3q]; exact hd15, upd_same, rfl, fun pr hpr => ?_, q _⟩
      obtain rfl : pr = (kN (sz + k + 1), vI (stre W (sz + k)).length) := by simpa [tabV] using hpr
      exact ⟨valV_pos (p := (kN (sz + k + 1), vI (stre W (sz + k)).length)) rfl, rfl⟩
end
end Nj
set_option Elab.async false
set_option linter.all false
set_option maxRecDepth 100000
set_option maxHeartbeats 4000000
/-! What the top has written, and the law's own head: printed by genz.py. -/
namespace Nj
open PySem PySem.Spec PyProof.Rows L2
theorem all_made {l : PySem.W.OpenLaw} {w : World} {K : PySem.W.Frag} {h : Heap} {mg : Str → Option Value} {fa CW CB : Addr} (X : K.In h) (G : h.Ns mainGlobals mg) (hfa : mg "law" = some (.ref fa))
    {od0 an0 : Option Addr} {sl0 : Array (Option Value)} {oc0 kV0 dc0 pm0 cd0 ct0 : Value} {f0 : Addr}
    {od1 an1 : Option Addr} {sl1 : Array (Option Value)} {oc1 kV1 dc1 pm1 cd1 ct1 : Value} {f1 : Addr}
    {od2 an2 : Option Addr} {sl2 : Array (Option Value)} {oc2 kV2 dc2 pm2 cd2 ct2 : Value} {f2 : Addr}
    {od3 an3 : Option Addr} {sl3 : Array (Option Value)} {oc3 kV3 dc3 pm3 cd3 ct3 : Value} {f3 : Addr}
    {od4 an4 : Option Addr} {sl4 : Array (Option Value)} {oc4 kV4 dc4 pm4 cd4 ct4 : Value} {f4 : Addr}
    {od5 an5 : Option Addr} {sl5 : Array (Option Value)} {oc5 kV5 dc5 pm5 cd5 ct5 : Value} {f5 : Addr}
    {od6 an6 : Option Addr} {sl6 : Array (Option Value)} {oc6 kV6 dc6 pm6 cd6 ct6 : Value} {f6 : Addr}
    {od7 an7 : Option Addr} {sl7 : Array (Option Value)} {oc7 kV7 dc7 pm7 cd7 ct7 : Value} {f7 : Addr}
    {od8 an8 : Option Addr} {sl8 : Array (Option Value)} {oc8 kV8 dc8 pm8 cd8 ct8 : Value} {f8 : Addr}
    {od9 an9 : Option Addr} {sl9 : Array (Option Value)} {oc9 kV9 dc9 pm9 cd9 ct9 : Value} {f9 : Addr}
    {od10 an10 : Option Addr} {sl10 : Array (Option Value)} {oc10 kV10 dc10 pm10 cd10 ct10 : Value} {f10 : Addr}
    {od11 an11 : Option Addr} {sl11 : Array (Option Value)} {oc11 kV11 dc11 pm11 cd11 ct11 : Value} {f11 : Addr}
    {od12 an12 : Option Addr} {sl12 : Array (Option Value)} {oc12 kV12 dc12 pm12 cd12 ct12 : Value} {f12 : Addr}
    {od13 an13 : Option Addr} {sl13 : Array (Option Value)} {oc13 kV13 dc13 pm13 cd13 ct13 : Value} {f13 : Addr}
    {od14 an14 : Option Addr} {sl14 : Array (Option Value)} {oc14 kV14 dc14 pm14 cd14 ct14 : Value} {f14 : Addr}
    {od15 an15 : Option Addr} {sl15 : Array (Option Value)} {oc15 kV15 dc15 pm15 cd15 ct15 : Value} {f15 : Addr}
    {od16 an16 : Option Addr} {sl16 : Array (Option Value)} {oc16 kV16 dc16 pm16 cd16 ct16 : Value} {f16 : Addr}
    {od17 an17 : Option Addr} {sl17 : Array (Option Value)} {oc17 kV17 dc17 pm17 cd17 ct17 : Value} {f17 : Addr}
    {od18 an18 : Option Addr} {sl18 : Array (Option Value)} {oc18 kV18 dc18 pm18 cd18 ct18 : Value} {f18 : Addr}
    {od19 an19 : Option Addr} {sl19 : Array (Option Value)} {oc19 kV19 dc19 pm19 cd19 ct19 : Value} {f19 : Addr}
    {od20 an20 : Option Addr} {sl20 : Array (Option Value)} {oc20 kV20 dc20 pm20 cd20 ct20 : Value} {f20 : Addr}
    {od21 an21 : Option Addr} {sl21 : Array (Option Value)} {oc21 kV21 dc21 pm21 cd21 ct21 : Value} {f21 : Addr}
    {od22 an22 : Option Addr} {sl22 : Array (Option Value)} {oc22 kV22 dc22 pm22 cd22 ct22 : Value} {f22 : Addr}
    {od23 an23 : Option Addr} {sl23 : Array (Option Value)} {oc23 kV23 dc23 pm23 cd23 ct23 : Value} {f23 : Addr}
    {od24 an24 : Option Addr} {sl24 : Array (Option Value)} {oc24 kV24 dc24 pm24 cd24 ct24 : Value} {f24 : Addr}
    {od25 an25 : Option Addr} {sl25 : Array (Option Value)} {oc25 kV25 dc25 pm25 cd25 ct25 : Value} {f25 : Addr}
    {od26 an26 : Option Addr} {sl26 : Array (Option Value)} {oc26 kV26 dc26 pm26 cd26 ct26 : Value} {f26 : Addr}
    {od27 an27 : Option Addr} {sl27 : Array (Option Value)} {oc27 kV27 dc27 pm27 cd27 ct27 : Value} {f27 : Addr}
    {od28 an28 : Option Addr} {sl28 : Array (Option Value)} {oc28 kV28 dc28 pm28 cd28 ct28 : Value} {f28 : Addr}
    {od29 an29 : Option Addr} {sl29 : Array (Option Value)} {oc29 kV29 dc29 pm29 cd29 ct29 : Value} {f29 : Addr}
    {od30 an30 : Option Addr} {sl30 : Array (Option Value)} {oc30 kV30 dc30 pm30 cd30 ct30 : Value} {f30 : Addr}
    {od31 an31 : Option Addr} {sl31 : Array (Option Value)} {oc31 kV31 dc31 pm31 cd31 ct31 : Value} {f31 : Addr}
    {od32 an32 : Option Addr} {sl32 : Array (Option Value)} {oc32 kV32 dc32 pm32 cd32 ct32 : Value} {f32 : Addr}
    {od33 an33 : Option Addr} {sl33 : Array (Option Value)} {oc33 kV33 dc33 pm33 cd33 ct33 : Value} {f33 : Addr}
    {od34 an34 : Option Addr} {sl34 : Array (Option Value)} {oc34 kV34 dc34 pm34 cd34 ct34 : Value} {f34 : Addr}
    {od35 an35 : Option Addr} {sl35 : Array (Option Value)} {oc35 kV35 dc35 pm35 cd35 ct35 : Value} {f35 : Addr}
    {od36 an36 : Option Addr} {sl36 : Array (Option Value)} {oc36 kV36 dc36 pm36 cd36 ct36 : Value} {f36 : Addr}
    {od37 an37 : Option Addr} {sl37 : Array (Option Value)} {oc37 kV37 dc37 pm37 cd37 ct37 : Value} {f37 : Addr}
    {od38 an38 : Option Addr} {sl38 : Array (Option Value)} {oc38 kV38 dc38 pm38 cd38 ct38 : Value} {f38 : Addr}
    {od39 an39 : Option Addr} {sl39 : Array (Option Value)} {oc39 kV39 dc39 pm39 cd39 ct39 : Value} {f39 : Addr}
    {od40 an40 : Option Addr} {sl40 : Array (Option Value)} {oc40 kV40 dc40 pm40 cd40 ct40 : Value} {f40 : Addr}
    {od41 an41 : Option Addr} {sl41 : Array (Option Value)} {oc41 kV41 dc41 pm41 cd41 ct41 : Value} {f41 : Addr}
    {od42 an42 : Option Addr} {sl42 : Array (Option Value)} {oc42 kV42 dc42 pm42 cd42 ct42 : Value} {f42 : Addr}
    {od43 an43 : Option Addr} {sl43 : Array (Option Value)} {oc43 kV43 dc43 pm43 cd43 ct43 : Value} {f43 : Addr}
    {od44 an44 : Option Addr} {sl44 : Array (Option Value)} {oc44 kV44 dc44 pm44 cd44 ct44 : Value} {f44 : Addr}
    {od45 an45 : Option Addr} {sl45 : Array (Option Value)} {oc45 kV45 dc45 pm45 cd45 ct45 : Value} {f45 : Addr}
    {od46 an46 : Option Addr} {sl46 : Array (Option Value)} {oc46 kV46 dc46 pm46 cd46 ct46 : Value} {f46 : Addr}
    {od47 an47 : Option Addr} {sl47 : Array (Option Value)} {oc47 kV47 dc47 pm47 cd47 ct47 : Value} {f47 : Addr}
    {t_MOST_POINTS : Tok}
    {t_MOST_ARROWS : Tok}
    {t_MOST_WORDS : Tok}
    {t_MOST_LETTERS : Tok}
    {t_MOST_LENGTH_stretches : Tok}
    {t_MOST_LENGTH_thin : Tok}
    {t_LETTERS : Tok} {z_LETTERS : Str}
    (aCWeb : PySem.W.nsIn K mainGlobals "Web" = some (some (.ref CW)))
    (aCBook : PySem.W.nsIn K mainGlobals "Book" = some (some (.ref CB)))
    (a0 : PySem.W.nsIn K mainGlobals "is_integer" = some (some (.ref f0)))
    (l0 : K.lookup f0 = some ⟨oc0, od0, .func (PySem.W.fnOf "is_integer" "is_integer" (defArgs s_is_integer) (defBody s_is_integer) (defScope s_is_integer) .none kV0 dc0 pm0 an0 cd0 ct0), sl0⟩)
    (c0 : PySem.W.codeIn K cd0 "is_integer" = true)
    (k0 : PySem.W.keepIn K (.ref f0) = true)
    (a1 : PySem.W.nsIn K mainGlobals "is_within" = some (some (.ref f1)))
    (l1 : K.lookup f1 = some ⟨oc1, od1, .func (PySem.W.fnOf "is_within" "is_within" (defArgs s_is_within) (defBody s_is_within) (defScope s_is_within) .none kV1 dc1 pm1 an1 cd1 ct1), sl1⟩)
    (c1 : PySem.W.codeIn K cd1 "is_within" = true)
    (k1 : PySem.W.keepIn K (.ref f1) = true)
    (a2 : PySem.W.nsIn K mainGlobals "is_letter" = some (some (.ref f2)))
    (l2 : K.lookup f2 = some ⟨oc2, od2, .func (PySem.W.fnOf "is_letter" "is_letter" (defArgs s_is_letter) (defBody s_is_letter) (defScope s_is_letter) .none kV2 dc2 pm2 an2 cd2 ct2), sl2⟩)
    (c2 : PySem.W.codeIn K cd2 "is_letter" = true)
    (k2 : PySem.W.keepIn K (.ref f2) = true)
    (a3 : PySem.W.nsIn K mainGlobals "is_text" = some (some (.ref f3)))
    (l3 : K.lookup f3 = some ⟨oc3, od3, .func (PySem.W.fnOf "is_text" "is_text" (defArgs s_is_text) (defBody s_is_text) (defScope s_is_text) .none kV3 dc3 pm3 an3 cd3 ct3), sl3⟩)
    (c3 : PySem.W.codeIn K cd3 "is_text" = true)
    (k3 : PySem.W.keepIn K (.ref f3) = true)
    (a4 : PySem.W.nsIn K mainGlobals "is_filled_text" = some (some (.ref f4)))
    (l4 : K.lookup f4 = some ⟨oc4, od4, .func (PySem.W.fnOf "is_filled_text" "is_filled_text" (defArgs s_is_filled_text) (defBody s_is_filled_text) (defScope s_is_filled_text) .none kV4 dc4 pm4 an4 cd4 ct4), sl4⟩)
    (c4 : PySem.W.codeIn K cd4 "is_filled_text" = true)
    (k4 : PySem.W.keepIn K (.ref f4) = true)
    (a5 : PySem.W.nsIn K mainGlobals "are_ascending" = some (some (.ref f5)))
    (l5 : K.lookup f5 = some ⟨oc5, od5, .func (PySem.W.fnOf "are_ascending" "are_ascending" (defArgs s_are_ascending) (defBody s_are_ascending) (defScope s_are_ascending) .none kV5 dc5 pm5 an5 cd5 ct5), sl5⟩)
    (c5 : PySem.W.codeIn K cd5 "are_ascending" = true)
    (k5 : PySem.W.keepIn K (.ref f5) = true)
    (a6 : PySem.W.nsIn K mainGlobals "check_number" = some (some (.ref f6)))
    (l6 : K.lookup f6 = some ⟨oc6, od6, .func (PySem.W.fnOf "check_number" "check_number" (defArgs s_check_number) (defBody s_check_number) (defScope s_check_number) .none kV6 dc6 pm6 an6 cd6 ct6), sl6⟩)
    (c6 : PySem.W.codeIn K cd6 "check_number" = true)
    (k6 : PySem.W.keepIn K (.ref f6) = true)
    (a7 : PySem.W.nsIn K mainGlobals "is_arrow" = some (some (.ref f7)))
    (l7 : K.lookup f7 = some ⟨oc7, od7, .func (PySem.W.fnOf "is_arrow" "is_arrow" (defArgs s_is_arrow) (defBody s_is_arrow) (defScope s_is_arrow) .none kV7 dc7 pm7 an7 cd7 ct7), sl7⟩)
    (c7 : PySem.W.codeIn K cd7 "is_arrow" = true)
    (k7 : PySem.W.keepIn K (.ref f7) = true)
    (a8 : PySem.W.nsIn K mainGlobals "are_arrows" = some (some (.ref f8)))
    (l8 : K.lookup f8 = some ⟨oc8, od8, .func (PySem.W.fnOf "are_arrows" "are_arrows" (defArgs s_are_arrows) (defBody s_are_arrows) (defScope s_are_arrows) .none kV8 dc8 pm8 an8 cd8 ct8), sl8⟩)
    (c8 : PySem.W.codeIn K cd8 "are_arrows" = true)
    (k8 : PySem.W.keepIn K (.ref f8) = true)
    (a9 : PySem.W.nsIn K mainGlobals "reached" = some (some (.ref f9)))
    (l9 : K.lookup f9 = some ⟨oc9, od9, .func (PySem.W.fnOf "reached" "reached" (defArgs s_reached) (defBody s_reached) (defScope s_reached) .none kV9 dc9 pm9 an9 cd9 ct9), sl9⟩)
    (c9 : PySem.W.codeIn K cd9 "reached" = true)
    (k9 : PySem.W.keepIn K (.ref f9) = true)
    (a10 : PySem.W.nsIn K mainGlobals "hangs" = some (some (.ref f10)))
    (l10 : K.lookup f10 = some ⟨oc10, od10, .func (PySem.W.fnOf "hangs" "hangs" (defArgs s_hangs) (defBody s_hangs) (defScope s_hangs) .none kV10 dc10 pm10 an10 cd10 ct10), sl10⟩)
    (c10 : PySem.W.codeIn K cd10 "hangs" = true)
    (k10 : PySem.W.keepIn K (.ref f10) = true)
    (a11 : PySem.W.findIn K (.ref CW) "__init__" = some (some (.ref f11)))
    (i11 : PySem.W.isFn K (.ref f11) = true)
    (l11 : K.lookup f11 = some ⟨oc11, od11, .func (PySem.W.fnOf "__init__" "Web.__init__" (defArgs s_Web_init) (defBody s_Web_init) (defScope s_Web_init) .none kV11 dc11 pm11 an11 cd11 ct11), sl11⟩)
    (c11 : PySem.W.codeIn K cd11 "Web.__init__" = true)
    (k11 : PySem.W.keepIn K (.ref f11) = true)
    (a12 : PySem.W.findIn K (.ref CW) "keep" = some (some (.ref f12)))
    (i12 : PySem.W.isFn K (.ref f12) = true)
    (l12 : K.lookup f12 = some ⟨oc12, od12, .func (PySem.W.fnOf "keep" "Web.keep" (defArgs s_Web_keep) (defBody s_Web_keep) (defScope s_Web_keep) .none kV12 dc12 pm12 an12 cd12 ct12), sl12⟩)
    (c12 : PySem.W.codeIn K cd12 "Web.keep" = true)
    (k12 : PySem.W.keepIn K (.ref f12) = true)
    (a13 : PySem.W.nsIn K mainGlobals "all_points" = some (some (.ref f13)))
    (l13 : K.lookup f13 = some ⟨oc13, od13, .func (PySem.W.fnOf "all_points" "all_points" (defArgs s_all_points) (defBody s_all_points) (defScope s_all_points) .none kV13 dc13 pm13 an13 cd13 ct13), sl13⟩)
    (c13 : PySem.W.codeIn K cd13 "all_points" = true)
    (k13 : PySem.W.keepIn K (.ref f13) = true)
    (a14 : PySem.W.nsIn K mainGlobals "stepped" = some (some (.ref f14)))
    (l14 : K.lookup f14 = some ⟨oc14, od14, .func (PySem.W.fnOf "stepped" "stepped" (defArgs s_stepped) (defBody s_stepped) (defScope s_stepped) .none kV14 dc14 pm14 an14 cd14 ct14), sl14⟩)
    (c14 : PySem.W.codeIn K cd14 "stepped" = true)
    (k14 : PySem.W.keepIn K (.ref f14) = true)
    (a15 : PySem.W.nsIn K mainGlobals "ends_from" = some (some (.ref f15)))
    (l15 : K.lookup f15 = some ⟨oc15, od15, .func (PySem.W.fnOf "ends_from" "ends_from" (defArgs s_ends_from) (defBody s_ends_from) (defScope s_ends_from) .none kV15 dc15 pm15 an15 cd15 ct15), sl15⟩)
    (c15 : PySem.W.codeIn K cd15 "ends_from" = true)
    (k15 : PySem.W.keepIn K (.ref f15) = true)
    (a16 : PySem.W.nsIn K mainGlobals "ends_of" = some (some (.ref f16)))
    (l16 : K.lookup f16 = some ⟨oc16, od16, .func (PySem.W.fnOf "ends_of" "ends_of" (defArgs s_ends_of) (defBody s_ends_of) (defScope s_ends_of) .none kV16 dc16 pm16 an16 cd16 ct16), sl16⟩)
    (c16 : PySem.W.codeIn K cd16 "ends_of" = true)
    (k16 : PySem.W.keepIn K (.ref f16) = true)
    (a17 : PySem.W.nsIn K mainGlobals "stretch_there" = some (some (.ref f17)))
    (l17 : K.lookup f17 = some ⟨oc17, od17, .func (PySem.W.fnOf "stretch_there" "stretch_there" (defArgs s_stretch_there) (defBody s_stretch_there) (defScope s_stretch_there) .none kV17 dc17 pm17 an17 cd17 ct17), sl17⟩)
    (c17 : PySem.W.codeIn K cd17 "stretch_there" = true)
    (k17 : PySem.W.keepIn K (.ref f17) = true)
    (a18 : PySem.W.nsIn K mainGlobals "beginnings" = some (some (.ref f18)))
    (l18 : K.lookup f18 = some ⟨oc18, od18, .func (PySem.W.fnOf "beginnings" "beginnings" (defArgs s_beginnings) (defBody s_beginnings) (defScope s_beginnings) .none kV18 dc18 pm18 an18 cd18 ct18), sl18⟩)
    (c18 : PySem.W.codeIn K cd18 "beginnings" = true)
    (k18 : PySem.W.keepIn K (.ref f18) = true)
    (a19 : PySem.W.nsIn K mainGlobals "endings" = some (some (.ref f19)))
    (l19 : K.lookup f19 = some ⟨oc19, od19, .func (PySem.W.fnOf "endings" "endings" (defArgs s_endings) (defBody s_endings) (defScope s_endings) .none kV19 dc19 pm19 an19 cd19 ct19), sl19⟩)
    (c19 : PySem.W.codeIn K cd19 "endings" = true)
    (k19 : PySem.W.keepIn K (.ref f19) = true)
    (a20 : PySem.W.nsIn K mainGlobals "clash_of" = some (some (.ref f20)))
    (l20 : K.lookup f20 = some ⟨oc20, od20, .func (PySem.W.fnOf "clash_of" "clash_of" (defArgs s_clash_of) (defBody s_clash_of) (defScope s_clash_of) .none kV20 dc20 pm20 an20 cd20 ct20), sl20⟩)
    (c20 : PySem.W.codeIn K cd20 "clash_of" = true)
    (k20 : PySem.W.keepIn K (.ref f20) = true)
    (a21 : PySem.W.nsIn K mainGlobals "are_words" = some (some (.ref f21)))
    (l21 : K.lookup f21 = some ⟨oc21, od21, .func (PySem.W.fnOf "are_words" "are_words" (defArgs s_are_words) (defBody s_are_words) (defScope s_are_words) .none kV21 dc21 pm21 an21 cd21 ct21), sl21⟩)
    (c21 : PySem.W.codeIn K cd21 "are_words" = true)
    (k21 : PySem.W.keepIn K (.ref f21) = true)
    (a22 : PySem.W.findIn K (.ref CB) "__init__" = some (some (.ref f22)))
    (i22 : PySem.W.isFn K (.ref f22) = true)
    (l22 : K.lookup f22 = some ⟨oc22, od22, .func (PySem.W.fnOf "__init__" "Book.__init__" (defArgs s_Book_init) (defBody s_Book_init) (defScope s_Book_init) .none kV22 dc22 pm22 an22 cd22 ct22), sl22⟩)
    (c22 : PySem.W.codeIn K cd22 "Book.__init__" = true)
    (k22 : PySem.W.keepIn K (.ref f22) = true)
    (a23 : PySem.W.findIn K (.ref CB) "keep" = some (some (.ref f23)))
    (i23 : PySem.W.isFn K (.ref f23) = true)
    (l23 : K.lookup f23 = some ⟨oc23, od23, .func (PySem.W.fnOf "keep" "Book.keep" (defArgs s_Book_keep) (defBody s_Book_keep) (defScope s_Book_keep) .none kV23 dc23 pm23 an23 cd23 ct23), sl23⟩)
    (c23 : PySem.W.codeIn K cd23 "Book.keep" = true)
    (k23 : PySem.W.keepIn K (.ref f23) = true)
    (a24 : PySem.W.nsIn K mainGlobals "levels_of" = some (some (.ref f24)))
    (l24 : K.lookup f24 = some ⟨oc24, od24, .func (PySem.W.fnOf "levels_of" "levels_of" (defArgs s_levels_of) (defBody s_levels_of) (defScope s_levels_of) .none kV24 dc24 pm24 an24 cd24 ct24), sl24⟩)
    (c24 : PySem.W.codeIn K cd24 "levels_of" = true)
    (k24 : PySem.W.keepIn K (.ref f24) = true)
    (a25 : PySem.W.nsIn K mainGlobals "many_of" = some (some (.ref f25)))
    (l25 : K.lookup f25 = some ⟨oc25, od25, .func (PySem.W.fnOf "many_of" "many_of" (defArgs s_many_of) (defBody s_many_of) (defScope s_many_of) .none kV25 dc25 pm25 an25 cd25 ct25), sl25⟩)
    (c25 : PySem.W.codeIn K cd25 "many_of" = true)
    (k25 : PySem.W.keepIn K (.ref f25) = true)
    (a26 : PySem.W.nsIn K mainGlobals "many_stretches" = some (some (.ref f26)))
    (l26 : K.lookup f26 = some ⟨oc26, od26, .func (PySem.W.fnOf "many_stretches" "many_stretches" (defArgs s_many_stretches) (defBody s_many_stretches) (defScope s_many_stretches) .none kV26 dc26 pm26 an26 cd26 ct26), sl26⟩)
    (c26 : PySem.W.codeIn K cd26 "many_stretches" = true)
    (k26 : PySem.W.keepIn K (.ref f26) = true)
    (a27 : PySem.W.nsIn K mainGlobals "state_behind" = some (some (.ref f27)))
    (l27 : K.lookup f27 = some ⟨oc27, od27, .func (PySem.W.fnOf "state_behind" "state_behind" (defArgs s_state_behind) (defBody s_state_behind) (defScope s_state_behind) .none kV27 dc27 pm27 an27 cd27 ct27), sl27⟩)
    (c27 : PySem.W.codeIn K cd27 "state_behind" = true)
    (k27 : PySem.W.keepIn K (.ref f27) = true)
    (a28 : PySem.W.nsIn K mainGlobals "ways_counts" = some (some (.ref f28)))
    (l28 : K.lookup f28 = some ⟨oc28, od28, .func (PySem.W.fnOf "ways_counts" "ways_counts" (defArgs s_ways_counts) (defBody s_ways_counts) (defScope s_ways_counts) .none kV28 dc28 pm28 an28 cd28 ct28), sl28⟩)
    (c28 : PySem.W.codeIn K cd28 "ways_counts" = true)
    (k28 : PySem.W.keepIn K (.ref f28) = true)
    (a29 : PySem.W.nsIn K mainGlobals "_law_hand" = some (some (.ref f29)))
    (l29 : K.lookup f29 = some ⟨oc29, od29, .func (PySem.W.fnOf "_law_hand" "_law_hand" (defArgs s_l_hand) (defBody s_l_hand) (defScope s_l_hand) .none kV29 dc29 pm29 an29 cd29 ct29), sl29⟩)
    (c29 : PySem.W.codeIn K cd29 "_law_hand" = true)
    (k29 : PySem.W.keepIn K (.ref f29) = true)
    (a30 : PySem.W.nsIn K mainGlobals "_law_draw" = some (some (.ref f30)))
    (l30 : K.lookup f30 = some ⟨oc30, od30, .func (PySem.W.fnOf "_law_draw" "_law_draw" (defArgs s_l_draw) (defBody s_l_draw) (defScope s_l_draw) .none kV30 dc30 pm30 an30 cd30 ct30), sl30⟩)
    (c30 : PySem.W.codeIn K cd30 "_law_draw" = true)
    (k30 : PySem.W.keepIn K (.ref f30) = true)
    (a31 : PySem.W.nsIn K mainGlobals "_law_is" = some (some (.ref f31)))
    (l31 : K.lookup f31 = some ⟨oc31, od31, .func (PySem.W.fnOf "_law_is" "_law_is" (defArgs s_l_is) (defBody s_l_is) (defScope s_l_is) .none kV31 dc31 pm31 an31 cd31 ct31), sl31⟩)
    (c31 : PySem.W.codeIn K cd31 "_law_is" = true)
    (k31 : PySem.W.keepIn K (.ref f31) = true)
    (a32 : PySem.W.nsIn K mainGlobals "_law_some" = some (some (.ref f32)))
    (l32 : K.lookup f32 = some ⟨oc32, od32, .func (PySem.W.fnOf "_law_some" "_law_some" (defArgs s_l_some) (defBody s_l_some) (defScope s_l_some) .none kV32 dc32 pm32 an32 cd32 ct32), sl32⟩)
    (c32 : PySem.W.codeIn K cd32 "_law_some" = true)
    (k32 : PySem.W.keepIn K (.ref f32) = true)
    (a33 : PySem.W.nsIn K mainGlobals "_law_web" = some (some (.ref f33)))
    (l33 : K.lookup f33 = some ⟨oc33, od33, .func (PySem.W.fnOf "_law_web" "_law_web" (defArgs s_l_web) (defBody s_l_web) (defScope s_l_web) .none kV33 dc33 pm33 an33 cd33 ct33), sl33⟩)
    (c33 : PySem.W.codeIn K cd33 "_law_web" = true)
    (k33 : PySem.W.keepIn K (.ref f33) = true)
    (a34 : PySem.W.nsIn K mainGlobals "_law_ends" = some (some (.ref f34)))
    (l34 : K.lookup f34 = some ⟨oc34, od34, .func (PySem.W.fnOf "_law_ends" "_law_ends" (defArgs s_l_ends) (defBody s_l_ends) (defScope s_l_ends) .none kV34 dc34 pm34 an34 cd34 ct34), sl34⟩)
    (c34 : PySem.W.codeIn K cd34 "_law_ends" = true)
    (k34 : PySem.W.keepIn K (.ref f34) = true)
    (a35 : PySem.W.nsIn K mainGlobals "_law_signs" = some (some (.ref f35)))
    (l35 : K.lookup f35 = some ⟨oc35, od35, .func (PySem.W.fnOf "_law_signs" "_law_signs" (defArgs s_l_signs) (defBody s_l_signs) (defScope s_l_signs) .none kV35 dc35 pm35 an35 cd35 ct35), sl35⟩)
    (c35 : PySem.W.codeIn K cd35 "_law_signs" = true)
    (k35 : PySem.W.keepIn K (.ref f35) = true)
    (a36 : PySem.W.nsIn K mainGlobals "_law_longer" = some (some (.ref f36)))
    (l36 : K.lookup f36 = some ⟨oc36, od36, .func (PySem.W.fnOf "_law_longer" "_law_longer" (defArgs s_l_longer) (defBody s_l_longer) (defScope s_l_longer) .none kV36 dc36 pm36 an36 cd36 ct36), sl36⟩)
    (c36 : PySem.W.codeIn K cd36 "_law_longer" = true)
    (k36 : PySem.W.keepIn K (.ref f36) = true)
    (a37 : PySem.W.nsIn K mainGlobals "_law_stretches" = some (some (.ref f37)))
    (l37 : K.lookup f37 = some ⟨oc37, od37, .func (PySem.W.fnOf "_law_stretches" "_law_stretches" (defArgs s_l_stretches) (defBody s_l_stretches) (defScope s_l_stretches) .none kV37 dc37 pm37 an37 cd37 ct37), sl37⟩)
    (c37 : PySem.W.codeIn K cd37 "_law_stretches" = true)
    (k37 : PySem.W.keepIn K (.ref f37) = true)
    (a38 : PySem.W.nsIn K mainGlobals "_law_clashing" = some (some (.ref f38)))
    (l38 : K.lookup f38 = some ⟨oc38, od38, .func (PySem.W.fnOf "_law_clashing" "_law_clashing" (defArgs s_l_clashing) (defBody s_l_clashing) (defScope s_l_clashing) .none kV38 dc38 pm38 an38 cd38 ct38), sl38⟩)
    (c38 : PySem.W.codeIn K cd38 "_law_clashing" = true)
    (k38 : PySem.W.keepIn K (.ref f38) = true)
    (a39 : PySem.W.nsIn K mainGlobals "_law_fits" = some (some (.ref f39)))
    (l39 : K.lookup f39 = some ⟨oc39, od39, .func (PySem.W.fnOf "_law_fits" "_law_fits" (defArgs s_l_fits) (defBody s_l_fits) (defScope s_l_fits) .none kV39 dc39 pm39 an39 cd39 ct39), sl39⟩)
    (c39 : PySem.W.codeIn K cd39 "_law_fits" = true)
    (k39 : PySem.W.keepIn K (.ref f39) = true)
    (a40 : PySem.W.nsIn K mainGlobals "_law_comings" = some (some (.ref f40)))
    (l40 : K.lookup f40 = some ⟨oc40, od40, .func (PySem.W.fnOf "_law_comings" "_law_comings" (defArgs s_l_comings) (defBody s_l_comings) (defScope s_l_comings) .none kV40 dc40 pm40 an40 cd40 ct40), sl40⟩)
    (c40 : PySem.W.codeIn K cd40 "_law_comings" = true)
    (k40 : PySem.W.keepIn K (.ref f40) = true)
    (a41 : PySem.W.nsIn K mainGlobals "_law_count" = some (some (.ref f41)))
    (l41 : K.lookup f41 = some ⟨oc41, od41, .func (PySem.W.fnOf "_law_count" "_law_count" (defArgs s_l_count) (defBody s_l_count) (defScope s_l_count) .none kV41 dc41 pm41 an41 cd41 ct41), sl41⟩)
    (c41 : PySem.W.codeIn K cd41 "_law_count" = true)
    (k41 : PySem.W.keepIn K (.ref f41) = true)
    (a42 : PySem.W.nsIn K mainGlobals "_law_made" = some (some (.ref f42)))
    (l42 : K.lookup f42 = some ⟨oc42, od42, .func (PySem.W.fnOf "_law_made" "_law_made" (defArgs s_l_made) (defBody s_l_made) (defScope s_l_made) .none kV42 dc42 pm42 an42 cd42 ct42), sl42⟩)
    (c42 : PySem.W.codeIn K cd42 "_law_made" = true)
    (k42 : PySem.W.keepIn K (.ref f42) = true)
    (a43 : PySem.W.nsIn K mainGlobals "_law_is_last" = some (some (.ref f43)))
    (l43 : K.lookup f43 = some ⟨oc43, od43, .func (PySem.W.fnOf "_law_is_last" "_law_is_last" (defArgs s_l_is_last) (defBody s_l_is_last) (defScope s_l_is_last) .none kV43 dc43 pm43 an43 cd43 ct43), sl43⟩)
    (c43 : PySem.W.codeIn K cd43 "_law_is_last" = true)
    (k43 : PySem.W.keepIn K (.ref f43) = true)
    (a44 : PySem.W.nsIn K mainGlobals "_law_lot" = some (some (.ref f44)))
    (l44 : K.lookup f44 = some ⟨oc44, od44, .func (PySem.W.fnOf "_law_lot" "_law_lot" (defArgs s_l_lot) (defBody s_l_lot) (defScope s_l_lot) .none kV44 dc44 pm44 an44 cd44 ct44), sl44⟩)
    (c44 : PySem.W.codeIn K cd44 "_law_lot" = true)
    (k44 : PySem.W.keepIn K (.ref f44) = true)
    (a45 : PySem.W.nsIn K mainGlobals "_law_full" = some (some (.ref f45)))
    (l45 : K.lookup f45 = some ⟨oc45, od45, .func (PySem.W.fnOf "_law_full" "_law_full" (defArgs s_l_full) (defBody s_l_full) (defScope s_l_full) .none kV45 dc45 pm45 an45 cd45 ct45), sl45⟩)
    (c45 : PySem.W.codeIn K cd45 "_law_full" = true)
    (k45 : PySem.W.keepIn K (.ref f45) = true)
    (a46 : PySem.W.nsIn K mainGlobals "_law_words" = some (some (.ref f46)))
    (l46 : K.lookup f46 = some ⟨oc46, od46, .func (PySem.W.fnOf "_law_words" "_law_words" (defArgs s_l_words) (defBody s_l_words) (defScope s_l_words) .none kV46 dc46 pm46 an46 cd46 ct46), sl46⟩)
    (c46 : PySem.W.codeIn K cd46 "_law_words" = true)
    (k46 : PySem.W.keepIn K (.ref f46) = true)
    (a47 : PySem.W.nsIn K mainGlobals "law" = some (some (.ref f47)))
    (l47 : K.lookup f47 = some ⟨oc47, od47, .func (PySem.W.fnOf "law" "law" (defArgs s_law) (defBody s_law) (defScope s_law) .none kV47 dc47 pm47 an47 cd47 ct47), sl47⟩)
    (c47 : PySem.W.codeIn K cd47 "law" = true)
    (k47 : PySem.W.keepIn K (.ref f47) = true)
    (pgWeb : PySem.W.plainGet K CW Str.empty = true)
    (hdWeb : PySem.W.hasDictIn K CW = true)
    (poWeb : PySem.W.plainOver K CW = true)
    (saWeb : PySem.W.findIn K (.ref CW) "__setattr__" = some (some (.builtin "object.__setattr__")))
    (mkWeb : PySem.W.makesIn K CW = true)
    (kcWeb : PySem.W.keepIn K (.ref CW) = true)
    (nWeb_points : PySem.W.findIn K (.ref CW) "points" = some none)
    (nWeb_arrows : PySem.W.findIn K (.ref CW) "arrows" = some none)
    (nWeb_kept_letters : PySem.W.findIn K (.ref CW) "kept_letters" = some none)
    (nWeb_kept_steps : PySem.W.findIn K (.ref CW) "kept_steps" = some none)
    (pgBook : PySem.W.plainGet K CB Str.empty = true)
    (hdBook : PySem.W.hasDictIn K CB = true)
    (poBook : PySem.W.plainOver K CB = true)
    (saBook : PySem.W.findIn K (.ref CB) "__setattr__" = some (some (.builtin "object.__setattr__")))
    (mkBook : PySem.W.makesIn K CB = true)
    (kcBook : PySem.W.keepIn K (.ref CB) = true)
    (nBook_web : PySem.W.findIn K (.ref CB) "web" = some none)
    (nBook_words : PySem.W.findIn K (.ref CB) "words" = some none)
    (nBook_kept_words : PySem.W.findIn K (.ref CB) "kept_words" = some none)
    (nBook_kept_begins : PySem.W.findIn K (.ref CB) "kept_begins" = some none)
    (nBook_kept_ends : PySem.W.findIn K (.ref CB) "kept_ends" = some none)
    (nBook_kept_longest : PySem.W.findIn K (.ref CB) "kept_longest" = some none)
    (nBook_kept_ways : PySem.W.findIn K (.ref CB) "kept_ways" = some none)
    (z_abs : PySem.W.nsIn K mainGlobals "abs" = some none)
    (z_all : PySem.W.nsIn K mainGlobals "all" = some none)
    (z_any : PySem.W.nsIn K mainGlobals "any" = some none)
    (z_bool : PySem.W.nsIn K mainGlobals "bool" = some none)
    (z_dict : PySem.W.nsIn K mainGlobals "dict" = some none)
    (z_enumerate : PySem.W.nsIn K mainGlobals "enumerate" = some none)
    (z_int : PySem.W.nsIn K mainGlobals "int" = some none)
    (z_isinstance : PySem.W.nsIn K mainGlobals "isinstance" = some none)
    (z_len : PySem.W.nsIn K mainGlobals "len" = some none)
    (z_list : PySem.W.nsIn K mainGlobals "list" = some none)
    (z_max : PySem.W.nsIn K mainGlobals "max" = some none)
    (z_min : PySem.W.nsIn K mainGlobals "min" = some none)
    (z_range : PySem.W.nsIn K mainGlobals "range" = some none)
    (z_sorted : PySem.W.nsIn K mainGlobals "sorted" = some none)
    (z_str : PySem.W.nsIn K mainGlobals "str" = some none)
    (z_sum : PySem.W.nsIn K mainGlobals "sum" = some none)
    (z_tuple : PySem.W.nsIn K mainGlobals "tuple" = some none)
    (z_zip : PySem.W.nsIn K mainGlobals "zip" = some none)
    (g_MOST_POINTS : PySem.W.nsIn K mainGlobals "MOST_POINTS" = some (some (.int 12 t_MOST_POINTS)))
    (g_MOST_ARROWS : PySem.W.nsIn K mainGlobals "MOST_ARROWS" = some (some (.int 60 t_MOST_ARROWS)))
    (g_MOST_WORDS : PySem.W.nsIn K mainGlobals "MOST_WORDS" = some (some (.int 400 t_MOST_WORDS)))
    (g_MOST_LETTERS : PySem.W.nsIn K mainGlobals "MOST_LETTERS" = some (some (.int 60 t_MOST_LETTERS)))
    (g_MOST_LENGTH_stretches : PySem.W.nsIn K mainGlobals "MOST_LENGTH_stretches" = some (some (.int 200 t_MOST_LENGTH_stretches)))
    (g_MOST_LENGTH_thin : PySem.W.nsIn K mainGlobals "MOST_LENGTH_thin" = some (some (.int 60 t_MOST_LENGTH_thin)))
    (g_LETTERS : PySem.W.nsIn K mainGlobals "LETTERS" = some (some (.str z_LETTERS t_LETTERS)))
    (e_LETTERS : z_LETTERS = S AZ)
    : ∃ fd : FuncData, (∀ (s : Shared) (v : Value), BindsTo s fd ⟨[v], []⟩ [("_law_script", v)]) ∧ ∀ base : Heap, K.In base → base.Ns mainGlobals mg → FnOk l.prog w K mg base CX0 7 fa fd ["_law_script"] (spLaw K) := by
  have e := hfa.symm.trans (PySem.W.mg_of X G a47)
  cases e
  have F0 := fun_mk (st := s_is_integer) l0 c0 k0
  have b0 := F0.binds (ps := ["thing"]) fun _ _ _ _ _ _ us hl => match us, hl with | [_], _ => rfl
  have F1 := fun_mk (st := s_is_within) l1 c1 k1
  have b1 := F1.binds (ps := ["thing", "least", "most"]) fun _ _ _ _ _ _ us hl => match us, hl with | [_, _, _], _ => rfl
  have F2 := fun_mk (st := s_is_letter) l2 c2 k2
  have b2 := F2.binds (ps := ["thing"]) fun _ _ _ _ _ _ us hl => match us, hl with | [_], _ => rfl
  have F3 := fun_mk (st := s_is_text) l3 c3 k3
  have b3 := F3.binds (ps := ["thing"]) fun _ _ _ _ _ _ us hl => match us, hl with | [_], _ => rfl
  have F4 := fun_mk (st := s_is_filled_text) l4 c4 k4
  have b4 := F4.binds (ps := ["thing", "most"]) fun _ _ _ _ _ _ us hl => match us, hl with | [_, _], _ => rfl
  have F5 := fun_mk (st := s_are_ascending) l5 c5 k5
  have b5 := F5.binds (ps := ["things"]) fun _ _ _ _ _ _ us hl => match us, hl with | [_], _ => rfl
  have F6 := fun_mk (st := s_check_number) l6 c6 k6
  have b6 := F6.binds (ps := ["thing", "least", "most"]) fun _ _ _ _ _ _ us hl => match us, hl with | [_, _, _], _ => rfl
  have F7 := fun_mk (st := s_is_arrow) l7 c7 k7
  have b7 := F7.binds (ps := ["thing", "points"]) fun _ _ _ _ _ _ us hl => match us, hl with | [_, _], _ => rfl
  have F8 := fun_mk (st := s_are_arrows) l8 c8 k8
  have b8 := F8.binds (ps := ["thing", "points"]) fun _ _ _ _ _ _ us hl => match us, hl with | [_, _], _ => rfl
  have F9 := fun_mk (st := s_reached) l9 c9 k9
  have b9 := F9.binds (ps := ["pairs", "start"]) fun _ _ _ _ _ _ us hl => match us, hl with | [_, _], _ => rfl
  have F10 := fun_mk (st := s_hangs) l10 c10 k10
  have b10 := F10.binds (ps := ["points", "arrows"]) fun _ _ _ _ _ _ us hl => match us, hl with | [_, _], _ => rfl
  have F11 := fun_mk (st := s_Web_init) l11 c11 k11
  have b11 := F11.binds (ps := ["self", "points", "arrows"]) fun _ _ _ _ _ _ us hl => match us, hl with | [_, _, _], _ => rfl
  have F12 := fun_mk (st := s_Web_keep) l12 c12 k12
  have b12 := F12.binds (ps := ["self", "points", "arrows"]) fun _ _ _ _ _ _ us hl => match us, hl with | [_, _, _], _ => rfl
  have F13 := fun_mk (st := s_all_points) l13 c13 k13
  have b13 := F13.binds (ps := ["web"]) fun _ _ _ _ _ _ us hl => match us, hl with | [_], _ => rfl
  have F14 := fun_mk (st := s_stepped) l14 c14 k14
  have b14 := F14.binds (ps := ["web", "points", "letter"]) fun _ _ _ _ _ _ us hl => match us, hl with | [_, _, _], _ => rfl
  have F15 := fun_mk (st := s_ends_from) l15 c15 k15
  have b15 := F15.binds (ps := ["web", "points", "text"]) fun _ _ _ _ _ _ us hl => match us, hl with | [_, _, _], _ => rfl
  have F16 := fun_mk (st := s_ends_of) l16 c16 k16
  have b16 := F16.binds (ps := ["web", "text"]) fun _ _ _ _ _ _ us hl => match us, hl with | [_, _], _ => rfl
  have F17 := fun_mk (st := s_stretch_there) l17 c17 k17
  have b17 := F17.binds (ps := ["web", "text"]) fun _ _ _ _ _ _ us hl => match us, hl with | [_, _], _ => rfl
  have F18 := fun_mk (st := s_beginnings) l18 c18 k18
  have b18 := F18.binds (ps := ["texts"]) fun _ _ _ _ _ _ us hl => match us, hl with | [_], _ => rfl
  have F19 := fun_mk (st := s_endings) l19 c19 k19
  have b19 := F19.binds (ps := ["texts"]) fun _ _ _ _ _ _ us hl => match us, hl with | [_], _ => rfl
  have F20 := fun_mk (st := s_clash_of) l20 c20 k20
  have b20 := F20.binds (ps := ["texts"]) fun _ _ _ _ _ _ us hl => match us, hl with | [_], _ => rfl
  have F21 := fun_mk (st := s_are_words) l21 c21 k21
  have b21 := F21.binds (ps := ["thing"]) fun _ _ _ _ _ _ us hl => match us, hl with | [_], _ => rfl
  have F22 := fun_mk (st := s_Book_init) l22 c22 k22
  have b22 := F22.binds (ps := ["self", "web", "words"]) fun _ _ _ _ _ _ us hl => match us, hl with | [_, _, _], _ => rfl
  have F23 := fun_mk (st := s_Book_keep) l23 c23 k23
  have b23 := F23.binds (ps := ["self", "web", "words"]) fun _ _ _ _ _ _ us hl => match us, hl with | [_, _, _], _ => rfl
  have F24 := fun_mk (st := s_levels_of) l24 c24 k24
  have b24 := F24.binds (ps := ["web", "length"]) fun _ _ _ _ _ _ us hl => match us, hl with | [_, _], _ => rfl
  have F25 := fun_mk (st := s_many_of) l25 c25 k25
  have b25 := F25.binds (ps := ["web", "length"]) fun _ _ _ _ _ _ us hl => match us, hl with | [_, _], _ => rfl
  have F26 := fun_mk (st := s_many_stretches) l26 c26 k26
  have b26 := F26.binds (ps := ["web", "length"]) fun _ _ _ _ _ _ us hl => match us, hl with | [_, _], _ => rfl
  have F27 := fun_mk (st := s_state_behind) l27 c27 k27
  have b27 := F27.binds (ps := ["book", "state", "letter"]) fun _ _ _ _ _ _ us hl => match us, hl with | [_, _, _], _ => rfl
  have F28 := fun_mk (st := s_ways_counts) l28 c28 k28
  have b28 := F28.binds (ps := ["book", "length"]) fun _ _ _ _ _ _ us hl => match us, hl with | [_, _], _ => rfl
  have F29 := fun_mk (st := s_l_hand) l29 c29 k29
  have b29 := F29.binds (ps := ["_law_script"]) fun _ _ _ _ _ _ us hl => match us, hl with | [_], _ => rfl
  have F30 := fun_mk (st := s_l_draw) l30 c30 k30
  have b30 := F30.binds (ps := ["_law_hand_here", "_law_many"]) fun _ _ _ _ _ _ us hl => match us, hl with | [_, _], _ => rfl
  have F31 := fun_mk (st := s_l_is) l31 c31 k31
  have b31 := F31.binds (ps := ["_law_told", "_law_due"]) fun _ _ _ _ _ _ us hl => match us, hl with | [_, _], _ => rfl
  have F32 := fun_mk (st := s_l_some) l32 c32 k32
  have b32 := F32.binds (ps := ["_law_hand_here", "_law_things"]) fun _ _ _ _ _ _ us hl => match us, hl with | [_, _], _ => rfl
  have F33 := fun_mk (st := s_l_web) l33 c33 k33
  have b33 := F33.binds (ps := ["_law_hand_here", "_law_most"]) fun _ _ _ _ _ _ us hl => match us, hl with | [_, _], _ => rfl
  have F34 := fun_mk (st := s_l_ends) l34 c34 k34
  have b34 := F34.binds (ps := ["_law_parts", "_law_text"]) fun _ _ _ _ _ _ us hl => match us, hl with | [_, _], _ => rfl
  have F35 := fun_mk (st := s_l_signs) l35 c35 k35
  have b35 := F35.binds (ps := ["_law_parts"]) fun _ _ _ _ _ _ us hl => match us, hl with | [_], _ => rfl
  have F36 := fun_mk (st := s_l_longer) l36 c36 k36
  have b36 := F36.binds (ps := ["_law_parts", "_law_texts"]) fun _ _ _ _ _ _ us hl => match us, hl with | [_, _], _ => rfl
  have F37 := fun_mk (st := s_l_stretches) l37 c37 k37
  have b37 := F37.binds (ps := ["_law_parts", "_law_length"]) fun _ _ _ _ _ _ us hl => match us, hl with | [_, _], _ => rfl
  have F38 := fun_mk (st := s_l_clashing) l38 c38 k38
  have b38 := F38.binds (ps := ["_law_one", "_law_other"]) fun _ _ _ _ _ _ us hl => match us, hl with | [_, _], _ => rfl
  have F39 := fun_mk (st := s_l_fits) l39 c39 k39
  have b39 := F39.binds (ps := ["_law_words_here", "_law_text"]) fun _ _ _ _ _ _ us hl => match us, hl with | [_, _], _ => rfl
  have F40 := fun_mk (st := s_l_comings) l40 c40 k40
  have b40 := F40.binds (ps := ["_law_words_here", "_law_text"]) fun _ _ _ _ _ _ us hl => match us, hl with | [_, _], _ => rfl
  have F41 := fun_mk (st := s_l_count) l41 c41 k41
  have b41 := F41.binds (ps := ["_law_words_here", "_law_text"]) fun _ _ _ _ _ _ us hl => match us, hl with | [_, _], _ => rfl
  have F42 := fun_mk (st := s_l_made) l42 c42 k42
  have b42 := F42.binds (ps := ["_law_parts", "_law_lot_here", "_law_number"]) fun _ _ _ _ _ _ us hl => match us, hl with | [_, _, _], _ => rfl
  have F43 := fun_mk (st := s_l_is_last) l43 c43 k43
  have b43 := F43.binds (ps := ["_law_lot_here", "_law_number", "_law_text"]) fun _ _ _ _ _ _ us hl => match us, hl with | [_, _, _], _ => rfl
  have F44 := fun_mk (st := s_l_lot) l44 c44 k44
  have b44 := F44.binds (ps := ["_law_hand_here", "_law_parts", "_law_number"]) fun _ _ _ _ _ _ us hl => match us, hl with | [_, _, _], _ => rfl
  have F45 := fun_mk (st := s_l_full) l45 c45 k45
  have b45 := F45.binds (ps := ["_law_hand_here", "_law_parts"]) fun _ _ _ _ _ _ us hl => match us, hl with | [_, _], _ => rfl
  have F46 := fun_mk (st := s_l_words) l46 c46 k46
  have b46 := F46.binds (ps := ["_law_hand_here", "_law_parts"]) fun _ _ _ _ _ _ us hl => match us, hl with | [_, _], _ => rfl
  have F47 := fun_mk (st := s_law) l47 c47 k47
  have b47 := F47.binds (ps := ["_law_script"]) fun _ _ _ _ _ _ us hl => match us, hl with | [_], _ => rfl
  have T : Txt K mg CW CB := {
    d_is_integer := ⟨⟨f0, _, F0, b0, PySem.W.mg_of X G a0⟩⟩,
    d_is_within := ⟨⟨f1, _, F1, b1, PySem.W.mg_of X G a1⟩⟩,
    d_is_letter := ⟨⟨f2, _, F2, b2, PySem.W.mg_of X G a2⟩⟩,
    d_is_text := ⟨⟨f3, _, F3, b3, PySem.W.mg_of X G a3⟩⟩,
    d_is_filled_text := ⟨⟨f4, _, F4, b4, PySem.W.mg_of X G a4⟩⟩,
    d_are_ascending := ⟨⟨f5, _, F5, b5, PySem.W.mg_of X G a5⟩⟩,
    d_check_number := ⟨⟨f6, _, F6, b6, PySem.W.mg_of X G a6⟩⟩,
    d_is_arrow := ⟨⟨f7, _, F7, b7, PySem.W.mg_of X G a7⟩⟩,
    d_are_arrows := ⟨⟨f8, _, F8, b8, PySem.W.mg_of X G a8⟩⟩,
    d_reached := ⟨⟨f9, _, F9, b9, PySem.W.mg_of X G a9⟩⟩,
    d_hangs := ⟨⟨f10, _, F10, b10, PySem.W.mg_of X G a10⟩⟩,
    d_Web_init := ⟨⟨f11, _, F11, b11, ⟨mkWeb, a11, i11, kcWeb⟩⟩⟩,
    d_Web_keep := ⟨⟨f12, _, F12, b12, ⟨a12, i12, k12⟩⟩⟩,
    d_all_points := ⟨⟨f13, _, F13, b13, PySem.W.mg_of X G a13⟩⟩,
    d_stepped := ⟨⟨f14, _, F14, b14, PySem.W.mg_of X G a14⟩⟩,
    d_ends_from := ⟨⟨f15, _, F15, b15, PySem.W.mg_of X G a15⟩⟩,
    d_ends_of := ⟨⟨f16, _, F16, b16, PySem.W.mg_of X G a16⟩⟩,
    d_stretch_there := ⟨⟨f17, _, F17, b17, PySem.W.mg_of X G a17⟩⟩,
    d_beginnings := ⟨⟨f18, _, F18, b18, PySem.W.mg_of X G a18⟩⟩,
    d_endings := ⟨⟨f19, _, F19, b19, PySem.W.mg_of X G a19⟩⟩,
    d_clash_of := ⟨⟨f20, _, F20, b20, PySem.W.mg_of X G a20⟩⟩,
    d_are_words := ⟨⟨f21, _, F21, b21, PySem.W.mg_of X G a21⟩⟩,
    d_Book_init := ⟨⟨f22, _, F22, b22, ⟨mkBook, a22, i22, kcBook⟩⟩⟩,
    d_Book_keep := ⟨⟨f23, _, F23, b23, ⟨a23, i23, k23⟩⟩⟩,
    d_levels_of := ⟨⟨f24, _, F24, b24, PySem.W.mg_of X G a24⟩⟩,
    d_many_of := ⟨⟨f25, _, F25, b25, PySem.W.mg_of X G a25⟩⟩,
    d_many_stretches := ⟨⟨f26, _, F26, b26, PySem.W.mg_of X G a26⟩⟩,
    d_state_behind := ⟨⟨f27, _, F27, b27, PySem.W.mg_of X G a27⟩⟩,
    d_ways_counts := ⟨⟨f28, _, F28, b28, PySem.W.mg_of X G a28⟩⟩,
    d_l_hand := ⟨⟨f29, _, F29, b29, PySem.W.mg_of X G a29⟩⟩,
    d_l_draw := ⟨⟨f30, _, F30, b30, PySem.W.mg_of X G a30⟩⟩,
    d_l_is := ⟨⟨f31, _, F31, b31, PySem.W.mg_of X G a31⟩⟩,
    d_l_some := ⟨⟨f32, _, F32, b32, PySem.W.mg_of X G a32⟩⟩,
    d_l_web := ⟨⟨f33, _, F33, b33, PySem.W.mg_of X G a33⟩⟩,
    d_l_ends := ⟨⟨f34, _, F34, b34, PySem.W.mg_of X G a34⟩⟩,
    d_l_signs := ⟨⟨f35, _, F35, b35, PySem.W.mg_of X G a35⟩⟩,
    d_l_longer := ⟨⟨f36, _, F36, b36, PySem.W.mg_of X G a36⟩⟩,
    d_l_stretches := ⟨⟨f37, _, F37, b37, PySem.W.mg_of X G a37⟩⟩,
    d_l_clashing := ⟨⟨f38, _, F38, b38, PySem.W.mg_of X G a38⟩⟩,
    d_l_fits := ⟨⟨f39, _, F39, b39, PySem.W.mg_of X G a39⟩⟩,
    d_l_comings := ⟨⟨f40, _, F40, b40, PySem.W.mg_of X G a40⟩⟩,
    d_l_count := ⟨⟨f41, _, F41, b41, PySem.W.mg_of X G a41⟩⟩,
    d_l_made := ⟨⟨f42, _, F42, b42, PySem.W.mg_of X G a42⟩⟩,
    d_l_is_last := ⟨⟨f43, _, F43, b43, PySem.W.mg_of X G a43⟩⟩,
    d_l_lot := ⟨⟨f44, _, F44, b44, PySem.W.mg_of X G a44⟩⟩,
    d_l_full := ⟨⟨f45, _, F45, b45, PySem.W.mg_of X G a45⟩⟩,
    d_l_words := ⟨⟨f46, _, F46, b46, PySem.W.mg_of X G a46⟩⟩,
    d_law := ⟨⟨fa, _, F47, b47, PySem.W.mg_of X G a47⟩⟩,
    cl_Web := ⟨pgWeb, hdWeb, poWeb, saWeb⟩,
    g_Web := PySem.W.mg_of X G aCWeb,
    n_Web_points := nWeb_points,
    n_Web_arrows := nWeb_arrows,
    n_Web_kept_letters := nWeb_kept_letters,
    n_Web_kept_steps := nWeb_kept_steps,
    cl_Book := ⟨pgBook, hdBook, poBook, saBook⟩,
    g_Book := PySem.W.mg_of X G aCBook,
    n_Book_web := nBook_web,
    n_Book_words := nBook_words,
    n_Book_kept_words := nBook_kept_words,
    n_Book_kept_begins := nBook_kept_begins,
    n_Book_kept_ends := nBook_kept_ends,
    n_Book_kept_longest := nBook_kept_longest,
    n_Book_kept_ways := nBook_kept_ways,
    b_abs := PySem.W.mg_none_of X G z_abs,
    b_all := PySem.W.mg_none_of X G z_all,
    b_any := PySem.W.mg_none_of X G z_any,
    b_bool := PySem.W.mg_none_of X G z_bool,
    b_dict := PySem.W.mg_none_of X G z_dict,
    b_enumerate := PySem.W.mg_none_of X G z_enumerate,
    b_int := PySem.W.mg_none_of X G z_int,
    b_isinstance := PySem.W.mg_none_of X G z_isinstance,
    b_len := PySem.W.mg_none_of X G z_len,
    b_list := PySem.W.mg_none_of X G z_list,
    b_max := PySem.W.mg_none_of X G z_max,
    b_min := PySem.W.mg_none_of X G z_min,
    b_range := PySem.W.mg_none_of X G z_range,
    b_sorted := PySem.W.mg_none_of X G z_sorted,
    b_str := PySem.W.mg_none_of X G z_str,
    b_sum := PySem.W.mg_none_of X G z_sum,
    b_tuple := PySem.W.mg_none_of X G z_tuple,
    b_zip := PySem.W.mg_none_of X G z_zip,
    g_MOST_POINTS := ⟨t_MOST_POINTS, PySem.W.mg_of X G g_MOST_POINTS⟩,
    g_MOST_ARROWS := ⟨t_MOST_ARROWS, PySem.W.mg_of X G g_MOST_ARROWS⟩,
    g_MOST_WORDS := ⟨t_MOST_WORDS, PySem.W.mg_of X G g_MOST_WORDS⟩,
    g_MOST_LETTERS := ⟨t_MOST_LETTERS, PySem.W.mg_of X G g_MOST_LETTERS⟩,
    g_MOST_LENGTH_stretches := ⟨t_MOST_LENGTH_stretches, PySem.W.mg_of X G g_MOST_LENGTH_stretches⟩,
    g_MOST_LENGTH_thin := ⟨t_MOST_LENGTH_thin, PySem.W.mg_of X G g_MOST_LENGTH_thin⟩,
    g_LETTERS := ⟨t_LETTERS, by rw [← e_LETTERS]; exact PySem.W.mg_of X G g_LETTERS⟩ }
  exact ⟨PySem.W.fnOf "law" "law" (defArgs s_law) (defBody s_law) (defScope s_law) .none kV47 dc47 pm47 an47 cd47 ct47, fun s v => .of_eq rfl, fun base _ _ => ok_law T F47⟩
theorem the_walk {l : PySem.W.OpenLaw} {q : Program} {loose : List Str} {XP : (Str → Option Value) → Heap → Prop} {YP : World → Heap → Prop} {d : DefRec} {K : Params → PySem.W.Frag} (hn : l.most = some 63) (hdf : d.params.defaults = [])
    (hY : ∀ (w : World) (h : Heap), YP w h → (K w.params).In h)
    (F : ∀ (w : World) (mg : Str → Option Value) (fa : Addr) (h : Heap), (K w.params).In h → h.Ns mainGlobals mg → mg d.name = some (.ref fa) →
      ∃ fd : FuncData, (∀ (s : Shared) (u : Value), BindsTo s fd ⟨[u], []⟩ [("_law_script", u)]) ∧ ∀ base : Heap, (K w.params).In base → base.Ns mainGlobals mg → FnOk l.prog w (K w.params) mg base CX0 7 fa fd ["_law_script"] (spLaw (K w.params))) :
    PySem.W.WalkO q loose XP YP l.row.toRowW d [] (fun f vs => PySem.call f vs) :=
  L2.walk_of (n := 63) (k := 7) (x := "_law_script") (CX := fun _ => CX0) (sp := fun w => spLaw (K w.params)) hn (by decide) hdf ⟨rfl, by decide, by decide⟩ hY F (fun _ _ a ns hl _ hS => ⟨a, ns, rfl, hS, hl, fun _ => rfl⟩) fun _ _ _ _ _ z => z
end Nj
set_option Elab.async false
set_option linter.all false
open PySem PySem.W PyProof.Rows
set_option maxRecDepth 100000 in
set_option maxHeartbeats 0 in
theorem PySem.Challenge.cw_neverjoin_k39_whole_readings_counted_by_holds : PySem.Challenge.rw_neverjoin_k39_whole_readings_counted_by.Holds := by
  w_on; o_law; k_head; (case hw => w_witness2)
  k_fill
  refine Nj.the_walk (l := PySem.Challenge.rw_neverjoin_k39_whole_readings_counted_by) rfl rfl (fun w h Y => PySem.W.kIn_of Y) ?F
  case F =>
    intro w mg fa h KX G hmg
    refine' Nj.all_made KX G hmg ?aCWeb ?aCBook ?a0 ?l0 ?c0 ?k0 ?a1 ?l1 ?c1 ?k1 ?a2 ?l2 ?c2 ?k2 ?a3 ?l3 ?c3 ?k3 ?a4 ?l4 ?c4 ?k4 ?a5 ?l5 ?c5 ?k5 ?a6 ?l6 ?c6 ?k6 ?a7 ?l7 ?c7 ?k7 ?a8 ?l8 ?c8 ?k8 ?a9 ?l9 ?c9 ?k9 ?a10 ?l10 ?c10 ?k10 ?a11 ?i11 ?l11 ?c11 ?k11 ?a12 ?i12 ?l12 ?c12 ?k12 ?a13 ?l13 ?c13 ?k13 ?a14 ?l14 ?c14 ?k14 ?a15 ?l15 ?c15 ?k15 ?a16 ?l16 ?c16 ?k16 ?a17 ?l17 ?c17 ?k17 ?a18 ?l18 ?c18 ?k18 ?a19 ?l19 ?c19 ?k19 ?a20 ?l20 ?c20 ?k20 ?a21 ?l21 ?c21 ?k21 ?a22 ?i22 ?l22 ?c22 ?k22 ?a23 ?i23 ?l23 ?c23 ?k23 ?a24 ?l24 ?c24 ?k24 ?a25 ?l25 ?c25 ?k25 ?a26 ?l26 ?c26 ?k26 ?a27 ?l27 ?c27 ?k27 ?a28 ?l28 ?c28 ?k28 ?a29 ?l29 ?c29 ?k29 ?a30 ?l30 ?c30 ?k30 ?a31 ?l31 ?c31 ?k31 ?a32 ?l32 ?c32 ?k32 ?a33 ?l33 ?c33 ?k33 ?a34 ?l34 ?c34 ?k34 ?a35 ?l35 ?c35 ?k35 ?a36 ?l36 ?c36 ?k36 ?a37 ?l37 ?c37 ?k37 ?a38 ?l38 ?c38 ?k38 ?a39 ?l39 ?c39 ?k39 ?a40 ?l40 ?c40 ?k40 ?a41 ?l41 ?c41 ?k41 ?a42 ?l42 ?c42 ?k42 ?a43 ?l43 ?c43 ?k43 ?a44 ?l44 ?c44 ?k44 ?a45 ?l45 ?c45 ?k45 ?a46 ?l46 ?c46 ?k46 ?a47 ?l47 ?c47 ?k47 ?pgWeb ?hdWeb ?poWeb ?saWeb ?mkWeb ?kcWeb ?nWeb_points ?nWeb_arrows ?nWeb_kept_letters ?nWeb_kept_steps ?pgBook ?hdBook ?poBook ?saBook ?mkBook ?kcBook ?nBook_web ?nBook_words ?nBook_kept_words ?nBook_kept_begins ?nBook_kept_ends ?nBook_kept_longest ?nBook_kept_ways ?z_abs ?z_all ?z_any ?z_bool ?z_dict ?z_enumerate ?z_int ?z_isinstance ?z_len ?z_list ?z_max ?z_min ?z_range ?z_sorted ?z_str ?z_sum ?z_tuple ?z_zip ?g_MOST_POINTS ?g_MOST_ARROWS ?g_MOST_WORDS ?g_MOST_LETTERS ?g_MOST_LENGTH_stretches ?g_MOST_LENGTH_thin ?g_LETTERS ?e_LETTERS
    (case aCWeb => k_is)
    (case aCBook => k_is)
    (case a0 => k_is)
    (case l0 => k_is)
    (case c0 => k_is)
    (case k0 => k_is)
    (case a1 => k_is)
    (case l1 => k_is)
    (case c1 => k_is)
    (case k1 => k_is)
    (case a2 => k_is)
    (case l2 => k_is)
    (case c2 => k_is)
    (case k2 => k_is)
    (case a3 => k_is)
    (case l3 => k_is)
    (case c3 => k_is)
    (case k3 => k_is)
    (case a4 => k_is)
    (case l4 => k_is)
    (case c4 => k_is)
    (case k4 => k_is)
    (case a5 => k_is)
    (case l5 => k_is)
    (case c5 => k_is)
    (case k5 => k_is)
    (case a6 => k_is)
    (case l6 => k_is)
    (case c6 => k_is)
    (case k6 => k_is)
    (case a7 => k_is)
    (case l7 => k_is)
    (case c7 => k_is)
    (case k7 => k_is)
    (case a8 => k_is)
    (case l8 => k_is)
    (case c8 => k_is)
    (case k8 => k_is)
    (case a9 => k_is)
    (case l9 => k_is)
    (case c9 => k_is)
    (case k9 => k_is)
    (case a10 => k_is)
    (case l10 => k_is)
    (case c10 => k_is)
    (case k10 => k_is)
    (case a11 => k_is)
    (case i11 => k_is)
    (case l11 => k_is)
    (case c11 => k_is)
    (case k11 => k_is)
    (case a12 => k_is)
    (case i12 => k_is)
    (case l12 => k_is)
    (case c12 => k_is)
    (case k12 => k_is)
    (case a13 => k_is)
    (case l13 => k_is)
    (case c13 => k_is)
    (case k13 => k_is)
    (case a14 => k_is)
    (case l14 => k_is)
    (case c14 => k_is)
    (case k14 => k_is)
    (case a15 => k_is)
    (case l15 => k_is)
    (case c15 => k_is)
    (case k15 => k_is)
    (case a16 => k_is)
    (case l16 => k_is)
    (case c16 => k_is)
    (case k16 => k_is)
    (case a17 => k_is)
    (case l17 => k_is)
    (case c17 => k_is)
    (case k17 => k_is)
    (case a18 => k_is)
    (case l18 => k_is)
    (case c18 => k_is)
    (case k18 => k_is)
    (case a19 => k_is)
    (case l19 => k_is)
    (case c19 => k_is)
    (case k19 => k_is)
    (case a20 => k_is)
    (case l20 => k_is)
    (case c20 => k_is)
    (case k20 => k_is)
    (case a21 => k_is)
    (case l21 => k_is)
    (case c21 => k_is)
    (case k21 => k_is)
    (case a22 => k_is)
    (case i22 => k_is)
    (case l22 => k_is)
    (case c22 => k_is)
    (case k22 => k_is)
    (case a23 => k_is)
    (case i23 => k_is)
    (case l23 => k_is)
    (case c23 => k_is)
    (case k23 => k_is)
    (case a24 => k_is)
    (case l24 => k_is)
    (case c24 => k_is)
    (case k24 => k_is)
    (case a25 => k_is)
    (case l25 => k_is)
    (case c25 => k_is)
    (case k25 => k_is)
    (case a26 => k_is)
    (case l26 => k_is)
    (case c26 => k_is)
    (case k26 => k_is)
    (case a27 => k_is)
    (case l27 => k_is)
    (case c27 => k_is)
    (case k27 => k_is)
    (case a28 => k_is)
    (case l28 => k_is)
    (case c28 => k_is)
    (case k28 => k_is)
    (case a29 => k_is)
    (case l29 => k_is)
    (case c29 => k_is)
    (case k29 => k_is)
    (case a30 => k_is)
    (case l30 => k_is)
    (case c30 => k_is)
    (case k30 => k_is)
    (case a31 => k_is)
    (case l31 => k_is)
    (case c31 => k_is)
    (case k31 => k_is)
    (case a32 => k_is)
    (case l32 => k_is)
    (case c32 => k_is)
    (case k32 => k_is)
    (case a33 => k_is)
    (case l33 => k_is)
    (case c33 => k_is)
    (case k33 => k_is)
    (case a34 => k_is)
    (case l34 => k_is)
    (case c34 => k_is)
    (case k34 => k_is)
    (case a35 => k_is)
    (case l35 => k_is)
    (case c35 => k_is)
    (case k35 => k_is)
    (case a36 => k_is)
    (case l36 => k_is)
    (case c36 => k_is)
    (case k36 => k_is)
    (case a37 => k_is)
    (case l37 => k_is)
    (case c37 => k_is)
    (case k37 => k_is)
    (case a38 => k_is)
    (case l38 => k_is)
    (case c38 => k_is)
    (case k38 => k_is)
    (case a39 => k_is)
    (case l39 => k_is)
    (case c39 => k_is)
    (case k39 => k_is)
    (case a40 => k_is)
    (case l40 => k_is)
    (case c40 => k_is)
    (case k40 => k_is)
    (case a41 => k_is)
    (case l41 => k_is)
    (case c41 => k_is)
    (case k41 => k_is)
    (case a42 => k_is)
    (case l42 => k_is)
    (case c42 => k_is)
    (case k42 => k_is)
    (case a43 => k_is)
    (case l43 => k_is)
    (case c43 => k_is)
    (case k43 => k_is)
    (case a44 => k_is)
    (case l44 => k_is)
    (case c44 => k_is)
    (case k44 => k_is)
    (case a45 => k_is)
    (case l45 => k_is)
    (case c45 => k_is)
    (case k45 => k_is)
    (case a46 => k_is)
    (case l46 => k_is)
    (case c46 => k_is)
    (case k46 => k_is)
    (case a47 => k_is)
    (case l47 => k_is)
    (case c47 => k_is)
    (case k47 => k_is)
    (case pgWeb => k_is)
    (case hdWeb => k_is)
    (case poWeb => k_is)
    (case saWeb => k_is)
    (case mkWeb => k_is)
    (case kcWeb => k_is)
    (case nWeb_points => k_is)
    (case nWeb_arrows => k_is)
    (case nWeb_kept_letters => k_is)
    (case nWeb_kept_steps => k_is)
    (case pgBook => k_is)
    (case hdBook => k_is)
    (case poBook => k_is)
    (case saBook => k_is)
    (case mkBook => k_is)
    (case kcBook => k_is)
    (case nBook_web => k_is)
    (case nBook_words => k_is)
    (case nBook_kept_words => k_is)
    (case nBook_kept_begins => k_is)
    (case nBook_kept_ends => k_is)
    (case nBook_kept_longest => k_is)
    (case nBook_kept_ways => k_is)
    (case z_abs => k_is)
    (case z_all => k_is)
    (case z_any => k_is)
    (case z_bool => k_is)
    (case z_dict => k_is)
    (case z_enumerate => k_is)
    (case z_int => k_is)
    (case z_isinstance => k_is)
    (case z_len => k_is)
    (case z_list => k_is)
    (case z_max => k_is)
    (case z_min => k_is)
    (case z_range => k_is)
    (case z_sorted => k_is)
    (case z_str => k_is)
    (case z_sum => k_is)
    (case z_tuple => k_is)
    (case z_zip => k_is)
    (case g_MOST_POINTS => k_is)
    (case g_MOST_ARROWS => k_is)
    (case g_MOST_WORDS => k_is)
    (case g_MOST_LETTERS => k_is)
    (case g_MOST_LENGTH_stretches => k_is)
    (case g_MOST_LENGTH_thin => k_is)
    (case g_LETTERS => k_is)
    (case e_LETTERS => first | rfl | decide +kernel)
#print axioms PySem.Challenge.cw_neverjoin_k39_whole_readings_counted_by_holds
