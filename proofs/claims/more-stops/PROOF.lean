import PyProof.Rows.All
import Wide.All
import OpenK.AllK
import Wide.FinOn
import HandS.ForMost
import HandS.Deep
import HandS.IsInst
import HandS.Conv
import HandS.DictTup
import HandS.NoneIn
import HandS.Style
import HandS.RaiseMore
import HandS.Zip
import HandS.Walk
import KE.DataFind
import HandS.Evl
import PySem.Challenge.RW_ownmoment_k63_whole_more_stops
set_option Elab.async false
set_option linter.all false
set_option maxRecDepth 100000
set_option maxHeartbeats 4000000
namespace Own

/-! ### 1. pairs that stand the other way about -/
section
variable {A : Type}

/-- the number of pairs (x ahead of y in the list) with r y x -/
def inv (r : A → A → Bool) : List A → Nat
  | [] => 0
  | x :: xs => xs.countP (fun y => r y x) + inv r xs

theorem inv_snoc (r : A → A → Bool) (y : A) : ∀ xs : List A, inv r (xs ++ [y]) = inv r xs + xs.countP (fun x => r y x)
  | [] => by simp [inv]
  | x :: xs => by
    have ih := inv_snoc r y xs
    simp only [List.cons_append, inv, ih, List.countP_append, List.countP_cons, List.countP_nil]
    omega

theorem inv_congr {r q : A → A → Bool} : ∀ {xs : List A}, (∀ x ∈ xs, ∀ y ∈ xs, r x y = q x y) → inv r xs = inv q xs
  | [], _ => rfl
  | x :: xs, h => by
    have h1 : xs.countP (fun y => r y x) = xs.countP (fun y => q y x) := by
      apply List.countP_congr
      intro y hy
      rw [h y (List.mem_cons_of_mem _ hy) x List.mem_cons_self]
    have h2 : inv r xs = inv q xs := inv_congr fun u hu v hv => h u (List.mem_cons_of_mem _ hu) v (List.mem_cons_of_mem _ hv)
    simp only [inv, h1, h2]

theorem inv_filter (r : A → A → Bool) (p : A → Bool) : ∀ xs : List A, inv r (xs.filter p) ≤ inv r xs
  | [] => Nat.le_refl _
  | x :: xs => by
    have ih := inv_filter r p xs
    have hc : (xs.filter p).countP (fun y => r y x) ≤ xs.countP (fun y => r y x) := (List.filter_sublist (p := p) (l := xs)).countP_le
    by_cases h : p x = true
    · rw [List.filter_cons_of_pos h]
      simp only [inv]
      omega
    · rw [List.filter_cons_of_neg h]
      simp only [inv]
      omega

theorem inv_le (r : A → A → Bool) : ∀ xs : List A, inv r xs ≤ xs.length * xs.length
  | [] => Nat.le_refl _
  | x :: xs => by
    have ih := inv_le r xs
    have hc : xs.countP (fun y => r y x) ≤ xs.length := List.countP_le_length
    simp only [inv, List.length_cons]
    have e : (xs.length + 1) * (xs.length + 1) = xs.length * xs.length + xs.length + xs.length + 1 := by
      rw [Nat.add_mul, Nat.mul_add]; omega
    omega

/-- neighbours change places -/
theorem inv_swap (r : A → A → Bool) (x y : A) (hyx : r y x = true) (hxy : r x y = false) (b : List A) : ∀ a : List A, inv r (a ++ x :: y :: b) = inv r (a ++ y :: x :: b) + 1
  | [] => by
    simp only [List.nil_append, inv, List.countP_cons, hyx, hxy]
    simp
    omega
  | z :: a => by
    have ih := inv_swap r x y hyx hxy b a
    simp only [List.cons_append, inv, ih, List.countP_append, List.countP_cons]
    omega

theorem inv_zero {r : A → A → Bool} : ∀ {xs : List A}, xs.Pairwise (fun x y => r y x = false) → inv r xs = 0
  | [], _ => rfl
  | x :: xs, h => by
    rw [List.pairwise_cons] at h
    have h1 : xs.countP (fun y => r y x) = 0 := by
      rw [List.countP_eq_zero]
      intro y hy
      rw [h.1 y hy]
      decide
    simp only [inv, h1, inv_zero h.2]

theorem countP_take (p : A → Bool) (xs : List A) (i : Nat) (h : i < xs.length) : (xs.take (i + 1)).countP p = (xs.take i).countP p + (if p xs[i] = true then 1 else 0) := by
  rw [List.take_succ_eq_append_getElem h, List.countP_append]
  simp [List.countP_cons]

theorem inv_take (r : A → A → Bool) (xs : List A) (i : Nat) (h : i < xs.length) : inv r (xs.take (i + 1)) = inv r (xs.take i) + (xs.take i).countP (fun x => r xs[i] x) := by
  rw [List.take_succ_eq_append_getElem h, inv_snoc]
end

/-! ### 2. places: pairs of integers, in the order of tuples -/
abbrev Pl := Int × Int
def plt (p q : Pl) : Bool := if p.1 = q.1 then decide (p.2 < q.2) else decide (p.1 < q.1)
theorem plt_iff {p q : Pl} : plt p q = true ↔ p.1 < q.1 ∨ (p.1 = q.1 ∧ p.2 < q.2) := by
  unfold plt
  by_cases h : p.1 = q.1
  · rw [if_pos h]; simp; omega
  · rw [if_neg h]; simp; omega
theorem plt_iff_f {p q : Pl} : plt p q = false ↔ q.1 < p.1 ∨ (p.1 = q.1 ∧ q.2 ≤ p.2) := by
  have h := @plt_iff p q
  cases e : plt p q with
  | true => simp; have := h.mp e; omega
  | false =>
    simp
    have h2 : ¬ (p.1 < q.1 ∨ (p.1 = q.1 ∧ p.2 < q.2)) := fun z => by rw [h.mpr z] at e; cases e
    omega
theorem plt_irr (p : Pl) : plt p p = false := plt_iff_f.mpr (by omega)
theorem plt_asymm {p q : Pl} (h : plt p q = true) : plt q p = false := plt_iff_f.mpr (by have := plt_iff.mp h; omega)
theorem plt_trans {p q r : Pl} (h1 : plt p q = true) (h2 : plt q r = true) : plt p r = true := plt_iff.mpr (by have := plt_iff.mp h1; have := plt_iff.mp h2; omega)
theorem plt_total {p q : Pl} (h : p ≠ q) (h1 : plt p q = false) : plt q p = true := plt_iff.mpr (by
  have := plt_iff_f.mp h1
  have h3 : ¬ (p.1 = q.1 ∧ p.2 = q.2) := fun ⟨a, b⟩ => h (Prod.ext a b)
  omega)
theorem ple_trans (p q r : Pl) (h1 : (!plt q p) = true) (h2 : (!plt r q) = true) : (!plt r p) = true := by
  simp only [Bool.not_eq_true'] at *
  have := plt_iff_f.mp h1
  have := plt_iff_f.mp h2
  exact plt_iff_f.mpr (by omega)
theorem ple_total (p q : Pl) : ((!plt q p) || (!plt p q)) = true := by
  cases e : plt q p with
  | false => rfl
  | true => rw [plt_asymm e]; rfl

/-! ### 3. the sorted row -/
section
variable {A : Type}
/-- x is ahead of y by their places -/
def lt (pl : A → Pl) (x y : A) : Bool := plt (pl x) (pl y)
def Sorted (pl : A → Pl) (xs : List A) : Prop := xs.Pairwise fun x y => lt pl x y = true
def Apart (pl : A → Pl) (xs : List A) : Prop := ∀ x ∈ xs, ∀ y ∈ xs, pl x = pl y → x = y

theorem Sorted.inv {pl : A → Pl} {xs : List A} (h : Sorted pl xs) : inv (lt pl) xs = 0 :=
  inv_zero (h.imp fun e => plt_asymm e)

theorem sorted_unique {pl : A → Pl} {xs ys : List A} (hp : List.Perm xs ys) (hx : Sorted pl xs) (hy : Sorted pl ys) : xs = ys :=
  List.Perm.eq_of_pairwise (le := fun x y => lt pl x y = true) (fun a b _ _ h1 h2 => by
    have := plt_asymm h1
    unfold lt at h2
    rw [this] at h2; cases h2) hx hy hp

def srt (pl : A → Pl) (xs : List A) : List A := xs.mergeSort fun x y => !lt pl y x
theorem srt_perm (pl : A → Pl) (xs : List A) : List.Perm (srt pl xs) xs := List.mergeSort_perm _ _
theorem srt_sorted {pl : A → Pl} {xs : List A} (ha : Apart pl xs) (hn : xs.Nodup) : Sorted pl (srt pl xs) := by
  have h1 : (srt pl xs).Pairwise fun x y => (!lt pl y x) = true :=
    List.pairwise_mergeSort (le := fun x y => !lt pl y x) (fun a b c h1 h2 => ple_trans _ _ _ h1 h2) (fun a b => ple_total _ _) xs
  have hn2 : (srt pl xs).Nodup := (srt_perm pl xs).nodup_iff.mpr hn
  have hm : ∀ x, x ∈ srt pl xs → x ∈ xs := fun x => (srt_perm pl xs).mem_iff.mp
  have both := List.Pairwise.and h1 hn2
  refine List.Pairwise.imp_of_mem ?_ both
  intro x y hx hy ⟨h2, h3⟩
  simp only [Bool.not_eq_true'] at h2
  refine plt_total (fun e => h3 (ha x (hm x hx) y (hm y hy) e.symm)) h2

theorem sorted_eq_srt {pl : A → Pl} {xs ys : List A} (ha : Apart pl xs) (hn : xs.Nodup) (hp : List.Perm ys xs) (hy : Sorted pl ys) : ys = srt pl xs :=
  sorted_unique (hp.trans (srt_perm pl xs).symm) hy (srt_sorted ha hn)

theorem Apart.perm {pl : A → Pl} {xs ys : List A} (h : Apart pl xs) (p : List.Perm ys xs) : Apart pl ys :=
  fun x hx y hy e => h x (p.mem_iff.mp hx) y (p.mem_iff.mp hy) e

/-- nothing stands wrongly: the row is sorted -/
theorem sorted_of_adj {pl : A → Pl} : ∀ {xs : List A}, Apart pl xs → xs.Nodup → (∀ i (h : i + 1 < xs.length), lt pl xs[i + 1] xs[i] = false) → Sorted pl xs
  | [], _, _, _ => List.Pairwise.nil
  | [x], _, _, _ => List.pairwise_singleton _ _
  | x :: y :: xs, ha, hn, h => by
    have ih : Sorted pl (y :: xs) := sorted_of_adj (fun u hu v hv e => ha u (List.mem_cons_of_mem _ hu) v (List.mem_cons_of_mem _ hv) e) (List.nodup_cons.mp hn).2 (fun i hi => by
      have := h (i + 1) (by simp at hi ⊢; omega)
      simpa using this)
    have h0 : lt pl y x = false := by
      have := h 0 (by simp)
      simpa using this
    have hne : x ≠ y := fun e => (List.nodup_cons.mp hn).1 (by rw [e]; exact List.mem_cons_self)
    have hxy : lt pl x y = true := plt_total (fun e => hne (ha x List.mem_cons_self y (List.mem_cons_of_mem _ List.mem_cons_self) e.symm)) h0
    refine List.pairwise_cons.mpr ⟨fun z hz => ?_, ih⟩
    rcases List.mem_cons.mp hz with rfl | hz
    · exact hxy
    · exact plt_trans hxy ((List.pairwise_cons.mp ih).1 z hz)

/-- how many are ahead of the one at i -/
theorem rank_sorted {pl : A → Pl} : ∀ {xs : List A}, Sorted pl xs → ∀ i (h : i < xs.length), xs.countP (fun y => lt pl y xs[i]) = i
  | [], _, i, h => by simp at h
  | x :: xs, hs, i, h => by
    have hs' := List.pairwise_cons.mp hs
    cases i with
    | zero =>
      rw [List.countP_eq_zero]
      intro y hy
      simp only [List.getElem_cons_zero]
      rcases List.mem_cons.mp hy with rfl | hy
      · rw [show lt pl y y = false from plt_irr _]; decide
      · rw [show lt pl y x = false from plt_asymm (hs'.1 y hy)]; decide
    | succ i =>
      simp only [List.getElem_cons_succ, List.countP_cons]
      have hi : i < xs.length := by simpa using h
      rw [rank_sorted hs'.2 i hi, if_pos (hs'.1 _ (List.getElem_mem hi))]
end

/-! ### 4. more stops: never less turns -/
section
variable {A : Type} [DecidableEq A]
def bef (l : List A) (x y : A) : Bool := decide (l.idxOf x < l.idxOf y)

theorem idx_cons_self (x : A) (l : List A) : (x :: l).idxOf x = 0 := by simp
theorem idx_cons_ne {x z : A} (h : z ≠ x) (l : List A) : (z :: l).idxOf x = l.idxOf x + 1 := by
  rw [List.idxOf_cons]
  have : (z == x) = false := by simpa using h
  rw [this]; rfl

theorem bef_cons_l {x y : A} (h : y ≠ x) (l : List A) : bef (x :: l) x y = true := by
  unfold bef
  rw [idx_cons_self, idx_cons_ne (Ne.symm h)]
  exact decide_eq_true (Nat.succ_pos _)
theorem bef_cons_r (x y : A) (l : List A) : bef (x :: l) y x = false := by
  unfold bef
  rw [idx_cons_self]
  exact decide_eq_false (Nat.not_lt_zero _)
theorem bef_cons_ne {z x y : A} (h1 : z ≠ x) (h2 : z ≠ y) (l : List A) : bef (z :: l) x y = bef l x y := by
  unfold bef
  rw [idx_cons_ne h1, idx_cons_ne h2]
  by_cases h : List.idxOf x l < List.idxOf y l
  · rw [decide_eq_true h, decide_eq_true (by omega)]
  · rw [decide_eq_false h, decide_eq_false (by omega)]

def dsum (f : A → A → Bool) (l m : List A) : Nat := (l.map fun x => m.countP (f x)).sum

theorem dsum_congr {f g : A → A → Bool} {m : List A} : ∀ {l : List A}, (∀ x ∈ l, ∀ y ∈ m, f x y = g x y) → dsum f l m = dsum g l m
  | [], _ => rfl
  | x :: l, h => by
    have h1 : m.countP (f x) = m.countP (g x) := List.countP_congr fun y hy => by rw [h x List.mem_cons_self y hy]
    have h2 := dsum_congr (f := f) (g := g) (m := m) (l := l) fun u hu v hv => h u (List.mem_cons_of_mem _ hu) v hv
    unfold dsum at *
    simp only [List.map_cons, List.sum_cons, h1, h2]

theorem countP_or_le {m : List A} (p q r : A → Bool) (h : ∀ y ∈ m, p y = true → q y = true ∨ r y = true) : m.countP p ≤ m.countP q + m.countP r := by
  induction m with
  | nil => simp
  | cons y m ih =>
    have ih' := ih fun z hz => h z (List.mem_cons_of_mem _ hz)
    have hy := h y List.mem_cons_self
    simp only [List.countP_cons]
    cases e1 : p y <;> cases e2 : q y <;> cases e3 : r y <;> simp_all <;> omega

theorem dsum_le {f g h : A → A → Bool} {m : List A} : ∀ {l : List A}, (∀ x ∈ l, ∀ y ∈ m, f x y = true → g x y = true ∨ h x y = true) → dsum f l m ≤ dsum g l m + dsum h l m
  | [], _ => by simp [dsum]
  | x :: l, hh => by
    have h1 := countP_or_le (m := m) (f x) (g x) (h x) fun y hy => hh x List.mem_cons_self y hy
    have h2 := dsum_le (f := f) (g := g) (h := h) (m := m) (l := l) fun u hu v hv => hh u (List.mem_cons_of_mem _ hu) v hv
    unfold dsum at *
    simp only [List.map_cons, List.sum_cons]
    omega

theorem dsum_perm {f : A → A → Bool} {l l' m m' : List A} (p : List.Perm l l') (q : List.Perm m m') : dsum f l m = dsum f l' m' := by
  unfold dsum
  have h : (l.map fun x => m.countP (f x)) = (l.map fun x => m'.countP (f x)) := List.map_congr_left fun x _ => q.countP_eq _
  rw [h]
  exact (p.map _).sum_nat

theorem dsum_cons_r (f : A → A → Bool) (y : A) (m : List A) : ∀ l : List A, dsum f l (y :: m) = dsum f l m + l.countP (fun x => f x y)
  | [] => rfl
  | x :: l => by
    have ih := dsum_cons_r f y m l
    have e1 : dsum f (x :: l) (y :: m) = (y :: m).countP (f x) + dsum f l (y :: m) := rfl
    have e2 : dsum f (x :: l) m = m.countP (f x) + dsum f l m := rfl
    rw [e1, e2, ih, List.countP_cons, List.countP_cons]
    omega

theorem inv_dsum (r : A → A → Bool) : ∀ {l : List A}, l.Nodup → inv r l = dsum (fun x y => bef l x y && r y x) l l
  | [], _ => rfl
  | x :: l, hn => by
    have hx := (List.nodup_cons.mp hn).1
    have ih := inv_dsum r (List.nodup_cons.mp hn).2
    have e1 : dsum (fun u v => bef (x :: l) u v && r v u) (x :: l) (x :: l) = (x :: l).countP (fun v => bef (x :: l) x v && r v x) + dsum (fun u v => bef (x :: l) u v && r v u) l (x :: l) := by
      unfold dsum
      rw [List.map_cons, List.sum_cons]
    have e2 : (x :: l).countP (fun v => bef (x :: l) x v && r v x) = l.countP (fun y => r y x) := by
      rw [List.countP_cons, bef_cons_r]
      simp only [Bool.false_and, Bool.false_eq_true, if_false, Nat.add_zero]
      apply List.countP_congr
      intro y hy
      have hne : y ≠ x := fun e => hx (by rw [← e]; exact hy)
      rw [bef_cons_l hne, Bool.true_and]
    have e3 : l.countP (fun u => bef (x :: l) u x && r x u) = 0 := by
      rw [List.countP_eq_zero]
      intro y _
      rw [bef_cons_r, Bool.false_and]
      decide
    have e4 : dsum (fun u v => bef (x :: l) u v && r v u) l l = dsum (fun u v => bef l u v && r v u) l l := dsum_congr fun u hu v hv => by
      have h1 : x ≠ u := fun e => hx (by rw [e]; exact hu)
      have h2 : x ≠ v := fun e => hx (by rw [e]; exact hv)
      rw [bef_cons_ne h1 h2]
    rw [e1, e2, dsum_cons_r, e3, e4, ← ih]
    simp only [inv]
    omega

theorem bef_or {l : List A} {x y : A} (hx : x ∈ l) (hy : y ∈ l) (h : x ≠ y) : bef l x y = true ∨ bef l y x = true := by
  unfold bef
  have h1 : List.idxOf x l ≠ List.idxOf y l := fun e => by
    have a := List.getElem_idxOf (List.idxOf_lt_length_of_mem hx)
    have b := List.getElem_idxOf (List.idxOf_lt_length_of_mem hy)
    apply h
    rw [← a, ← b]
    simp [e]
  by_cases h2 : List.idxOf x l < List.idxOf y l
  · exact .inl (decide_eq_true h2)
  · exact .inr (decide_eq_true (by omega))

/-- the distance of two rows -/
theorem tri {r : A → A → Bool} {a b : List A} (p : List.Perm a b) (hn : a.Nodup) (hr : ∀ x, r x x = false) : inv r a ≤ inv (bef b) a + inv r b := by
  have hb : b.Nodup := p.nodup_iff.mp hn
  rw [inv_dsum r hn, inv_dsum (bef b) hn, inv_dsum r hb, dsum_perm (f := fun x y => bef b x y && r y x) p.symm p.symm]
  refine dsum_le fun x hx y hy h => ?_
  simp only [Bool.and_eq_true] at h ⊢
  have hne : x ≠ y := fun e => by
    rw [e, hr] at h
    exact Bool.noConfusion h.2
  rcases bef_or (p.mem_iff.mp hx) (p.mem_iff.mp hy) hne with z | z
  · exact .inr ⟨z, h.2⟩
  · exact .inl ⟨h.1, z⟩

theorem inv_bef_self {l : List A} (hn : l.Nodup) : inv (bef l) l = 0 := by
  rw [inv_dsum _ hn]
  have e : dsum (fun x y => bef l x y && bef l y x) l l = dsum (fun _ _ => false) l l := dsum_congr fun x _ y _ => by
    unfold bef
    by_cases h : List.idxOf x l < List.idxOf y l
    · rw [decide_eq_true h, decide_eq_false (by omega)]; rfl
    · rw [decide_eq_false h]; rfl
  rw [e]
  have z : ∀ m : List A, dsum (fun _ _ => false) m l = 0 := fun m => by
    induction m with
    | nil => rfl
    | cons x m ih =>
      unfold dsum at *
      simp only [List.map_cons, List.sum_cons, ih]
      simp
  exact z l

theorem bef_sorted {pl : A → Pl} : ∀ {s : List A}, Sorted pl s → s.Nodup → ∀ x ∈ s, ∀ y ∈ s, bef s x y = lt pl x y
  | [], _, _, x, hx, _, _ => by simp at hx
  | z :: s, hs, hn, x, hx, y, hy => by
    have hs' := List.pairwise_cons.mp hs
    have hn' := List.nodup_cons.mp hn
    by_cases e1 : z = x
    · subst e1
      by_cases e2 : y = z
      · subst e2
        rw [bef_cons_r]
        exact (plt_irr _).symm
      · rw [bef_cons_l e2]
        exact (hs'.1 y ((List.mem_cons.mp hy).resolve_left e2)).symm
    · have hx' := (List.mem_cons.mp hx).resolve_left (Ne.symm e1)
      by_cases e2 : z = y
      · subst e2
        rw [bef_cons_r]
        exact (plt_asymm (hs'.1 x hx')).symm
      · rw [bef_cons_ne e1 e2]
        exact bef_sorted hs'.2 hn'.2 x hx' y ((List.mem_cons.mp hy).resolve_left (Ne.symm e2))

theorem bef_filter (p : A → Bool) {x y : A} (hx : p x = true) (hy : p y = true) : ∀ l : List A, bef (l.filter p) x y = bef l x y
  | [] => rfl
  | z :: l => by
    have ih := bef_filter p hx hy l
    by_cases hz : p z = true
    · rw [List.filter_cons_of_pos hz]
      by_cases e1 : z = x
      · subst e1
        by_cases e2 : y = z
        · subst e2
          rw [bef_cons_r, bef_cons_r]
        · rw [bef_cons_l e2, bef_cons_l e2]
      · by_cases e2 : z = y
        · subst e2
          rw [bef_cons_r, bef_cons_r]
        · rw [bef_cons_ne e1 e2, bef_cons_ne e1 e2, ih]
    · rw [List.filter_cons_of_neg hz]
      have h1 : z ≠ x := fun e => hz (by rw [e]; exact hx)
      have h2 : z ≠ y := fun e => hz (by rw [e]; exact hy)
      rw [bef_cons_ne h1 h2, ih]

theorem inv_go {a b : List A} (t : A) : inv (bef (b.filter fun x => decide (x ≠ t))) (a.filter fun x => decide (x ≠ t)) ≤ inv (bef b) a := by
  have e : inv (bef (b.filter fun x => decide (x ≠ t))) (a.filter fun x => decide (x ≠ t)) = inv (bef b) (a.filter fun x => decide (x ≠ t)) := inv_congr fun x hx y hy =>
    bef_filter (fun x => decide (x ≠ t)) (List.mem_filter.mp hx).2 (List.mem_filter.mp hy).2 b
  rw [e]
  exact inv_filter _ _ _

theorem bef_snoc {l : List A} {x y t : A} (hx : x ∈ l) (hy : y ∈ l) : bef (l ++ [t]) x y = bef l x y := by
  unfold bef
  rw [List.idxOf_append, List.idxOf_append, if_pos hx, if_pos hy]

theorem inv_come {a b : List A} {t : A} (p : List.Perm a b) (ht : t ∉ a) : inv (bef (b ++ [t])) (a ++ [t]) = inv (bef b) a := by
  rw [inv_snoc]
  have e1 : inv (bef (b ++ [t])) a = inv (bef b) a := inv_congr fun x hx y hy => bef_snoc (p.mem_iff.mp hx) (p.mem_iff.mp hy)
  have e2 : a.countP (fun x => bef (b ++ [t]) t x) = 0 := by
    rw [List.countP_eq_zero]
    intro x hx
    have hb : t ∉ b := fun z => ht (p.mem_iff.mpr z)
    unfold bef
    rw [List.idxOf_append, List.idxOf_append, if_neg hb, if_pos (p.mem_iff.mp hx)]
    have : List.idxOf x b < b.length := List.idxOf_lt_length_of_mem (p.mem_iff.mp hx)
    simp
    omega
  rw [e1, e2]
  omega
end
end Own

namespace Own

/-! ### 5. machines, figures, runs -/
abbrev Thing := Int × Int
abbrev Fig := Nat × List Int
abbrev Stand := Int × Bool × Nat
abbrev Pt := List Stand × Nat
abbrev Mv := Option (Nat × List Int)
structure Mach where
  begins : List Nat
  points : List Pt
  moves : List (List Mv)

def deedsOf (M : Mach) : Nat := (M.moves.getD 0 []).length
def liveOf (M : Mach) (p : Nat) : Nat := (M.points.getD p ([], 0)).2
def standOf (M : Mach) (p : Nat) : Stand := (M.points.getD p ([], 0)).1.getD 0 (0, false, 0)
def mvAt (M : Mach) (p d : Nat) : Mv := (M.moves.getD p []).getD d none

structure Mach.Ok (M : Mach) : Prop where
  b1 : 1 ≤ M.begins.length ∧ M.begins.length ≤ 2
  bp : ∀ b ∈ M.begins, b < M.points.length ∧ liveOf M b = 1
  pn : 1 ≤ M.points.length ∧ M.points.length ≤ 4
  live : ∀ p, p < M.points.length → liveOf M p ≤ 3
  row : ∀ p, p < M.points.length → 1 ≤ (M.points.getD p ([], 0)).1.length
  at_ : ∀ p, p < M.points.length → (standOf M p).2.2 < liveOf M p
  way : ∀ p q, p < M.points.length → q < M.points.length → (standOf M p).1 = (standOf M q).1 → (standOf M p).2.1 = (standOf M q).2.1
  mn : M.moves.length = M.points.length
  md : ∀ l ∈ M.moves, l.length = deedsOf M
  dd : deedsOf M ≤ 3
  mv : ∀ p d b tk, p < M.points.length → mvAt M p d = some (b, tk) → b < M.points.length ∧ tk.length = liveOf M b ∧ ∀ k ∈ tk, k = -1 ∨ (0 ≤ k ∧ k < liveOf M p)

def place (M : Mach) (f : Fig) : Pl :=
  let s := standOf M f.1
  (s.1, if s.2.1 = true then - f.2.getD s.2.2 0 else f.2.getD s.2.2 0)
def ahead (M : Mach) (f g : Fig) : Bool :=
  let s := standOf M f.1
  let r := standOf M g.1
  if s.1 = r.1 then (if s.2.1 = true then decide (g.2.getD r.2.2 0 < f.2.getD s.2.2 0) else decide (f.2.getD s.2.2 0 < g.2.getD r.2.2 0)) else decide (s.1 < r.1)

theorem ahead_aux (k k' : Int) (c c' : Bool) (a b : Int) (w : k = k' → c = c') :
    (if k = k' then (if c = true then decide (b < a) else decide (a < b)) else decide (k < k')) = plt (k, if c = true then -a else a) (k', if c' = true then -b else b) := by
  unfold plt
  by_cases h : k = k'
  · have e := w h
    subst e
    simp only [if_pos h]
    cases c <;> simp
  · simp only [if_neg h]
theorem ahead_eq {M : Mach} (ok : M.Ok) {f g : Fig} (hf : f.1 < M.points.length) (hg : g.1 < M.points.length) : ahead M f g = plt (place M f) (place M g) :=
  ahead_aux _ _ _ _ _ _ (ok.way _ _ hf hg)

def behind (f : Fig) (mv : Nat × List Int) (now : Int) : Fig := (mv.1, mv.2.map fun k => if k = -1 then now else f.2.getD k.toNat 0)
abbrev Figs := Thing → Option Fig
def begun (M : Mach) (now : Int) (t : Thing) : Fig := (M.begins.getD t.1.toNat 0, [now])
def nxt (M : Mach) (th : Figs) (now d : Int) (t : Thing) : Option Fig :=
  if d = 0 then some (begun M now t)
  else if d = -1 then none
  else match th t with
    | none => none
    | some f => match mvAt M f.1 (d - 1).toNat with
      | none => none
      | some mv => some (behind f mv now)
def putT (th : Figs) (t : Thing) (o : Option Fig) : Figs := fun u => if u = t then o else th u

def InKinds (M : Mach) (t : Thing) : Prop := 0 ≤ t.1 ∧ t.1 < (M.begins.length : Int) ∧ 0 ≤ t.2 ∧ t.2 ≤ 9999
structure Lets (M : Mach) (th : Figs) (d : Int) (t : Thing) : Prop where
  kd : InKinds M t
  lo : -1 ≤ d
  hi : d ≤ deedsOf M
  come : d = 0 → th t = none
  there : d ≠ 0 → ∃ f, th t = some f
  deed : 1 ≤ d → ∃ f mv, th t = some f ∧ mvAt M f.1 (d - 1).toNat = some mv

abbrev Run := List (Int × Thing)
def thAt (M : Mach) (run : Run) : Nat → Figs
  | 0 => fun _ => none
  | i + 1 => match run[i]? with
    | none => thAt M run i
    | some (d, t) => putT (thAt M run i) t (nxt M (thAt M run i) (i : Nat) d t)
theorem thAt_succ {M : Mach} {run : Run} {i : Nat} {d : Int} {t : Thing} (h : run[i]? = some (d, t)) : thAt M run (i + 1) = putT (thAt M run i) t (nxt M (thAt M run i) (i : Nat) d t) := by
  show (match run[i]? with | none => _ | some (d, t) => _) = _
  rw [h]
def Valid (M : Mach) (run : Run) : Prop := ∀ i d t, run[i]? = some (d, t) → Lets M (thAt M run i) d t

/-- the moments of a figure are its thing's own -/
structure FigOk (M : Mach) (run : Run) (i : Nat) (t : Thing) (f : Fig) : Prop where
  pt : f.1 < M.points.length
  len : f.2.length = liveOf M f.1
  own : ∀ τ ∈ f.2, 0 ≤ τ ∧ τ < (i : Int) ∧ ∃ d, run[τ.toNat]? = some (d, t)
theorem FigOk.mono {M : Mach} {run : Run} {i j : Nat} {t : Thing} {f : Fig} (h : FigOk M run i t f) (hij : i ≤ j) : FigOk M run j t f :=
  ⟨h.pt, h.len, fun τ hτ => let ⟨a, b, c⟩ := h.own τ hτ; ⟨a, by omega, c⟩⟩
theorem FigOk.time {M : Mach} (ok : M.Ok) {run : Run} {i : Nat} {t : Thing} {f : Fig} (h : FigOk M run i t f) : (standOf M f.1).2.2 < f.2.length := by
  rw [h.len]; exact ok.at_ _ h.pt

theorem getD_mem {α : Type} {l : List α} {i : Nat} {d : α} (h : i < l.length) : l.getD i d ∈ l := by
  rw [List.getD_eq_getElem?_getD, List.getElem?_eq_getElem h]
  exact List.getElem_mem h

theorem begun_live {M : Mach} (ok : M.Ok) {t : Thing} (h : InKinds M t) : M.begins.getD t.1.toNat 0 < M.points.length ∧ liveOf M (M.begins.getD t.1.toNat 0) = 1 :=
  ok.bp _ (getD_mem (by have := h.1; have := h.2.1; omega))

theorem figOk_nxt {M : Mach} (ok : M.Ok) {run : Run} {i : Nat} {d : Int} {t : Thing} {th : Figs} (hi : run[i]? = some (d, t)) (l : Lets M th d t) (hth : ∀ f, th t = some f → FigOk M run i t f) {f : Fig}
    (h : nxt M th (i : Nat) d t = some f) : FigOk M run (i + 1) t f := by
  unfold nxt at h
  by_cases h0 : d = 0
  · rw [if_pos h0] at h
    cases h
    have ⟨a, b⟩ := begun_live ok l.kd
    refine ⟨a, b.symm, fun τ hτ => ?_⟩
    have e : τ = (i : Nat) := by simpa [begun] using hτ
    subst e
    exact ⟨by omega, by omega, d, by simpa using hi⟩
  · rw [if_neg h0] at h
    by_cases h1 : d = -1
    · rw [if_pos h1] at h; cases h
    · rw [if_neg h1] at h
      cases e : th t with
      | none => rw [e] at h; cases h
      | some g =>
        rw [e] at h
        simp only at h
        cases e2 : mvAt M g.1 (d - 1).toNat with
        | none => rw [e2] at h; cases h
        | some mv =>
          rw [e2] at h
          cases h
          have F := hth g e
          obtain ⟨b, tk⟩ := mv
          obtain ⟨m1, m2, m3⟩ := ok.mv _ _ _ _ F.pt e2
          refine ⟨m1, by simp [behind, m2], fun τ hτ => ?_⟩
          obtain ⟨k, hk, rfl⟩ := List.mem_map.mp hτ
          by_cases hk1 : k = -1
          · rw [if_pos hk1]
            exact ⟨by omega, by omega, d, by simpa using hi⟩
          · rw [if_neg hk1]
            have hk2 := (m3 k hk).resolve_left hk1
            have hm : g.2.getD k.toNat 0 ∈ g.2 := getD_mem (by rw [F.len]; omega)
            obtain ⟨a, b, c⟩ := F.own _ hm
            exact ⟨a, by omega, c⟩

theorem figs_ok {M : Mach} (ok : M.Ok) {run : Run} (v : Valid M run) : ∀ i t f, thAt M run i t = some f → FigOk M run i t f
  | 0, t, f, h => by cases h
  | i + 1, t, f, h => by
    have ih := figs_ok ok v i
    cases e : run[i]? with
    | none =>
      have e2 : thAt M run (i + 1) = thAt M run i := by
        show (match run[i]? with | none => _ | some (d, t) => _) = _
        rw [e]
      rw [e2] at h
      exact (ih t f h).mono (Nat.le_succ i)
    | some dt =>
      obtain ⟨d, u⟩ := dt
      rw [thAt_succ e] at h
      unfold putT at h
      by_cases hu : t = u
      · subst hu
        rw [if_pos rfl] at h
        exact figOk_nxt ok e (v i d t e) (fun g hg => ih t g hg) h
      · rw [if_neg hu] at h
        exact (ih t f h).mono (Nat.le_succ i)

/-! ### 6. the lane -/
def pl (M : Mach) (th : Figs) (t : Thing) : Pl := match th t with
  | some f => place M f
  | none => (0, 0)
theorem pl_some {M : Mach} {th : Figs} {t : Thing} {f : Fig} (h : th t = some f) : pl M th t = place M f := by
  unfold pl; rw [h]
def ordNext (o : List Thing) (d : Int) (t : Thing) : List Thing := if d = 0 then o ++ [t] else if d = -1 then o.filter (fun x => decide (x ≠ t)) else o
def ordAt (M : Mach) (run : Run) (S : Nat → Bool) : Nat → List Thing × Nat
  | 0 => ([], 0)
  | i + 1 => match run[i]? with
    | none => ordAt M run S i
    | some (d, t) =>
      let o := ordNext (ordAt M run S i).1 d t
      let p := pl M (thAt M run (i + 1))
      if S i = true then (srt p o, (ordAt M run S i).2 + inv (lt p) o) else (o, (ordAt M run S i).2)
theorem ordAt_yes {M : Mach} {run : Run} {S : Nat → Bool} {i : Nat} {d : Int} {t : Thing} (h : run[i]? = some (d, t)) (hs : S i = true) : ordAt M run S (i + 1) =
    (srt (pl M (thAt M run (i + 1))) (ordNext (ordAt M run S i).1 d t), (ordAt M run S i).2 + inv (lt (pl M (thAt M run (i + 1)))) (ordNext (ordAt M run S i).1 d t)) := by
  conv => lhs; unfold ordAt
  rw [h]
  simp only [hs, if_true]
theorem ordAt_no {M : Mach} {run : Run} {S : Nat → Bool} {i : Nat} {d : Int} {t : Thing} (h : run[i]? = some (d, t)) (hs : S i = false) : ordAt M run S (i + 1) = (ordNext (ordAt M run S i).1 d t, (ordAt M run S i).2) := by
  conv => lhs; unfold ordAt
  rw [h]
  simp only [hs, Bool.false_eq_true, if_false]
def turns (M : Mach) (run : Run) (S : Nat → Bool) : Nat :=
  (ordAt M run S run.length).2 + inv (lt (pl M (thAt M run run.length))) (ordAt M run S run.length).1

/-- a row of just the things that are there -/
structure Row (th : Figs) (o : List Thing) : Prop where
  nd : o.Nodup
  mem : ∀ t, t ∈ o ↔ ∃ f, th t = some f

theorem Row.perm {th : Figs} {o o' : List Thing} (h : Row th o) (p : List.Perm o' o) : Row th o' :=
  ⟨p.nodup_iff.mpr h.nd, fun t => p.mem_iff.trans (h.mem t)⟩
theorem Row.perm_of {th : Figs} {o o' : List Thing} (h : Row th o) (h' : Row th o') : List.Perm o o' := by
  rw [List.perm_iff_count]
  intro t
  rw [h.nd.count, h'.nd.count]
  by_cases z : t ∈ o
  · rw [if_pos z, if_pos ((h'.mem t).mpr ((h.mem t).mp z))]
  · rw [if_neg z, if_neg (fun y => z ((h.mem t).mpr ((h'.mem t).mp y)))]

theorem nxt_some {M : Mach} {th : Figs} {now d : Int} {t : Thing} (l : Lets M th d t) (h : d ≠ -1) : ∃ f, nxt M th now d t = some f := by
  unfold nxt
  by_cases h0 : d = 0
  · rw [if_pos h0]; exact ⟨_, rfl⟩
  · rw [if_neg h0, if_neg h]
    obtain ⟨f, mv, e1, e2⟩ := l.deed (by have := l.lo; omega)
    rw [e1]
    simp only
    rw [e2]
    exact ⟨_, rfl⟩
theorem nxt_goes {M : Mach} {th : Figs} {now : Int} {t : Thing} : nxt M th now (-1) t = none := by
  unfold nxt
  rw [if_neg (by decide), if_pos rfl]

theorem row_next {M : Mach} {th : Figs} {now d : Int} {t : Thing} {o : List Thing} (l : Lets M th d t) (r : Row th o) : Row (putT th t (nxt M th now d t)) (ordNext o d t) := by
  unfold ordNext
  by_cases h0 : d = 0
  · rw [if_pos h0]
    have hn : th t = none := l.come h0
    have hno : t ∉ o := fun z => by
      obtain ⟨f, e⟩ := (r.mem t).mp z
      rw [hn] at e; cases e
    refine ⟨?_, fun u => ?_⟩
    · rw [List.nodup_append]
      refine ⟨r.nd, by simp, fun a ha b hb => ?_⟩
      rw [List.mem_singleton] at hb
      subst hb
      intro e
      subst e
      exact hno ha
    · rw [List.mem_append, List.mem_singleton]
      unfold putT
      by_cases hu : u = t
      · rw [if_pos hu]
        refine ⟨fun _ => nxt_some l (by omega), fun _ => .inr hu⟩
      · rw [if_neg hu]
        refine ⟨fun z => (r.mem u).mp (z.resolve_right hu), fun z => .inl ((r.mem u).mpr z)⟩
  · rw [if_neg h0]
    by_cases h1 : d = -1
    · rw [if_pos h1]
      subst h1
      rw [nxt_goes]
      refine ⟨r.nd.filter _, fun u => ?_⟩
      rw [List.mem_filter]
      unfold putT
      by_cases hu : u = t
      · rw [if_pos hu]
        simp [hu]
      · rw [if_neg hu]
        simp [hu, r.mem u]
    · rw [if_neg h1]
      refine ⟨r.nd, fun u => ?_⟩
      unfold putT
      by_cases hu : u = t
      · rw [if_pos hu]
        refine ⟨fun _ => nxt_some l h1, fun _ => ?_⟩
        rw [hu]
        exact (r.mem t).mpr (l.there h0)
      · rw [if_neg hu]
        exact r.mem u

theorem row_at {M : Mach} {run : Run} (v : Valid M run) (S : Nat → Bool) : ∀ i, Row (thAt M run i) (ordAt M run S i).1
  | 0 => ⟨List.nodup_nil, fun t => by simp [ordAt, thAt]⟩
  | i + 1 => by
    have ih := row_at v S i
    cases e : run[i]? with
    | none =>
      have e1 : thAt M run (i + 1) = thAt M run i := by
        show (match run[i]? with | none => _ | some (d, t) => _) = _
        rw [e]
      have e2 : ordAt M run S (i + 1) = ordAt M run S i := by
        conv => lhs; unfold ordAt
        rw [e]
      rw [e1, e2]
      exact ih
    | some dt =>
      obtain ⟨d, t⟩ := dt
      have r := row_next (now := (i : Nat)) (v i d t e) ih
      rw [thAt_succ e]
      cases hs : S i with
      | true =>
        rw [ordAt_yes e hs]
        exact r.perm (srt_perm _ _)
      | false =>
        rw [ordAt_no e hs]
        exact r

theorem apart_at {M : Mach} (ok : M.Ok) {run : Run} (v : Valid M run) (i : Nat) {o : List Thing} (r : Row (thAt M run i) o) : Apart (pl M (thAt M run i)) o := by
  intro x hx y hy e
  obtain ⟨f, hf⟩ := (r.mem x).mp hx
  obtain ⟨g, hg⟩ := (r.mem y).mp hy
  rw [pl_some hf, pl_some hg] at e
  have F := figs_ok ok v i x f hf
  have G := figs_ok ok v i y g hg
  unfold place at e
  simp only [Prod.mk.injEq] at e
  have w := ok.way _ _ F.pt G.pt e.1
  have et : f.2.getD (standOf M f.1).2.2 0 = g.2.getD (standOf M g.1).2.2 0 := by
    have e2 := e.2
    rw [← w] at e2
    by_cases z : (standOf M f.1).2.1 = true
    · rw [if_pos z, if_pos z] at e2; omega
    · rw [if_neg z, if_neg z] at e2; exact e2
  obtain ⟨_, _, d1, h1⟩ := F.own _ (getD_mem (d := 0) (F.time ok))
  obtain ⟨_, _, d2, h2⟩ := G.own _ (getD_mem (d := 0) (G.time ok))
  rw [et, h2] at h1
  injection h1 with h3
  injection h3 with _ h4
  exact h4.symm

/-- with more stops never less -/
theorem ordAt_more {M : Mach} (ok : M.Ok) {run : Run} (v : Valid M run) {S S' : Nat → Bool} (hS : ∀ i, S i = true → S' i = true) :
    ∀ i, (ordAt M run S i).2 + inv (bef (ordAt M run S' i).1) (ordAt M run S i).1 ≤ (ordAt M run S' i).2
  | 0 => Nat.le_refl _
  | i + 1 => by
    have ih := ordAt_more ok v hS i
    cases e : run[i]? with
    | none =>
      have e2 : ∀ S, ordAt M run S (i + 1) = ordAt M run S i := fun S => by
        conv => lhs; unfold ordAt
        rw [e]
      rw [e2, e2]
      exact ih
    | some dt =>
      obtain ⟨d, t⟩ := dt
      have l := v i d t e
      have ra := row_at v S i
      have rb := row_at v S' i
      have pab := ra.perm_of rb
      have ra' := row_next (now := (i : Nat)) l ra
      have rb' := row_next (now := (i : Nat)) l rb
      have pab' := ra'.perm_of rb'
      rw [← thAt_succ e] at ra' rb'
      have h1 : inv (bef (ordNext (ordAt M run S' i).1 d t)) (ordNext (ordAt M run S i).1 d t) ≤ inv (bef (ordAt M run S' i).1) (ordAt M run S i).1 := by
        unfold ordNext
        by_cases h0 : d = 0
        · rw [if_pos h0, if_pos h0, inv_come pab]
          · exact Nat.le_refl _
          · intro z
            obtain ⟨f, ef⟩ := (ra.mem t).mp z
            rw [l.come h0] at ef; cases ef
        · rw [if_neg h0, if_neg h0]
          by_cases hm : d = -1
          · rw [if_pos hm, if_pos hm]
            exact inv_go t
          · rw [if_neg hm, if_neg hm]
            exact Nat.le_refl _
      generalize hA : ordNext (ordAt M run S i).1 d t = a at *
      generalize hB : ordNext (ordAt M run S' i).1 d t = b at *
      have ap := apart_at ok v (i + 1) rb'
      have sp := srt_perm (pl M (thAt M run (i + 1))) b
      have ss := srt_sorted ap rb'.nd
      have sn : (srt (pl M (thAt M run (i + 1))) b).Nodup := sp.nodup_iff.mpr rb'.nd
      have es : srt (pl M (thAt M run (i + 1))) a = srt (pl M (thAt M run (i + 1))) b :=
        (sorted_eq_srt (apart_at ok v (i + 1) ra') ra'.nd (sp.trans pab'.symm) ss).symm
      have t1 := tri (r := lt (pl M (thAt M run (i + 1)))) pab' ra'.nd (fun x => plt_irr _)
      have d1 : inv (bef (srt (pl M (thAt M run (i + 1))) b)) a = inv (lt (pl M (thAt M run (i + 1)))) a := inv_congr fun x hx y hy =>
        bef_sorted ss sn x (sp.mem_iff.mpr (pab'.mem_iff.mp hx)) y (sp.mem_iff.mpr (pab'.mem_iff.mp hy))
      cases hs : S i with
      | true =>
        rw [ordAt_yes e hs, ordAt_yes e (hS i hs), hA, hB, es]
        simp only
        rw [inv_bef_self sn]
        omega
      | false =>
        rw [ordAt_no e hs, hA]
        cases hs' : S' i with
        | true =>
          rw [ordAt_yes e hs', hB]
          simp only
          rw [d1]
          omega
        | false =>
          rw [ordAt_no e hs', hB]
          simp only
          omega

theorem turns_more {M : Mach} (ok : M.Ok) {run : Run} (v : Valid M run) {S S' : Nat → Bool} (hS : ∀ i, S i = true → S' i = true) : turns M run S ≤ turns M run S' := by
  have h := ordAt_more ok v hS run.length
  have ra := row_at v S run.length
  have rb := row_at v S' run.length
  have t := tri (r := lt (pl M (thAt M run run.length))) (ra.perm_of rb) ra.nd (fun x => plt_irr _)
  unfold turns
  omega

theorem ord_len {M : Mach} {run : Run} {S : Nat → Bool} : ∀ i, (ordAt M run S i).1.length ≤ i ∧ (ordAt M run S i).2 ≤ i * (i * i)
  | 0 => ⟨Nat.le_refl _, Nat.le_refl _⟩
  | i + 1 => by
    obtain ⟨h1, h2⟩ := ord_len (M := M) (run := run) (S := S) i
    have hm : i * (i * i) + (i + 1) * (i + 1) ≤ (i + 1) * ((i + 1) * (i + 1)) := by
      have q : i * (i * i) ≤ i * ((i + 1) * (i + 1)) := Nat.mul_le_mul_left _ (Nat.mul_le_mul (Nat.le_succ i) (Nat.le_succ i))
      rw [Nat.add_mul i 1 ((i + 1) * (i + 1))]
      omega
    cases e : run[i]? with
    | none =>
      have e2 : ordAt M run S (i + 1) = ordAt M run S i := by
        conv => lhs; unfold ordAt
        rw [e]
      rw [e2]
      exact ⟨by omega, by omega⟩
    | some dt =>
      obtain ⟨d, t⟩ := dt
      have hl : (ordNext (ordAt M run S i).1 d t).length ≤ i + 1 := by
        unfold ordNext
        split
        · rw [List.length_append, List.length_singleton]; omega
        · split
          · have := List.length_filter_le (fun x => decide (x ≠ t)) (ordAt M run S i).1
            omega
          · omega
      have hi := inv_le (lt (pl M (thAt M run (i + 1)))) (ordNext (ordAt M run S i).1 d t)
      have hq : (ordNext (ordAt M run S i).1 d t).length * (ordNext (ordAt M run S i).1 d t).length ≤ (i + 1) * (i + 1) := Nat.mul_le_mul hl hl
      cases hs : S i with
      | true =>
        rw [ordAt_yes e hs]
        refine ⟨?_, ?_⟩
        · simp only
          rw [(srt_perm _ _).length_eq]
          exact hl
        · simp only
          omega
      | false =>
        rw [ordAt_no e hs]
        exact ⟨hl, by simp only; omega⟩
theorem turns_le {M : Mach} {run : Run} {S : Nat → Bool} (h : run.length ≤ 20) : turns M run S ≤ 10000 := by
  obtain ⟨h1, h2⟩ := ord_len (M := M) (run := run) (S := S) run.length
  have hi := inv_le (lt (pl M (thAt M run run.length))) (ordAt M run S run.length).1
  have hq : (ordAt M run S run.length).1.length * (ordAt M run S run.length).1.length ≤ 20 * 20 := Nat.mul_le_mul (by omega) (by omega)
  have hr : run.length * (run.length * run.length) ≤ 20 * (20 * 20) := Nat.mul_le_mul h (Nat.mul_le_mul h h)
  unfold turns
  omega
end Own

namespace Own
open PySem PySem.Spec PyProof.Rows L2

/-! ### 7. what never changes: data in tuples -/
mutual
inductive Im (H : Hp) : V → PyData → Prop
  | non : Im H .non .none
  | bl (b : Bool) : Im H (.bl b) (.bool b)
  | int (i : Int) : Im H (.int i) (.int i)
  | str (x : Str) : Im H (.str x) (.str x)
  | tup {a : Addr} {xs : List V} {ds : List PyData} : H a = some (.tup xs) → ImAll H xs ds → Im H (.ref a) (.tuple ds)
inductive ImAll (H : Hp) : List V → List PyData → Prop
  | nil : ImAll H [] []
  | cons {v : V} {vs : List V} {d : PyData} {ds : List PyData} : Im H v d → ImAll H vs ds → ImAll H (v :: vs) (d :: ds)
end
/-- the tuples of H stand in H' -/
def TK (H H' : Hp) : Prop := ∀ a xs, H a = some (.tup xs) → H' a = some (.tup xs)
theorem TK.refl (H : Hp) : TK H H := fun _ _ h => h
theorem TK.trans {H H1 H2 : Hp} (a : TK H H1) (b : TK H1 H2) : TK H H2 := fun x o h => b x o (a x o h)
mutual
theorem Im.tk {H H' : Hp} (k : TK H H') : ∀ {v : V} {d : PyData}, Im H v d → Im H' v d
  | _, _, .non => .non
  | _, _, .bl b => .bl b
  | _, _, .int i => .int i
  | _, _, .str x => .str x
  | _, _, .tup h r => .tup (k _ _ h) (ImAll.tk k r)
theorem ImAll.tk {H H' : Hp} (k : TK H H') : ∀ {vs : List V} {ds : List PyData}, ImAll H vs ds → ImAll H' vs ds
  | _, _, .nil => .nil
  | _, _, .cons h r => .cons (Im.tk k h) (ImAll.tk k r)
end
mutual
theorem Im.dp {K : PySem.W.Frag} {H : Hp} : ∀ {v : V} {d : PyData}, Im H v d → Dp K H v d
  | _, _, .non => .non
  | _, _, .bl b => .bl b
  | _, _, .int i => .int i
  | _, _, .str x => .str x
  | _, _, .tup h r => .tup (SqT.of h) (ImAll.dp r)
theorem ImAll.dp {K : PySem.W.Frag} {H : Hp} : ∀ {vs : List V} {ds : List PyData}, ImAll H vs ds → DpAll K H vs ds
  | _, _, .nil => .nil
  | _, _, .cons h r => .cons (Im.dp h) (ImAll.dp r)
end
section
variable {H : Hp}
theorem Im.int_eq {v : V} {i : Int} (h : Im H v (.int i)) : v = .int i := by cases h; rfl
theorem Im.str_eq {v : V} {i : Str} (h : Im H v (.str i)) : v = .str i := by cases h; rfl
theorem Im.non_eq {v : V} (h : Im H v .none) : v = .non := by cases h; rfl
theorem Im.inv {v : V} {ds : List PyData} (h : Im H v (.tuple ds)) : ∃ a xs, v = .ref a ∧ H a = some (.tup xs) ∧ ImAll H xs ds := by
  cases h with
  | tup h r => exact ⟨_, _, rfl, h, r⟩
theorem ImAll.len : ∀ {vs : List V} {ds : List PyData}, ImAll H vs ds → vs.length = ds.length
  | _, _, .nil => rfl
  | _, _, .cons _ r => congrArg (· + 1) r.len
theorem ImAll.get : ∀ {vs : List V} {ds : List PyData} {i : Nat} {d : PyData}, ImAll H vs ds → ds[i]? = some d → ∃ v, vs[i]? = some v ∧ Im H v d
  | _, _, i, d, .nil, h => by simp at h
  | _, _, 0, d, .cons h r, e => by
    simp at e
    subst e
    exact ⟨_, rfl, h⟩
  | _, _, i + 1, d, .cons h r, e => by
    simp at e
    obtain ⟨v, h1, h2⟩ := ImAll.get r e
    exact ⟨v, by simpa using h1, h2⟩
theorem ImAll.get' : ∀ {vs : List V} {ds : List PyData} {i : Nat} {v : V}, ImAll H vs ds → vs[i]? = some v → ∃ d, ds[i]? = some d ∧ Im H v d
  | _, _, i, d, .nil, h => by simp at h
  | _, _, 0, d, .cons h r, e => by
    simp at e
    subst e
    exact ⟨_, rfl, h⟩
  | _, _, i + 1, d, .cons h r, e => by
    simp at e
    obtain ⟨v, h1, h2⟩ := ImAll.get' r e
    exact ⟨v, by simpa using h1, h2⟩
theorem ImAll.snoc : ∀ {vs : List V} {ds : List PyData} {v : V} {d : PyData}, ImAll H vs ds → Im H v d → ImAll H (vs ++ [v]) (ds ++ [d])
  | _, _, _, _, .nil, h => .cons h .nil
  | _, _, _, _, .cons a r, h => .cons a (ImAll.snoc r h)
theorem ImAll.app : ∀ {vs us : List V} {ds es : List PyData}, ImAll H vs ds → ImAll H us es → ImAll H (vs ++ us) (ds ++ es)
  | _, _, _, _, .nil, h => h
  | _, _, _, _, .cons a r, h => .cons a (ImAll.app r h)
theorem ImAll.ints : ∀ ns : List Int, ImAll H (ns.map V.int) (ns.map PyData.int)
  | [] => .nil
  | n :: ns => .cons (.int n) (ImAll.ints ns)
theorem ImAll.ints_eq : ∀ {ns : List Int} {vs : List V}, ImAll H vs (ns.map PyData.int) → vs = ns.map V.int
  | [], vs, h => by cases h; rfl
  | n :: ns, vs, h => by
    rw [List.map_cons] at h
    cases h with
    | cons a r => rw [a.int_eq, ImAll.ints_eq r]; rfl
theorem ImAll.set : ∀ {vs : List V} {ds : List PyData} {v : V} {d : PyData} (i : Nat), ImAll H vs ds → Im H v d → ImAll H (vs.set i v) (ds.set i d)
  | _, _, _, _, _, .nil, _ => .nil
  | _, _, _, _, 0, .cons _ r, h => .cons h r
  | _, _, _, _, i + 1, .cons a r, h => .cons a (ImAll.set i r h)
theorem ImAll.take : ∀ {vs : List V} {ds : List PyData} (i : Nat), ImAll H vs ds → ImAll H (vs.take i) (ds.take i)
  | _, _, 0, _ => .nil
  | _, _, _ + 1, .nil => .nil
  | _, _, i + 1, .cons a r => .cons a (ImAll.take i r)
theorem ImAll.drop : ∀ {vs : List V} {ds : List PyData} (i : Nat), ImAll H vs ds → ImAll H (vs.drop i) (ds.drop i)
  | _, _, 0, r => r
  | _, _, _ + 1, .nil => .nil
  | _, _, i + 1, .cons a r => ImAll.drop i r
theorem ImAll.eraseIdx : ∀ {vs : List V} {ds : List PyData} (i : Nat), ImAll H vs ds → ImAll H (vs.eraseIdx i) (ds.eraseIdx i)
  | _, _, _, .nil => .nil
  | _, _, 0, .cons a r => r
  | _, _, i + 1, .cons a r => .cons a (ImAll.eraseIdx i r)
theorem ImAll.mem : ∀ {vs : List V} {ds : List PyData} {v : V}, ImAll H vs ds → v ∈ vs → ∃ d, d ∈ ds ∧ Im H v d := fun {vs ds v} h hv => by
  obtain ⟨i, hi, e⟩ := List.getElem_of_mem hv
  obtain ⟨d, h1, h2⟩ := h.get' (i := i) (v := v) (by rw [List.getElem?_eq_getElem hi, e])
  exact ⟨d, List.mem_of_getElem? h1, h2⟩
/-- t[j] -/
theorem ixT {K : PySem.W.Frag} {x : V} {i : Int} {ds : List PyData} {d : PyData} {Q : VK} (j : Nat) (hi : i = (j : Int)) (h : Im H x (.tuple ds)) (hd : ds[j]? = some d) (k : ∀ v, Im H v d → Q v H) : rIxT K x (.int i) H Q := by
  obtain ⟨a, xs, rfl, ha, r⟩ := h.inv
  obtain ⟨v, h1, h2⟩ := r.get hd
  subst hi
  exact ⟨a, xs, _, v, rfl, rfl, SqT.of ha, atI_nat h1, k v h2⟩
/-- t[j], j written -/
theorem ixC {K : PySem.W.Frag} {σ : L2.St} {x : V} {i : Int} {ds : List PyData} {d : PyData} {Q : VK} (j : Nat) (hi : i = (j : Int)) (h : Im H x (.tuple ds)) (hd : ds[j]? = some d) (k : ∀ v, Im H v d → Q v H) : tC (.int i) σ H (fun y H2 => rIxT K x y H2 Q) :=
  ixT j hi h hd k
/-- l[j], a list of data -/
def LsD (H : Hp) (a : Addr) (ds : List PyData) : Prop := ∃ vs, H a = some (.lst vs) ∧ ImAll H vs ds
theorem ixL {K : PySem.W.Frag} {a : Addr} {i : Int} {ds : List PyData} {d : PyData} {Q : VK} (j : Nat) (hi : i = (j : Int)) (h : LsD H a ds) (hd : ds[j]? = some d) (k : ∀ v, Im H v d → Q v H) : rIxL K (.ref a) (.int i) H Q := by
  obtain ⟨xs, ha, r⟩ := h
  obtain ⟨v, h1, h2⟩ := r.get hd
  subst hi
  exact ⟨a, xs, _, v, rfl, rfl, SqL.of ha, atI_nat h1, k v h2⟩
theorem ixLC {K : PySem.W.Frag} {σ : L2.St} {a : Addr} {i : Int} {ds : List PyData} {d : PyData} {Q : VK} (j : Nat) (hi : i = (j : Int)) (h : LsD H a ds) (hd : ds[j]? = some d) (k : ∀ v, Im H v d → Q v H) : tC (.int i) σ H (fun y H2 => rIxL K (.ref a) y H2 Q) :=
  ixL j hi h hd k
theorem LsD.keep {H' : Hp} {a : Addr} {ds : List PyData} (h : LsD H a ds) (e : ∀ o, H a = some o → H' a = some o) (t : TK H H') : LsD H' a ds := by
  obtain ⟨vs, h1, h2⟩ := h
  exact ⟨vs, e _ h1, h2.tk t⟩
theorem Same.tk {H H' : Hp} (s : Same H H') : TK H H' := fun a xs h => s a _ h
theorem LsD.same {H' : Hp} {a : Addr} {ds : List PyData} (h : LsD H a ds) (s : Same H H') : LsD H' a ds := h.keep (fun o e => s a o e) (Same.tk s)
theorem tk_upd {p : Addr} {o : HO} (h : ∀ xs, H p ≠ some (.tup xs)) : TK H (upd H p o) := fun a xs e => by
  by_cases q : a = p
  · subst q
    exact absurd e (h xs)
  · rw [upd_ne q]
    exact e
theorem tk_new {p : Addr} {o : HO} (h : H p = none) : TK H (upd H p o) := tk_upd fun xs e => by rw [h] at e; cases e
theorem same_new {p : Addr} {o : HO} (h : H p = none) : Same H (upd H p o) := fun b x e => by
  rw [upd_ne (ne_of_none e h)]
  exact e
end

/-! ### 8. a def of the text, to be called -/
structure Callee (P : Program) (w : World) (K : PySem.W.Frag) (mg : Str → Option Value) (base : Heap) (x : Str) (k : Nat) (ps : List Str) (sp : Sp) : Prop where
  ex : ∃ f fd, FnOk P w K mg base CX0 k f fd ps sp ∧ mg x = some (.ref f) ∧ PySem.W.keepIn K (.ref f) = true ∧ Binds K fd ps []
structure CalleeM (P : Program) (w : World) (K : PySem.W.Frag) (mg : Str → Option Value) (base : Heap) (C : Addr) (m : Str) (k : Nat) (ps : List Str) (sp : Sp) : Prop where
  ex : ∃ f fd, FnOk P w K mg base CX0 k f fd ps sp ∧ Meth K C m f ∧ Binds K fd ps []
section
variable {X : Cx} {x : Str} {k : Nat} {ps : List Str} {sp : Sp} {e o : Expr} {es : List Expr} {t : TA} {p pos apos : Pos} {ta : TE} {C : Addr} {m : Str}
theorem pe_own (c : Callee X.prog X.w X.K X.mg X.base x k ps sp) (hr : Room k X.A) (hg : Gl X x) (ha : PA X (e :: es) t) (hdb : (x == ("__debug__" : Str)) = false := by decide)
    (he : starEach (e :: es) X.env = (false, eval e X.env) :: starEach es X.env := by rfl) (hpl : (backTo pos (starEach es X.env)).any (·.1) = false := by rfl) : PE X (.Call (.Name x p) (e :: es) [] pos) (tCall sp [] E0 t) := by
  obtain ⟨f, fd, F, hm, hk, hb⟩ := c.ex
  exact pe_call F hr hg hm hk hb .nil pass0 ha hdb he hpl
theorem pe_ownM {pl : Sem Bool} (he : PE X o ta) (cl : Cls X.K C) (c : CalleeM X.prog X.w X.K X.mg X.base C m k ps sp) (hr : Room k X.A) (ha : PA X (e :: es) t)
    (hst : starEach (e :: es) X.env = (false, eval e X.env) :: starEach es X.env := by rfl) (hpl : (backTo pos (starEach es X.env)).any (·.1) = false := by rfl)
    (ht : eval (.Call (.Attribute o m apos) (e :: es) [] pos) X.env = (do
      let ov ← eval o X.env
      standAt apos.atName
      let (f, first) ← holding [ov] (getMethod ov m pl)
      callWith pos f first (backTo pos (starEach (e :: es) X.env)) (backToKw pos (keywordEach [] X.env))) := by rfl) :
    PE X (.Call (.Attribute o m apos) (e :: es) [] pos) (tMeth C m sp [] E0 ta t) := by
  obtain ⟨f, fd, F, hm, hb⟩ := c.ex
  exact pe_meth he cl hm F hr hb .nil pass0 ha hst hpl ht
theorem pe_ownM0 {pl : Sem Bool} (he : PE X o ta) (cl : Cls X.K C) (c : CalleeM X.prog X.w X.K X.mg X.base C m k ps sp) (hr : Room k X.A)
    (ht : eval (.Call (.Attribute o m apos) [] [] pos) X.env = (do
      let ov ← eval o X.env
      standAt apos.atName
      let (f, first) ← holding [ov] (getMethod ov m pl)
      callWith pos f first (backTo pos (starEach [] X.env)) (backToKw pos (keywordEach [] X.env))) := by rfl) :
    PE X (.Call (.Attribute o m apos) [] [] pos) (tMeth C m sp [] E0 ta tNil) := by
  obtain ⟨f, fd, F, hm, hb⟩ := c.ex
  exact pe_meth0 he cl hm F hr hb .nil pass0 ht
end

/-! ### 9. rules of my own -/
section
variable {X : Cx}
/-- xs[i] op= e: the item read -/
def rGetL : V → V → Hp → VK → Prop := fun o i H Q => ∃ l xs k v, o = .ref l ∧ i = .int k ∧ H l = some (.lst xs) ∧ 0 ≤ k ∧ k < 2 ^ 63 ∧ xs[k.toNat]? = some v ∧ Q v H
theorem get_list : PGet X rGetL := by
  intro pins s σ H o i ov iv Q I ro ri h
  obtain ⟨l, xs, k, v, rfl, rfl, hl, h0, h1, hv, q⟩ := h
  cases ro
  obtain ⟨t, rfl⟩ := ri
  obtain ⟨its, r, pl, hz⟩ := I.list (SqL.of hl)
  obtain ⟨u, eu, ru⟩ := r.get hv
  exact wpAny_getItem_list pl.isList h0 h1 (by simpa using eu) ⟨v, H, I, ru, q⟩

/-- xs[a:c] = ys as a target -/
def gSubS (to tl th : TE) : TG := fun v σ H Q => to σ H fun o H1 => tl σ H1 fun lo H2 => th σ H2 fun hi H3 => ∃ l b xs ys a c, o = .ref l ∧ v = .ref b ∧ lo = .int a ∧ hi = .int c ∧
  H3 l = some (.lst xs) ∧ H3 b = some (.lst ys) ∧ l ≠ b ∧ 0 ≤ a ∧ a ≤ c ∧ c ≤ xs.length ∧ xs.length + ys.length ≤ sizeLine ∧ Q σ (upd H3 l (.lst (xs.take a.toNat ++ ys ++ xs.drop c.toNat)))
theorem pg_subS {o lo hi : Expr} {to tl th : TE} {p2 pos : Pos} (ho : PE X o to) (hl : PE X lo tl) (hh : PE X hi th) : PG X (.Subscript o (.Slice (some lo) (some hi) none p2) pos) (gSubS to tl th) := by
  refine ⟨fun pins s σ H v u Q I r h => ?_⟩
  have ha : assign (.Subscript o (.Slice (some lo) (some hi) none p2) pos) X.env u = (do
      let ov ← holding [u] (eval o X.env)
      let iv ← holding [u, ov] (eval (.Slice (some lo) (some hi) none p2) X.env)
      standAt pos
      holding [u, ov, iv] (setItem ov iv u)
      release [iv, u, ov] []) := rfl
  rw [ha]
  refine wpAny_bind (wpAny_holding (thn (ho.run pins s σ H _ I h) fun ov s1 ⟨x, H1, I1, r1, q1⟩ => ?_))
  refine wpAny_bind (wpAny_holding (wpAny_Slice ?_))
  rw [evalPart_some]
  refine thn (hl.run pins s1 σ H1 _ I1 q1) fun vl s2 ⟨y, H2, I2, r2, q2⟩ => ?_
  rw [evalPart_some]
  refine thn (hh.run pins s2 σ H2 _ I2 q2) fun vu s3 ⟨z, H3, I3, r3, q3⟩ => ?_
  obtain ⟨l, b, xs, ys, a, c, rfl, rfl, rfl, rfl, h1, h2, hne, h0, hac, hc, hz, q⟩ := q3
  rw [evalPart_none]
  refine wpAny_pure ?_
  have I4 : Inv X pins σ H3 { s3 with heap := s3.heap.push { cls := .type "slice", data := .fields #[vl, vu, .none] } } := I3.kept (t' := s3.toks) fun b ob q => Heap.get?_push_of_some _ q
  cases (show ov = Value.ref l from r1)
  cases (show u = Value.ref b from r)
  refine wpAny_bind (wpAny_standAt (wpAny_bind (wpAny_holding ?_)))
  refine set_slice I4 h1 h2 hne (Heap.IsSliceOf.new ..) r2 r3 h0 hac hc hz fun s' I5 => ?_
  exact wpAny_release ⟨σ, _, I5, q⟩

/-- l.remove(x), x a thing in l by == -/
def rRemD (K : PySem.W.Frag) : V → List V → Hp → VK → Prop := fun x vs H Q => ∃ (l : Addr) (xs : List V) (y : V) (d : PyData) (ds : List PyData) (j : Nat), x = .ref l ∧ vs = [y] ∧ H l = some (.lst xs) ∧ DpAll K H xs ds ∧ Dp K H y d ∧
  SeqAt.shaped (.list ds) = true ∧ SeqAt.shaped d = true ∧ SeqAt.dataPlace ds d = some j ∧ Q .non (upd H l (.lst (xs.eraseIdx j)))
theorem mt_removeD (hu : X.A.units + 65 < cLine) : MtR X "list.remove" (rRemD X.K) := by
  intro pins s σ H x vs v us Q I rx rxs h
  obtain ⟨l, xs, y, d, ds, j, rfl, rfl, hH, hl, hy, sl, sd, hp, q⟩ := h
  cases rx
  obtain ⟨u, rfl, ru⟩ := rxs.one
  obtain ⟨z, its, n, r, hln, e⟩ := I.lstM hH
  obtain ⟨bs, r1⟩ := Dp.reads I d y u hy ru
  obtain ⟨as, h4⟩ := Dp.readsAll I ds _ its hl r
  have hxs : PyData.canLayAll0 ds = true := SeqAt.canLay_of_shaped sl
  have hroom : X.A.units + 1 + min (PyData.depthAll ds) d.depth < cLine := room_in_shaped sd hu
  refine SeqAt.remove_list_data (vs := its.toArray) (xs := ds) (d := d) ⟨_, e, rfl, n, rfl⟩ (by simpa using h4) r1 (PyData.plainAll_of_canLay0 ds hxs) (PyData.plain_of_canLay0 d (SeqAt.canLay_of_shaped sd)) hroom hp (by rw [List.size_toArray, ← hln]; exact z) ?_
  refine ⟨.non, _, I.lset (its' := its.eraseIdx j) (t' := s.toks) hH e (by rw [List.eraseIdxIfInBounds_toArray]) (r.eraseIdx j) ?_, rfl, q⟩
  have := len_erase xs j
  omega
end

/-! ### 10. dicts whose keys are tuples: pop(k), an empty one from dict([]) -/
section
variable {κ : Type} [DecidableEq κ] {prog : Program} {w : World} {knd : HeapKind prog w κ}
theorem meetsPop1 {d b : Addr} {k : κ} (hd : (d == sysModules) = false) :
    MeetsIn prog w (Builtin.«dict.pop» ⟨[.ref d, .ref b], []⟩) (fun A R s => ∃ xs p, knd.room A.in1 ∧ knd.is s.heap k b ∧ s.heap.DictOfH knd d xs ∧ xs.length ≤ sizeLine ∧ atKey xs k = some p ∧
      ∀ h' tk, h'.DictOfH knd d (DT.dropH xs k) → Heap.SameBut d s.heap h' → R (.ok (.ret p.2)) { s with heap := h', toks := tk }) :=
  .of_wp fun A R s ⟨xs, p, hu, hkey, hm, hsz, hp0, hsome⟩ => by
    obtain ⟨o, es, ep, ho, hc, hdat, he, his, hn⟩ := id hm
    have hes : es.size = xs.length := size_of_entries he
    have hpart : (keyPart (Value.ref b)).isSome = false := rfl
    unfold Builtin.«dict.pop»
    refine wpAny_bind ?_
    unfold Builtin.Dict.keyAndDefault
    refine wpAny_bind (wpAny_notOrdered_dict hm.typeIs ?_)
    show wpAny _ _ (pure (d, Value.ref b, none)) _ _ s
    refine wpAny_pure ?_
    simp only [hpart, Bool.false_eq_true, if_false]
    refine wpAny_bind (wpAny_dictEntries ho hdat (wpAny_bind (wpAny_pure ?_)))
    cases hem : es.isEmpty with
    | true =>
      have h0 : xs = [] := by
        have z : es.size = 0 := by simpa using hem
        exact List.length_eq_zero_iff.mp (by omega)
      rw [h0] at hp0
      cases hp0
    | false =>
      simp only [Bool.false_eq_true, if_false]
      refine wpAny_bind (DT.takeH hu hkey hm hsz (fun hno => ?_) fun p' e hp hev h' hm' hs' => ?_)
      · rw [hno] at hp0
        cases hp0
      · rw [hp0] at hp
        cases hp
        simp only [Option.isNone_some, Bool.false_eq_true, if_false]
        exact wpAny_bind (wpAny_letGo (wpAny_pure ⟨e.val, rfl, by rw [hev]; exact hsome h' _ hm' hs'⟩))
end
section
variable {X : Cx}
def rPop1T : V → List V → Hp → VK → Prop := fun x xs H Q => ∃ (a : Addr) (kvs : List (List L2.Key × V)) (k : List L2.Key) (b : Addr) (v : V), x = .ref a ∧ xs = [.ref b] ∧ H a = some (.dT kvs) ∧ H b = some (.tup (k.map kV)) ∧
  valV kvs k = some v ∧ Q v (upd H a (.dT (dropK kvs k)))
theorem mt_pop1T (hu : X.A.units + 1 < cLine) : MtR X "dict.pop" rPop1T := by
  intro pins s σ H x xs v us Q I rx rxs h
  obtain ⟨a, kvs, k, b, v0, rfl, rfl, ha, hb, ev, q⟩ := h
  cases rx
  obtain ⟨u1, rfl, r1⟩ := vals1 rxs
  cases r1
  obtain ⟨z, hd, xs', rel, dd⟩ := dt_of I.hok ha
  have hz : xs'.length ≤ sizeLine := by rw [← Paired.length rel]; exact z
  have r := rel.val k
  rw [ev] at r
  obtain ⟨p, hp, rv⟩ : ∃ p, atKey xs' k = some p ∧ RelV v0 p.2 := by
    cases e : atKey xs' k with
    | none =>
      rw [e] at r
      exact (show False from r).elim
    | some p =>
      rw [e] at r
      exact ⟨p, rfl, r⟩
  refine call_meetsIn PySem.F.slot_dict_pop dd.typeIs PySem.F.entry_dict_pop (PySem.F.args_dict_pop_2 _ _) (meetsPop1 (knd := tupleKind (mixKind X.prog X.w)) (k := k) hd)
    ⟨xs', p, tupleKind_room_in1 hu, key_of I.hok hb, dd, hz, hp, fun h' tk dd' hs => ?_⟩
  obtain ⟨o, es, ep, hq, h2, h3, h4, _, h5⟩ := dd'
  have I2 : Inv X pins σ (upd H a (.dT (dropK kvs k))) { s with heap := h', toks := tk } :=
    d_write I (by rw [ha]; exact True.intro) hs ⟨o, hq⟩ ⟨Nat.le_trans (dropK_le kvs k) z, hd, _, (L2.DX.KT_drop k rel).keeps (fun c ys ec => (by rw [upd_ne (ne_of ec ha (fun z => nomatch z))]; exact ec)), o, es, ep, hq, h2, h3, h4, h5⟩
  show EP X pins σ Q p.2 _
  exact ⟨v0, _, I2, rv, q⟩

/-- an empty dict is one with tuple keys as well -/
theorem Inv.retag {pins : List (Addr × Obj)} {σ : L2.St} {H : Hp} {s : Shared} {a : Addr} (I : Inv X pins σ H s) (h : H a = some (.dK [])) : Inv X pins σ (upd H a (.dT [])) s := by
  obtain ⟨z, hd, vs, rel, o, es, ep, ho, hx, hdat, _, r, _⟩ := I.hok a _ h
  cases rel
  have he : es.toList = [] := by
    cases e : es.toList with
    | nil => rfl
    | cons y ys =>
      rw [e] at r
      exact nomatch r
  refine I.write (t' := s.toks) (h' := s.heap) (x := a) (e := a) (by rw [h]; trivial) (.inl rfl) (fun _ _ _ q => q) ⟨o, ho⟩ ?_
  exact ⟨Nat.zero_le _, hd, [], .nil, o, es, ep, ho, hx, hdat, by simpa using he, List.nodup_nil⟩
def tRetag (t : TS) : TS := fun D σ H => t { D with nx := fun σ' H' => ∃ a, H' a = some (.dK []) ∧ D.nx σ' (upd H' a (.dT [])) } σ H
theorem ps_retag {st : Stmt} {t : TS} (h : PS X st t) : PS X st (tRetag t) := by
  refine ⟨fun pins s σ H D I hw => ?_⟩
  refine thn (h.run pins s σ H _ I hw) fun f s1 q => ?_
  cases f with
  | next =>
    obtain ⟨σ', H', I', a, ha, q⟩ := q
    exact ⟨σ', _, Inv.retag I' ha, q⟩
  | ret u => exact q
  | brk => exact q
  | cont => exact q
end
end Own

namespace Own
open PySem PySem.Spec PyProof.Rows L2

/-! ### 11. the data as the program lays them -/
def dTh (t : Thing) : PyData := .tuple [.int t.1, .int t.2]
def dNs (ns : List Int) : PyData := .tuple (ns.map PyData.int)
def dFig (f : Fig) : PyData := .tuple [.int (f.1 : Nat), dNs f.2]
def wayStr (b : Bool) : Str := if b = true then "later" else "earlier"
def dStand (s : Stand) : PyData := .tuple [.int s.1, .str (wayStr s.2.1), .int (s.2.2 : Nat)]
def dPt (p : Pt) : PyData := .tuple [.tuple (p.1.map dStand), .int (p.2 : Nat), .tuple []]
def dMv : Mv → PyData
  | none => .none
  | some m => .tuple [.int (m.1 : Nat), dNs m.2]
def dMvs (l : List Mv) : PyData := .tuple (l.map dMv)
def dBeg (l : List Nat) : PyData := dNs (l.map fun n : Nat => (n : Int))
def dMach (M : Mach) : PyData := .tuple [dBeg M.begins, .tuple (M.points.map dPt), .tuple (M.moves.map dMvs)]
def dRn (r : Int × Thing) : PyData := .tuple [.int r.1, dTh r.2]
def keyOf (t : Thing) : List L2.Key := [.inl t.1, .inl t.2]
theorem keyOf_inj {t u : Thing} (h : keyOf t = keyOf u) : t = u := by
  unfold keyOf at h
  simp only [List.cons.injEq, Sum.inl.injEq, and_true] at h
  exact Prod.ext h.1 h.2
theorem Im.th {H : Hp} {v : V} {t : Thing} (h : Im H v (dTh t)) : ∃ a, v = .ref a ∧ H a = some (.tup [.int t.1, .int t.2]) := by
  obtain ⟨a, xs, rfl, ha, r⟩ := h.inv
  have e := ImAll.ints_eq (ns := [t.1, t.2]) r
  subst e
  exact ⟨a, rfl, ha⟩
theorem im_th {H : Hp} {a : Addr} {i j : Int} (h : H a = some (.tup [.int i, .int j])) : Im H (.ref a) (dTh (i, j)) := .tup h (.cons (.int _) (.cons (.int _) .nil))
theorem Im.ns {H : Hp} {v : V} {ns : List Int} (h : Im H v (dNs ns)) : ∃ a, v = .ref a ∧ H a = some (.tup (ns.map V.int)) := by
  obtain ⟨a, xs, rfl, ha, r⟩ := h.inv
  rw [ImAll.ints_eq r] at ha
  exact ⟨a, rfl, ha⟩
theorem im_ns {H : Hp} {a : Addr} {ns : List Int} (h : H a = some (.tup (ns.map V.int))) : Im H (.ref a) (dNs ns) := .tup h (ImAll.ints _)
theorem im2 {H : Hp} {a : Addr} {x y : V} {d e : PyData} (h : H a = some (.tup [x, y])) (h1 : Im H x d) (h2 : Im H y e) : Im H (.ref a) (.tuple [d, e]) := .tup h (.cons h1 (.cons h2 .nil))
theorem im3 {H : Hp} {a : Addr} {x y z : V} {d e f : PyData} (h : H a = some (.tup [x, y, z])) (h1 : Im H x d) (h2 : Im H y e) (h3 : Im H z f) : Im H (.ref a) (.tuple [d, e, f]) := .tup h (.cons h1 (.cons h2 (.cons h3 .nil)))

/-! machines: what stands where -/
theorem pts_at {M : Mach} {p : Nat} (h : p < M.points.length) : (M.points.map dPt)[p]? = some (dPt (M.points.getD p ([], 0))) := by
  rw [List.getElem?_map, List.getElem?_eq_getElem h, List.getD_eq_getElem?_getD, List.getElem?_eq_getElem h]
  rfl
theorem std_at {M : Mach} (ok : M.Ok) {p : Nat} (h : p < M.points.length) : ((M.points.getD p ([], 0)).1.map dStand)[0]? = some (dStand (standOf M p)) := by
  have hr := ok.row p h
  unfold standOf
  generalize M.points.getD p ([], 0) = q at *
  rw [List.getElem?_map, List.getElem?_eq_getElem (show 0 < q.1.length by omega), List.getD_eq_getElem?_getD, List.getElem?_eq_getElem (show 0 < q.1.length by omega)]
  rfl
theorem mvs_at {M : Mach} (ok : M.Ok) {p : Nat} (h : p < M.points.length) : (M.moves.map dMvs)[p]? = some (dMvs (M.moves.getD p [])) ∧ (M.moves.getD p []).length = deedsOf M := by
  have hm : p < M.moves.length := by rw [ok.mn]; exact h
  refine ⟨?_, ok.md _ (getD_mem hm)⟩
  rw [List.getElem?_map, List.getElem?_eq_getElem hm, List.getD_eq_getElem?_getD, List.getElem?_eq_getElem hm]
  rfl
theorem mv_at {M : Mach} {p d : Nat} (h : d < (M.moves.getD p []).length) : ((M.moves.getD p []).map dMv)[d]? = some (dMv (mvAt M p d)) := by
  unfold mvAt
  generalize M.moves.getD p [] = l at *
  rw [List.getElem?_map, List.getElem?_eq_getElem h, List.getD_eq_getElem?_getD, List.getElem?_eq_getElem h]
  rfl
theorem beg_at {M : Mach} {k : Nat} (h : k < M.begins.length) : ((M.begins.map fun n : Nat => (n : Int)).map PyData.int)[k]? = some (.int ((M.begins.getD k 0 : Nat) : Int)) := by
  rw [List.getElem?_map, List.getElem?_map, List.getElem?_eq_getElem h, List.getD_eq_getElem?_getD, List.getElem?_eq_getElem h]
  rfl
theorem ns_at {ns : List Int} {k : Nat} (h : k < ns.length) : (ns.map PyData.int)[k]? = some (.int (ns.getD k 0)) := by
  rw [List.getElem?_map, List.getElem?_eq_getElem h, List.getD_eq_getElem?_getD, List.getElem?_eq_getElem h]
  rfl
/-- a figure that fits a machine -/
def FigW (M : Mach) (f : Fig) : Prop := f.1 < M.points.length ∧ f.2.length = liveOf M f.1
theorem FigOk.w {M : Mach} {run : Run} {i : Nat} {t : Thing} {f : Fig} (h : FigOk M run i t f) : FigW M f := ⟨h.pt, h.len⟩
theorem FigW.at_ {M : Mach} (ok : M.Ok) {f : Fig} (h : FigW M f) : (standOf M f.1).2.2 < f.2.length := by
  rw [h.2]; exact ok.at_ _ h.1

/-! ### 12. heaps kept but for some addresses -/
def Kp (S : List Addr) (H H' : Hp) : Prop := ∀ b o, H b = some o → b ∉ S → H' b = some o
theorem Kp.refl (S : List Addr) (H : Hp) : Kp S H H := fun _ _ h _ => h
theorem Kp.trans {S : List Addr} {H H1 H2 : Hp} (a : Kp S H H1) (b : Kp S H1 H2) : Kp S H H2 := fun x o h n => b x o (a x o h n) n
theorem Same.kp {S : List Addr} {H H' : Hp} (s : Same H H') : Kp S H H' := fun b o h _ => s b o h
theorem Kp.mono {S S' : List Addr} {H H' : Hp} (k : Kp S H H') (h : ∀ b ∈ S, b ∈ S') : Kp S' H H' := fun b o e n => k b o e fun z => n (h b z)
theorem Kp.tk {S : List Addr} {H H' : Hp} (k : Kp S H H') (h : ∀ b ∈ S, ∀ xs, H b ≠ some (.tup xs)) : TK H H' := fun a xs e => k a _ e fun z => h a z xs e
theorem Kp.wr {S : List Addr} {H H' : Hp} {p : Addr} {o : HO} (k : Kp S H H') (h : p ∈ S) : Kp S H (upd H' p o) := fun b x e n => by
  rw [upd_ne (fun z => n (by rw [z]; exact h))]
  exact k b x e n
theorem Kp.nw {S : List Addr} {H H' : Hp} {p : Addr} {o : HO} (k : Kp S H H') (h : H p = none) : Kp S H (upd H' p o) := fun b x e n => by
  rw [upd_ne (ne_of_none e h)]
  exact k b x e n
/-- what is fresh behind was fresh ahead -/
theorem Kp.free {S : List Addr} {H H' : Hp} (k : Kp S H H') {p : Addr} (h : H' p = none) (hs : ∀ b ∈ S, ∃ o, H' b = some o) : H p = none := by
  cases q : H p with
  | none => rfl
  | some o =>
    by_cases hp : p ∈ S
    · obtain ⟨o', e⟩ := hs p hp
      rw [h] at e; cases e
    · rw [k p o q hp] at h; cases h
/-- what was fresh at the beginning may be left out -/
theorem Kp.out {S : List Addr} {H0 H H' : Hp} (k : Kp S H H') (s : Same H0 H) (h : ∀ b ∈ S, H0 b = none) : Same H0 H' := fun b o e => k b o (s b o e) fun z => by
  rw [h b z] at e; cases e

/-! ### 13. the dict of figures -/
def RelF (H : Hp) : Option V → Option Fig → Prop
  | none, none => True
  | some v, some f => Im H v (dFig f)
  | _, _ => False
def DcT (H : Hp) (a : Addr) (th : Figs) (n : Nat) : Prop :=
  ∃ kvs ts, H a = some (.dT kvs) ∧ kvs.map (·.1) = ts.map keyOf ∧ Row th ts ∧ ts.length ≤ n ∧ ∀ t, RelF H (valV kvs (keyOf t)) (th t)
theorem DcT.keep {H H' : Hp} {a : Addr} {th : Figs} {n : Nat} (h : DcT H a th n) (e : ∀ o, H a = some o → H' a = some o) (k : TK H H') : DcT H' a th n := by
  obtain ⟨kvs, ts, h1, h2, h3, h4, h5⟩ := h
  refine ⟨kvs, ts, e _ h1, h2, h3, h4, fun t => ?_⟩
  have := h5 t
  cases e1 : valV kvs (keyOf t) <;> cases e2 : th t <;> rw [e1, e2] at this
  · exact True.intro
  · exact this.elim
  · exact this.elim
  · exact Im.tk k this
theorem DcT.mono {H : Hp} {a : Addr} {th : Figs} {n m : Nat} (h : DcT H a th n) (k : n ≤ m) : DcT H a th m := by
  obtain ⟨kvs, ts, h1, h2, h3, h4, h5⟩ := h
  exact ⟨kvs, ts, h1, h2, h3, Nat.le_trans h4 k, h5⟩
theorem DcT.at_ {H : Hp} {a : Addr} {th : Figs} {n : Nat} (h : DcT H a th n) : ∃ kvs, H a = some (.dT kvs) := by
  obtain ⟨kvs, _, h1, _⟩ := h
  exact ⟨kvs, h1⟩
/-- x in d, x not in d, d[x] -/
theorem DcT.get {H : Hp} {a : Addr} {th : Figs} {n : Nat} (h : DcT H a th n) {v : V} {t : Thing} (hv : Im H v (dTh t)) : ∃ o, DGet H a v o ∧ RelF H o (th t) := by
  obtain ⟨kvs, ts, h1, h2, h3, h4, h5⟩ := h
  obtain ⟨b, rfl, hb⟩ := hv.th
  exact ⟨_, DGet.t (k := keyOf t) h1 hb, h5 t⟩
theorem DcT.got {H : Hp} {a : Addr} {th : Figs} {n : Nat} (h : DcT H a th n) {v : V} {t : Thing} (hv : Im H v (dTh t)) {f : Fig} (hf : th t = some f) : ∃ x, DGet H a v (some x) ∧ Im H x (dFig f) := by
  obtain ⟨o, h1, h2⟩ := h.get hv
  rw [hf] at h2
  cases o with
  | none => exact h2.elim
  | some x => exact ⟨x, h1, h2⟩
theorem DcT.not {H : Hp} {a : Addr} {th : Figs} {n : Nat} (h : DcT H a th n) {v : V} {t : Thing} (hv : Im H v (dTh t)) (hf : th t = none) : DGet H a v none := by
  obtain ⟨o, h1, h2⟩ := h.get hv
  rw [hf] at h2
  cases o with
  | none => exact h1
  | some x => exact h2.elim
theorem valV_none_iff {κ : Type} [DecidableEq κ] {kvs : List (κ × V)} {k : κ} : valV kvs k = none ↔ k ∉ kvs.map (·.1) := by
  induction kvs with
  | nil => simp [valV]
  | cons p r ih =>
    by_cases e : p.1 = k
    · rw [valV_pos e]
      simp [e]
    · rw [valV_neg e, ih]
      simp [Ne.symm e]
theorem putK_keys {κ : Type} [DecidableEq κ] {kvs : List (κ × V)} {k : κ} {v : V} : (putK kvs k v).map (·.1) = if k ∈ kvs.map (·.1) then kvs.map (·.1) else kvs.map (·.1) ++ [k] := by
  unfold putK
  by_cases h : k ∈ kvs.map (·.1)
  · have h2 : (kvs.any fun kv => decide (kv.1 = k)) = true := by
      rw [valV_any]
      cases e : valV kvs k with
      | none => exact absurd h (valV_none_iff.mp e)
      | some _ => rfl
    rw [if_pos h2, if_pos h, List.map_map]
    apply List.map_congr_left
    intro p _
    show (if p.1 = k then (p.1, v) else p).1 = p.1
    split <;> rfl
  · have h2 : ¬ (kvs.any fun kv => decide (kv.1 = k)) = true := by
      rw [valV_any, valV_none_iff.mpr h]
      decide
    rw [if_neg h2, if_neg h, List.map_append]
    rfl
theorem dropK_keys {κ : Type} [DecidableEq κ] {k : κ} : ∀ {kvs : List (κ × V)}, (dropK kvs k).map (·.1) = (kvs.map (·.1)).filter fun j => decide (j ≠ k)
  | [] => rfl
  | p :: r => by
    have ih := dropK_keys (k := k) (kvs := r)
    unfold dropK at *
    by_cases e : p.1 = k
    · rw [List.filter_cons_of_neg (by simp [e]), List.map_cons, List.filter_cons_of_neg (by simp [e]), ih]
    · rw [List.filter_cons_of_pos (by simp [e]), List.map_cons, List.map_cons, List.filter_cons_of_pos (by simp [e]), ih]
theorem valV_drop {κ : Type} [DecidableEq κ] {k j : κ} : ∀ {kvs : List (κ × V)}, valV (dropK kvs k) j = if j = k then none else valV kvs j
  | [] => by
    show valV [] j = _
    rw [valV_nil]
    split <;> rfl
  | p :: r => by
    have ih := valV_drop (k := k) (j := j) (kvs := r)
    unfold dropK at *
    by_cases e : p.1 = k
    · rw [List.filter_cons_of_neg (by simp [e]), ih]
      by_cases ej : j = k
      · rw [if_pos ej, if_pos ej]
      · rw [if_neg ej, if_neg ej, valV_neg (fun z => ej (z.symm.trans e))]
    · rw [List.filter_cons_of_pos (by simp [e])]
      by_cases ep : p.1 = j
      · rw [valV_pos ep, valV_pos ep, if_neg (fun z => e (ep.trans z))]
      · rw [valV_neg ep, valV_neg ep, ih]
theorem keys_mem {ts : List Thing} {t : Thing} : keyOf t ∈ ts.map keyOf ↔ t ∈ ts := by
  constructor
  · intro h
    obtain ⟨u, hu, e⟩ := List.mem_map.mp h
    rw [← keyOf_inj e]
    exact hu
  · exact fun h => List.mem_map.mpr ⟨t, h, rfl⟩
theorem keys_filter {t : Thing} : ∀ {ts : List Thing}, (ts.map keyOf).filter (fun j => decide (j ≠ keyOf t)) = (ts.filter fun u => decide (u ≠ t)).map keyOf
  | [] => rfl
  | u :: ts => by
    have ih := keys_filter (t := t) (ts := ts)
    by_cases e : u = t
    · rw [List.map_cons, List.filter_cons_of_neg (by simp [e]), List.filter_cons_of_neg (by simp [e]), ih]
    · have e2 : keyOf u ≠ keyOf t := fun z => e (keyOf_inj z)
      rw [List.map_cons, List.filter_cons_of_pos (by simp [e2]), List.filter_cons_of_pos (by simp [e]), List.map_cons, ih]
/-- d[x] = f -/
theorem DcT.put {H : Hp} {a : Addr} {th : Figs} {n : Nat} (h : DcT H a th n) (hn : n < 1000) {v x : V} {t : Thing} (hv : Im H v (dTh t)) {f : Fig} (hx : Im H x (dFig f)) :
    ∃ H', DPut H a v x H' ∧ Kp [a] H H' ∧ TK H H' ∧ DcT H' a (putT th t (some f)) (n + 1) := by
  obtain ⟨kvs, ts, h1, h2, h3, h4, h5⟩ := h
  obtain ⟨b, rfl, hb⟩ := hv.th
  have hl : kvs.length ≤ n := by
    have := congrArg List.length h2
    rw [List.length_map, List.length_map] at this
    omega
  have hk : TK H (upd H a (.dT (putK kvs (keyOf t) x))) := tk_upd fun xs e => by rw [h1] at e; cases e
  refine ⟨_, DPut.t (k := keyOf t) h1 hb (small1000 (by omega)), (Kp.refl _ _).wr (List.mem_singleton.mpr rfl), hk, putK kvs (keyOf t) x, if t ∈ ts then ts else ts ++ [t], upd_same, ?_, ?_, ?_, fun u => ?_⟩
  · rw [putK_keys, h2]
    by_cases ht : t ∈ ts
    · rw [if_pos (keys_mem.mpr ht), if_pos ht]
    · rw [if_neg (fun z => ht (keys_mem.mp z)), if_neg ht, List.map_append]
      rfl
  · by_cases ht : t ∈ ts
    · rw [if_pos ht]
      refine ⟨h3.nd, fun u => ?_⟩
      unfold putT
      by_cases hu : u = t
      · rw [if_pos hu]
        exact ⟨fun _ => ⟨f, rfl⟩, fun _ => by rw [hu]; exact ht⟩
      · rw [if_neg hu]
        exact h3.mem u
    · rw [if_neg ht]
      refine ⟨?_, fun u => ?_⟩
      · rw [List.nodup_append]
        refine ⟨h3.nd, by simp, fun c hc d hd => ?_⟩
        rw [List.mem_singleton] at hd
        subst hd
        intro e
        subst e
        exact ht hc
      · rw [List.mem_append, List.mem_singleton]
        unfold putT
        by_cases hu : u = t
        · rw [if_pos hu]
          exact ⟨fun _ => ⟨f, rfl⟩, fun _ => .inr hu⟩
        · rw [if_neg hu]
          exact ⟨fun z => (h3.mem u).mp (z.resolve_right hu), fun z => .inl ((h3.mem u).mpr z)⟩
  · split
    · omega
    · rw [List.length_append, List.length_singleton]
      omega
  · rw [valV_put]
    unfold putT
    by_cases hu : u = t
    · rw [if_pos (by rw [hu]), if_pos hu]
      exact hx.tk hk
    · rw [if_neg (fun z => hu (keyOf_inj z)), if_neg hu]
      have := h5 u
      cases e1 : valV kvs (keyOf u) <;> cases e2 : th u <;> rw [e1, e2] at this
      · exact True.intro
      · exact this.elim
      · exact this.elim
      · exact Im.tk hk this
/-- d.pop(x) -/
theorem DcT.pop {K : PySem.W.Frag} {H : Hp} {a : Addr} {th : Figs} {n : Nat} (h : DcT H a th n) {v : V} {t : Thing} (hv : Im H v (dTh t)) {f : Fig} (hf : th t = some f) {Q : VK}
    (k : ∀ x H', Kp [a] H H' → TK H H' → DcT H' a (putT th t none) n → Q x H') : tyV K "dict" (.ref a) H ∧ rPop1T (.ref a) [v] H Q := by
  obtain ⟨kvs, ts, h1, h2, h3, h4, h5⟩ := h
  obtain ⟨b, rfl, hb⟩ := hv.th
  have h6 := h5 t
  rw [hf] at h6
  cases e : valV kvs (keyOf t) with
  | none => rw [e] at h6; exact h6.elim
  | some x =>
    have hk : TK H (upd H a (.dT (dropK kvs (keyOf t)))) := tk_upd fun xs e => by rw [h1] at e; cases e
    refine ⟨.inr (.inr (.inl ⟨rfl, .inr ⟨kvs, h1⟩⟩)), a, kvs, keyOf t, b, x, rfl, rfl, h1, hb, e, k _ _ ((Kp.refl _ _).wr (List.mem_singleton.mpr rfl)) hk ⟨dropK kvs (keyOf t), ts.filter (fun u => decide (u ≠ t)), upd_same, ?_, ⟨h3.nd.filter _, fun u => ?_⟩, ?_, fun u => ?_⟩⟩
    · rw [dropK_keys, h2, keys_filter]
    · rw [List.mem_filter]
      unfold putT
      by_cases hu : u = t
      · rw [if_pos hu]
        simp [hu]
      · rw [if_neg hu]
        simp [hu, h3.mem u]
    · exact Nat.le_trans (List.length_filter_le _ _) h4
    · rw [valV_drop]
      unfold putT
      by_cases hu : u = t
      · rw [if_pos (by rw [hu]), if_pos hu]
        exact True.intro
      · rw [if_neg (fun z => hu (keyOf_inj z)), if_neg hu]
        have := h5 u
        cases e1 : valV kvs (keyOf u) <;> cases e2 : th u <;> rw [e1, e2] at this
        · exact True.intro
        · exact this.elim
        · exact this.elim
        · exact Im.tk hk this
theorem DcT.nil {H : Hp} {a : Addr} (h : H a = some (.dT [])) (n : Nat) : DcT H a (fun _ => none) n :=
  ⟨[], [], h, rfl, ⟨List.nodup_nil, fun t => by simp⟩, Nat.zero_le _, fun _ => True.intro⟩

theorem lex_plt (p q : Pl) : HT.lexLt [p.1, p.2] [q.1, q.2] = plt p q := by
  rw [HT.lexLt_cons]
  unfold plt
  by_cases h : p.1 = q.1
  · rw [if_pos h, if_pos h, HT.lexLt_cons]
    by_cases h2 : p.2 = q.2
    · rw [if_pos h2, HT.lexLt_nil_nil, decide_eq_false (by omega)]
    · rw [if_neg h2]
  · rw [if_neg h, if_neg h]
theorem units65 {k : Nat} {A : Around} (r : Room k A) : A.units + 65 < cLine := by have := r.un; omega

theorem blT {c : Prop} [Decidable c] (h : c) : V.bl (decide c) = V.bl true := congrArg V.bl (decide_eq_true h)
theorem blF {c : Prop} [Decidable c] (h : ¬ c) : V.bl (decide c) = V.bl false := congrArg V.bl (decide_eq_false h)
theorem qT {c : Prop} [Decidable c] {Q : VK} {H : Hp} (h : c) (q : Q (.bl true) H) : Q (.bl (decide c)) H := by rw [decide_eq_true h]; exact q
theorem qF {c : Prop} [Decidable c] {Q : VK} {H : Hp} (h : ¬ c) (q : Q (.bl false) H) : Q (.bl (decide c)) H := by rw [decide_eq_false h]; exact q

/-! ### 14. what the module's names hold -/
theorem bt_len : bootBuiltins "len" = some (.builtin "len") := by decide +kernel
theorem bt_abs : bootBuiltins "abs" = some (.builtin "abs") := by decide +kernel
theorem bt_max : bootBuiltins "max" = some (.builtin "max") := by decide +kernel
theorem bt_min : bootBuiltins "min" = some (.builtin "min") := by decide +kernel
theorem bt_repr : bootBuiltins "repr" = some (.builtin "repr") := by decide +kernel
theorem bt_sorted : bootBuiltins "sorted" = some (.builtin "sorted") := by decide +kernel
theorem bt_isinstance : bootBuiltins "isinstance" = some (.builtin "isinstance") := by decide +kernel
theorem bt_int : bootBuiltins "int" = some (.type "int") := by decide +kernel
theorem bt_bool : bootBuiltins "bool" = some (.type "bool") := by decide +kernel
theorem bt_tuple : bootBuiltins "tuple" = some (.type "tuple") := by decide +kernel
theorem bt_list : bootBuiltins "list" = some (.type "list") := by decide +kernel
theorem bt_dict : bootBuiltins "dict" = some (.type "dict") := by decide +kernel
structure Txt (K : PySem.W.Frag) (mg : Str → Option Value) (C : Addr) : Prop where
  cl : Cls K C
  mgC : mg "Lane" = some (.ref C)
  a_mach : NoAttr K C "lane_machine"
  a_figs : NoAttr K C "lane_figures"
  a_ord : NoAttr K C "lane_order"
  a_now : NoAttr K C "lane_now"
  n_len : mg "len" = none
  n_abs : mg "abs" = none
  n_max : mg "max" = none
  n_min : mg "min" = none
  n_repr : mg "repr" = none
  n_sorted : mg "sorted" = none
  n_isinstance : mg "isinstance" = none
  n_int : mg "int" = none
  n_bool : mg "bool" = none
  n_tuple : mg "tuple" = none
  n_list : mg "list" = none
  n_dict : mg "dict" = none
  n_range : mg "range" = none
  n_enumerate : mg "enumerate" = none
def topS (i : Nat) : Stmt := PySem.Challenge.pw_ownmoment_k63_whole_more_stops.main.body.getD i (.Pass ⟨0, 0, 0, 0⟩)
end Own

namespace Own
open PySem PySem.Spec PyProof.Rows L2
section
variable {P : Program} {w : World} {K : PySem.W.Frag} {mg : Str → Option Value} {base : Heap} {C : Addr}

/-!  is_integer: N = [(0, 'thing')] -/
abbrev s_is_integer : Stmt := topS 9
abbrev n_is_integer : List Str := ["thing"]
theorem sc_is_integer : FnScope n_is_integer ["thing"] (defScope s_is_integer) := ⟨rfl, rfl, rfl, by decide +kernel, rfl, by decide +kernel, by decide +kernel⟩
def spIsInteger : Sp := fun vs H Q _ => ∃ i : Int, vs = [.int i] ∧ Q (.bl true) H
theorem ok_is_integer {f : Addr} {fd : FuncData} (F : Fun K "is_integer" "is_integer" s_is_integer f fd) (T : Txt K mg C) : FnOk P w K mg base CX0 1 f fd ["thing"] spIsInteger := by
  refine F.ok sc_is_integer (fun vs H Q E h => ?_) (fun cdv A outer s H vs Q E hr h => ?_)
  · obtain ⟨i, rfl, _⟩ := h
    rfl
  · obtain ⟨i, rfl, q⟩ := h
    refine ⟨_, (pss_one (ps_ret (pe_and (pe_callB call_isi (by rfl) T.n_isinstance bt_isinstance (pa_cons (pv 0) (pa_cons (pe_bltn (v := .ty "int") (by rfl) T.n_int bt_int rfl) pa_nil))) (pe_one (pe_not (pe_callB call_isi (by rfl) T.n_isinstance bt_isinstance (pa_cons (pv 0) (pa_cons (pe_bltn (v := .ty "bool") (by rfl) T.n_bool bt_bool rfl) pa_nil)))))))), ?_⟩
    refine ⟨_, rfl, .int i, .ty "int", .type "int", .type "int", true, rfl, .ty _, .base (.int i), kit_ty (by decide +kernel), true, rfl, iteT ?_⟩
    exact ⟨_, rfl, .int i, .ty "bool", .type "int", .type "bool", false, rfl, .ty _, .base (.int i), kit_ty (by decide +kernel), false, rfl, q⟩

/-!  is_between: N = [(0, 'thing'), (1, 'low'), (2, 'high')] -/
abbrev s_is_between : Stmt := topS 10
abbrev n_is_between : List Str := ["thing", "low", "high"]
theorem sc_is_between : FnScope n_is_between ["thing", "low", "high"] (defScope s_is_between) := ⟨rfl, rfl, rfl, by decide +kernel, rfl, by decide +kernel, by decide +kernel⟩
def spIsBetween : Sp := fun vs H Q _ => ∃ i lo hi : Int, vs = [.int i, .int lo, .int hi] ∧ lo ≤ i ∧ i ≤ hi ∧ Q (.bl true) H
theorem ok_is_between {f : Addr} {fd : FuncData} (F : Fun K "is_between" "is_between" s_is_between f fd) (c_is_integer : Callee P w K mg base "is_integer" 1 ["thing"] spIsInteger) : FnOk P w K mg base CX0 2 f fd ["thing", "low", "high"] spIsBetween := by
  refine F.ok sc_is_between (fun vs H Q E h => ?_) (fun cdv A outer s H vs Q E hr h => ?_)
  · obtain ⟨i, lo, hi, rfl, _⟩ := h
    rfl
  · obtain ⟨i, lo, hi, rfl, h1, h2, q⟩ := h
    refine ⟨_, (pss_one (ps_ret (pe_and (pe_own c_is_integer (hr.mono (by decide)) (by rfl) (pa_cons (pv 0) pa_nil)) (pe_one (pe_chain op_le op_le (pv 1) (pv 0) (pv 2)))))), ?_⟩
    refine ⟨_, rfl, i, rfl, true, rfl, iteT ?_⟩
    refine ⟨_, rfl, _, rfl, _, _, rfl, rfl, true, blT h1, iteT ?_⟩
    exact ⟨_, rfl, _, _, rfl, rfl, qT h2 q⟩

/-!  is_thing: N = [(0, 'thing')] -/
abbrev s_is_thing : Stmt := topS 11
abbrev n_is_thing : List Str := ["thing"]
theorem sc_is_thing : FnScope n_is_thing ["thing"] (defScope s_is_thing) := ⟨rfl, rfl, rfl, by decide +kernel, rfl, by decide +kernel, by decide +kernel⟩
def spIsThing : Sp := fun vs H Q _ => ∃ (x : V) (t : Thing), vs = [x] ∧ Im H x (dTh t) ∧ 0 ≤ t.1 ∧ t.1 ≤ 1 ∧ 0 ≤ t.2 ∧ t.2 ≤ 9999 ∧ Q (.bl true) H
theorem ok_is_thing {f : Addr} {fd : FuncData} {tmost : Tok} (F : Fun K "is_thing" "is_thing" s_is_thing f fd) (T : Txt K mg C) (mmost : mg "MOST_NUMBER" = some (.int 9999 tmost)) (c_is_between : Callee P w K mg base "is_between" 2 ["thing", "low", "high"] spIsBetween) :
    FnOk P w K mg base CX0 3 f fd ["thing"] spIsThing := by
  refine F.ok sc_is_thing (fun vs H Q E h => ?_) (fun cdv A outer s H vs Q E hr h => ?_)
  · obtain ⟨x, t, rfl, _⟩ := h
    rfl
  · obtain ⟨x, t, rfl, hx, h1, h2, h3, h4, q⟩ := h
    obtain ⟨a, rfl, ha⟩ := hx.th
    refine ⟨_, (pss_cons (ps_if (PW.pt (pw_or (pt_not (pt_val (pe_callB call_isi (by rfl) T.n_isinstance bt_isinstance (pa_cons (pv 0) (pa_cons (pe_bltn (v := .ty "tuple") (by rfl) T.n_tuple bt_tuple rfl) pa_nil))))) (pw_or1 (pt_cmpR op_ne (pe_callB call_len_seq (by rfl) T.n_len bt_len (pa_cons (pv 0) pa_nil)) pe_int (nomark _))))) (pss_one (ps_ret pe_bl)) pss_nil)
        (pss_one (ps_ret (pe_and (pe_own c_is_between (hr.mono (by decide)) (by rfl) (pa_cons (pe_ix (r := rIxT K) ix_tup (pv 0) pe_int (fun _ _ => rfl)) (pa_cons pe_int (pa_cons pe_int pa_nil)))) (pe_one (pe_own c_is_between (hr.mono (by decide)) (by rfl) (pa_cons (pe_ix (r := rIxT K) ix_tup (pv 0) pe_int (fun _ _ => rfl)) (pa_cons pe_int (pa_cons (pe_glob (v := .int 9999) (by rfl) mmost ⟨tmost, rfl⟩) pa_nil))))))))), ?_⟩
    refine ⟨_, rfl, .ref a, .ty "tuple", .type "tuple", .type "tuple", true, rfl, .ty _, .base (.tup ha), kit_ty (by decide +kernel), true, rfl, iteF ?_⟩
    refine ⟨_, rfl, a, _, rfl, .inr (SqT.of ha), rfl, _, rfl, iteF ?_⟩
    refine ⟨_, rfl, ixC 0 (by rfl) hx rfl fun v1 e1 => ?_⟩
    cases e1.int_eq
    refine ⟨t.1, 0, 1, rfl, h1, h2, true, rfl, iteT ?_⟩
    refine ⟨_, rfl, ixC 1 (by rfl) hx rfl fun v2 e2 => ?_⟩
    cases e2.int_eq
    exact ⟨t.2, 0, 9999, rfl, h3, h4, q⟩

/-!  machine_kinds: N = [(0, 'machine')] -/
abbrev s_machine_kinds : Stmt := topS 13
abbrev n_machine_kinds : List Str := ["machine"]
theorem sc_machine_kinds : FnScope n_machine_kinds ["machine"] (defScope s_machine_kinds) := ⟨rfl, rfl, rfl, by decide +kernel, rfl, by decide +kernel, by decide +kernel⟩
def spKinds : Sp := fun vs H Q _ => ∃ (x : V) (M : Mach), vs = [x] ∧ Im H x (dMach M) ∧ Q (.int (M.begins.length : Nat)) H
theorem ok_machine_kinds {f : Addr} {fd : FuncData} (F : Fun K "machine_kinds" "machine_kinds" s_machine_kinds f fd) (T : Txt K mg C) : FnOk P w K mg base CX0 1 f fd ["machine"] spKinds := by
  refine F.ok sc_machine_kinds (fun vs H Q E h => ?_) (fun cdv A outer s H vs Q E hr h => ?_)
  · obtain ⟨x, M, rfl, _⟩ := h
    rfl
  · obtain ⟨x, M, rfl, hx, q⟩ := h
    refine ⟨_, (pss_one (ps_ret (pe_callB call_len_seq (by rfl) T.n_len bt_len (pa_cons (pe_ix (r := rIxT K) ix_tup (pv 0) pe_int (fun _ _ => rfl)) pa_nil)))), ?_⟩
    refine ⟨_, rfl, ixC 0 (by rfl) hx rfl fun v1 e1 => ?_⟩
    obtain ⟨a, xs, rfl, ha, r⟩ := e1.inv
    refine ⟨a, xs, rfl, .inr (SqT.of ha), ?_⟩
    have e := r.len
    rw [List.length_map, List.length_map] at e
    rw [e]
    exact q

/-!  machine_deeds: N = [(0, 'machine')] -/
abbrev s_machine_deeds : Stmt := topS 14
abbrev n_machine_deeds : List Str := ["machine"]
theorem sc_machine_deeds : FnScope n_machine_deeds ["machine"] (defScope s_machine_deeds) := ⟨rfl, rfl, rfl, by decide +kernel, rfl, by decide +kernel, by decide +kernel⟩
def spDeeds : Sp := fun vs H Q _ => ∃ (x : V) (M : Mach), vs = [x] ∧ M.Ok ∧ Im H x (dMach M) ∧ Q (.int (1 + (deedsOf M : Nat))) H
theorem ok_machine_deeds {f : Addr} {fd : FuncData} (F : Fun K "machine_deeds" "machine_deeds" s_machine_deeds f fd) (T : Txt K mg C) : FnOk P w K mg base CX0 1 f fd ["machine"] spDeeds := by
  refine F.ok sc_machine_deeds (fun vs H Q E h => ?_) (fun cdv A outer s H vs Q E hr h => ?_)
  · obtain ⟨x, M, rfl, _⟩ := h
    rfl
  · obtain ⟨x, M, rfl, ok, hx, q⟩ := h
    refine ⟨_, (pss_one (ps_ret (pe_op op_add pe_int (pe_callB call_len_seq (by rfl) T.n_len bt_len (pa_cons (pe_ix (r := rIxT K) ix_tup (pe_ix (r := rIxT K) ix_tup (pv 0) pe_int (fun _ _ => rfl)) pe_int (fun _ _ => rfl)) pa_nil))))), ?_⟩
    have h0 : 0 < M.points.length := by have := ok.pn; omega
    obtain ⟨g1, g2⟩ := mvs_at ok h0
    refine ⟨_, rfl, ixC 2 (by rfl) hx rfl fun v1 e1 => ?_⟩
    refine ixC 0 (by rfl) e1 g1 fun v2 e2 => ?_
    obtain ⟨a, xs, rfl, ha, r⟩ := e2.inv
    refine ⟨a, xs, rfl, .inr (SqT.of ha), _, _, rfl, rfl, ?_⟩
    have e := r.len
    rw [List.length_map, g2] at e
    rw [e]
    exact q

/-!  place_by: N = [(0, 'machine'), (1, 'row'), (2, 'figure'), (3, 'rank'), (4, 'way'), (5, 'at')] -/
abbrev s_place_by : Stmt := topS 16
abbrev n_place_by : List Str := ["machine", "row", "figure", "rank", "way", "at"]
theorem sc_place_by : FnScope n_place_by ["machine", "row", "figure"] (defScope s_place_by) := ⟨rfl, rfl, rfl, by decide +kernel, rfl, by decide +kernel, by decide +kernel⟩
def spPlace : Sp := fun vs H Q _ => ∃ (m f : V) (M : Mach) (g : Fig), vs = [m, .int 0, f] ∧ M.Ok ∧ FigW M g ∧ Im H m (dMach M) ∧ Im H f (dFig g) ∧
  ∀ x H', Same H H' → (∃ a, x = .ref a ∧ H' a = some (.tup [.int (place M g).1, .int (place M g).2])) → Q x H'
theorem ok_place_by {f : Addr} {fd : FuncData} (F : Fun K "place_by" "place_by" s_place_by f fd) : FnOk P w K mg base CX0 1 f fd ["machine", "row", "figure"] spPlace := by
  refine F.ok sc_place_by (fun vs H Q E h => ?_) (fun cdv A outer s H vs Q E hr h => ?_)
  · obtain ⟨m, f, M, g, rfl, _⟩ := h
    rfl
  · obtain ⟨m, f, M, g, rfl, ok, fw, hm, hf, q⟩ := h
    refine ⟨_, (pss_cons (ps_asg (pe_ix (r := rIxT K) ix_tup (pe_ix (r := rIxT K) ix_tup (pe_ix (r := rIxT K) ix_tup (pe_ix (r := rIxT K) ix_tup (pv 0) pe_int (fun _ _ => rfl)) (pe_ix (r := rIxT K) ix_tup (pv 2) pe_int (fun _ _ => rfl)) (fun _ _ => rfl)) pe_int (fun _ _ => rfl)) (pv 1) (fun _ _ => rfl)) (pg_tup rfl (pgs_cons (pg_name (i := 3) sc_place_by.nd rfl (Or.inl rfl)) (pgs_cons (pg_name (i := 4) sc_place_by.nd rfl (Or.inl rfl)) (pgs_cons (pg_name (i := 5) sc_place_by.nd rfl (Or.inl rfl)) pgs_nil)))))
        (pss_one (ps_ret (pe_tup (pa_cons (pv 3) (pa_cons (pe_ifExp (pt_cmpR op_eq (pv 4) pe_str (nomark _)) (pe_ix (r := rIxT K) ix_tup (pe_ix (r := rIxT K) ix_tup (pv 2) pe_int (fun _ _ => rfl)) (pv 5) (fun _ _ => rfl)) (pe_un un_neg (pe_ix (r := rIxT K) ix_tup (pe_ix (r := rIxT K) ix_tup (pv 2) pe_int (fun _ _ => rfl)) (pv 5) (fun _ _ => rfl)))) pa_nil)))))), ?_⟩
    -- rank, way, at = machine[1][figure[0]][0][row]
    refine ⟨_, rfl, ixC 1 (by rfl) hm rfl fun v1 e1 => ?_⟩
    refine ⟨_, rfl, ixC 0 (by rfl) hf rfl fun v2 e2 => ?_⟩
    cases e2.int_eq
    refine ixT _ (by rfl) e1 (pts_at fw.1) fun v3 e3 => ?_
    refine ixC 0 (by rfl) e3 rfl fun v4 e4 => ?_
    refine ⟨_, rfl, ixT 0 (by rfl) e4 (std_at ok fw.1) fun v5 e5 => ?_⟩
    obtain ⟨a, xs, rfl, ha, r⟩ := e5.inv
    cases r with
    | cons r1 r => cases r with
    | cons r2 r => cases r with
    | cons r3 r => cases r with
    | nil =>
    cases r1.int_eq
    cases r2.str_eq
    cases r3.int_eq
    refine ⟨a, _, rfl, SqT.of ha, rfl, _, _, rfl, _, _, rfl, _, _, rfl, rfl, ?_⟩
    -- return (rank, ..)
    have hk := ns_at (fw.at_ ok)
    refine ⟨_, rfl, _, rfl, rfl, _, rfl, ?_⟩
    have fin : ∀ (b : Bool) (z : Int), (standOf M g.1).2.1 = b → z = (if b = true then -g.2.getD (standOf M g.1).2.2 0 else g.2.getD (standOf M g.1).2.2 0) → [V.int (standOf M g.1).1, V.int z].length ≤ sizeLine ∧
        ∀ p, H p = none → Q (.ref p) (upd H p (.tup [V.int (standOf M g.1).1, V.int z])) := fun b z hb hz => by
      refine ⟨by show 2 ≤ sizeLine; decide, fun p hp => q _ _ (same_new hp) ⟨p, rfl, ?_⟩⟩
      rw [upd_same]
      unfold place
      simp only [hb]
      rw [hz]
    cases hb : (standOf M g.1).2.1 with
    | true =>
      refine iteF ?_
      refine ⟨_, rfl, ixC 1 (by rfl) hf rfl fun v6 e6 => ?_⟩
      refine ⟨_, rfl, ixT _ (by rfl) e6 hk fun v7 e7 => ?_⟩
      cases e7.int_eq
      exact ⟨_, rfl, fin true _ hb rfl⟩
    | false =>
      refine iteT ?_
      refine ⟨_, rfl, ixC 1 (by rfl) hf rfl fun v6 e6 => ?_⟩
      refine ⟨_, rfl, ixT _ (by rfl) e6 hk fun v7 e7 => ?_⟩
      cases e7.int_eq
      exact fin false _ hb rfl

/-!  is_ahead_by: N = [(0, 'machine'), (1, 'row'), (2, 'one'), (3, 'other')] -/
abbrev s_is_ahead_by : Stmt := topS 17
abbrev n_is_ahead_by : List Str := ["machine", "row", "one", "other"]
theorem sc_is_ahead_by : FnScope n_is_ahead_by ["machine", "row", "one", "other"] (defScope s_is_ahead_by) := ⟨rfl, rfl, rfl, by decide +kernel, rfl, by decide +kernel, by decide +kernel⟩
def spAheadBy : Sp := fun vs H Q _ => ∃ (m f f' : V) (M : Mach) (g g' : Fig), vs = [m, .int 0, f, f'] ∧ M.Ok ∧ FigW M g ∧ FigW M g' ∧ Im H m (dMach M) ∧ Im H f (dFig g) ∧ Im H f' (dFig g') ∧
  ∀ H', Same H H' → Q (.bl (plt (place M g) (place M g'))) H'
theorem ok_is_ahead_by {f : Addr} {fd : FuncData} (F : Fun K "is_ahead_by" "is_ahead_by" s_is_ahead_by f fd) (c_place_by : Callee P w K mg base "place_by" 1 ["machine", "row", "figure"] spPlace) :
    FnOk P w K mg base CX0 2 f fd ["machine", "row", "one", "other"] spAheadBy := by
  refine F.ok sc_is_ahead_by (fun vs H Q E h => ?_) (fun cdv A outer s H vs Q E hr h => ?_)
  · obtain ⟨m, f, f', M, g, g', rfl, _⟩ := h
    rfl
  · obtain ⟨m, f, f', M, g, g', rfl, ok, fw, fw', hm, hf, hf', q⟩ := h
    refine ⟨_, (pss_one (ps_ret (pe_cmpR (op_ltT hr.units0) (pe_own c_place_by (hr.mono (by decide)) (by rfl) (pa_cons (pv 0) (pa_cons (pv 1) (pa_cons (pv 2) pa_nil)))) (pe_own c_place_by (hr.mono (by decide)) (by rfl) (pa_cons (pv 0) (pa_cons (pv 1) (pa_cons (pv 3) pa_nil)))) (nomark _)))), ?_⟩
    refine ⟨_, rfl, _, rfl, _, rfl, m, f, M, g, rfl, ok, fw, hm, hf, fun x1 H1 s1 ⟨a1, ex1, ha1⟩ => ?_⟩
    subst ex1
    refine ⟨_, rfl, _, rfl, _, rfl, m, f', M, g', rfl, ok, fw', hm.tk (Same.tk s1), hf'.tk (Same.tk s1), fun x2 H2 s2 ⟨a2, ex2, ha2⟩ => ?_⟩
    subst ex2
    refine ⟨a1, a2, [(place M g).1, (place M g).2], [(place M g').1, (place M g').2], rfl, rfl, SqT.of (s2 _ _ ha1), SqT.of ha2, ?_⟩
    rw [lex_plt]
    exact q _ (s1.trans s2)
end
end Own

namespace Own
open PySem PySem.Spec PyProof.Rows L2
section
variable {P : Program} {w : World} {K : PySem.W.Frag} {mg : Str → Option Value} {base : Heap} {C : Addr}

theorem mv_some {M : Mach} {p d b : Nat} {tk : List Int} (ok : M.Ok) (hp : p < M.points.length) (h : mvAt M p d = some (b, tk)) : d < (M.moves.getD p []).length := by
  unfold mvAt at h
  by_cases hd : d < (M.moves.getD p []).length
  · exact hd
  · rw [List.getD_eq_getElem?_getD, List.getElem?_eq_none (by omega)] at h
    cases h
theorem take_snoc {l : List Int} {i : Nat} (h : i < l.length) (f : Int → Int) : (l.take (i + 1)).map f = (l.take i).map f ++ [f l[i]] := by
  rw [List.take_succ_eq_append_getElem h, List.map_append]
  rfl

/-!  figure_behind: N = [(0, 'machine'), (1, 'figure'), (2, 'deed'), (3, 'moment'), (4, 'target'), (5, 'take'), (6, 'k')] -/
abbrev s_figure_behind : Stmt := topS 15
abbrev n_figure_behind : List Str := ["machine", "figure", "deed", "moment", "target", "take", "k"]
theorem sc_figure_behind : FnScope n_figure_behind ["machine", "figure", "deed", "moment"] (defScope s_figure_behind) := ⟨rfl, rfl, rfl, by decide +kernel, rfl, by decide +kernel, by decide +kernel⟩
def spBehind : Sp := fun vs H Q _ => ∃ (m f : V) (d now : Int) (M : Mach) (g : Fig) (mv : Nat × List Int), vs = [m, f, .int d, .int now] ∧ M.Ok ∧ FigW M g ∧ 1 ≤ d ∧ mvAt M g.1 (d - 1).toNat = some mv ∧ Im H m (dMach M) ∧ Im H f (dFig g) ∧
  ∀ x H', Same H H' → Im H' x (dFig (behind g mv now)) → Q x H'
theorem ok_figure_behind {f : Addr} {fd : FuncData} (F : Fun K "figure_behind" "figure_behind" s_figure_behind f fd) (T : Txt K mg C) : FnOk P w K mg base CX0 1 f fd ["machine", "figure", "deed", "moment"] spBehind := by
  refine F.ok sc_figure_behind (fun vs H Q E h => ?_) (fun cdv A outer s H vs Q E hr h => ?_)
  · obtain ⟨m, f, d, now, M, g, mv, rfl, _⟩ := h
    rfl
  · obtain ⟨m, f, d, now, M, g, ⟨b, tk⟩, rfl, ok, fw, hd, hmv, hm, hf, q⟩ := h
    refine ⟨_, (pss_cons (ps_asg (pe_ix (r := rIxT K) ix_tup (pe_ix (r := rIxT K) ix_tup (pe_ix (r := rIxT K) ix_tup (pv 0) pe_int (fun _ _ => rfl)) (pe_ix (r := rIxT K) ix_tup (pv 1) pe_int (fun _ _ => rfl)) (fun _ _ => rfl)) (pe_op op_sub (pv 2) pe_int) (fun _ _ => rfl)) (pg_tup rfl (pgs_cons (pg_name (i := 4) sc_figure_behind.nd rfl (Or.inl rfl)) (pgs_cons (pg_name (i := 5) sc_figure_behind.nd rfl (Or.inl rfl)) pgs_nil))))
        (pss_one (ps_ret (pe_tup (pa_cons (pv 4) (pa_cons (pe_callTy call_tuple_of (by rfl) T.n_tuple bt_tuple (pa_cons (pe_lc (own := [("k", 6)]) rfl sc_figure_behind.nd (pi_tup (pv 5)) (blkOk_by (own := [("k", 6)]) (N := n_figure_behind) (sc := defScope s_figure_behind) (by decide +kernel)) (fun _ _ _ _ _ => (pg_name (i := 6) sc_figure_behind.nd rfl (Or.inl rfl))) (fun _ _ _ _ _ => pts_nil) (fun _ _ _ _ _ => (pe_ifExp (pt_cmpR op_ge (pv 6) pe_int (nomark _)) (pe_ix (r := rIxT K) ix_tup (pe_ix (r := rIxT K) ix_tup (pv 1) pe_int (fun _ _ => rfl)) (pv 6) (fun _ _ => rfl)) (pv 3)))) pa_nil)) pa_nil)))))), ?_⟩
    obtain ⟨g1, g2⟩ := mvs_at ok fw.1
    have g3 := mv_at (M := M) (p := g.1) (mv_some ok fw.1 hmv)
    rw [hmv] at g3
    obtain ⟨m1, m2, m3⟩ := ok.mv _ _ _ _ fw.1 hmv
    refine ⟨_, rfl, ixC 2 (by rfl) hm rfl fun v1 e1 => ?_⟩
    refine ⟨_, rfl, ixC 0 (by rfl) hf rfl fun v2 e2 => ?_⟩
    cases e2.int_eq
    refine ixT _ (by rfl) e1 g1 fun v3 e3 => ?_
    refine ⟨_, rfl, _, _, rfl, rfl, ixT (d - 1).toNat (by omega) e3 g3 fun v4 e4 => ?_⟩
    obtain ⟨a, xs, rfl, ha, r⟩ := e4.inv
    cases r with
    | cons r1 r => cases r with
    | cons r2 r => cases r with
    | nil =>
    rename_i x1 x2
    cases r1.int_eq
    obtain ⟨at2, rfl, hat2⟩ := r2.ns
    refine ⟨a, _, rfl, SqT.of ha, rfl, _, _, rfl, _, _, rfl, rfl, ?_⟩
    -- return (target, tuple([..]))
    refine ⟨_, rfl, _, rfl, at2, rfl, ⟨_, SqT.of hat2⟩, fun D hD => ?_⟩
    refine lc_tup (K := K) (xs := tk.map V.int) (fun i H' => Same H H' ∧ H' D = some (.lst (((tk.take i).map fun k => if k = -1 then now else g.2.getD k.toNat 0).map V.int))) ⟨same_new hD, upd_same⟩ (fun i H' _ ⟨s1, _⟩ => SqT.of (s1 _ _ hat2)) ?_ ?_
    · rintro i x H' hi ⟨s1, h1⟩
      rw [List.getElem?_map] at hi
      obtain ⟨k, hk, rfl⟩ := Option.map_eq_some_iff.mp hi
      obtain ⟨hil, hke⟩ := List.getElem?_eq_some_iff.mp hk
      have hmem : k ∈ tk := List.mem_of_getElem? hk
      refine ⟨rfl, ?_⟩
      have fin : ∀ z : Int, z = (if k = -1 then now else g.2.getD k.toNat 0) → ∃ acc, H' D = some (.lst acc) ∧ acc.length < sizeLine ∧ (Same H (upd H' D (.lst (acc ++ [V.int z]))) ∧
          (upd H' D (.lst (acc ++ [V.int z]))) D = some (.lst (((tk.take (i + 1)).map fun k => if k = -1 then now else g.2.getD k.toNat 0).map V.int))) := fun z hz => by
        refine ⟨_, h1, small1000 ?_, fun b o e => ?_, ?_⟩
        · rw [List.length_map, List.length_map, List.length_take]
          have h3 := ok.live b m1
          omega
        · rw [upd_ne (ne_of_none e hD)]
          exact s1 b o e
        · rw [upd_same, take_snoc hil, hke, List.map_append, hz]
          rfl
      -- figure[1][k] if k >= 0 else moment
      refine ⟨_, rfl, _, _, rfl, rfl, _, rfl, ?_⟩
      refine ite2 (fun hc => ?_) (fun hc => ?_)
      · have hk0 : 0 ≤ k := of_decide_eq_true hc
        have hk2 := (m3 k hmem).resolve_left (by omega)
        refine ⟨_, rfl, ixC 1 (by rfl) (hf.tk (Same.tk s1)) rfl fun v5 e5 => ?_⟩
        refine ⟨_, rfl, ixT k.toNat (by omega) e5 (ns_at (by rw [fw.2]; omega)) fun v6 e6 => ?_⟩
        cases e6.int_eq
        exact fin _ (by rw [if_neg (by omega)])
      · have hk0 : ¬ 0 ≤ k := fun z => hc (decide_eq_true z)
        have hk2 : k = -1 := (m3 k hmem).resolve_right (by omega)
        exact ⟨_, rfl, fin _ (by rw [if_pos hk2])⟩
    · rintro H' ⟨s1, h1⟩
      have hl : (tk.map V.int).length = tk.length := List.length_map ..
      rw [hl, List.take_length] at h1
      refine ⟨D, _, rfl, .inl ⟨SqL.of h1, fun l hl => ⟨by show 2 ≤ sizeLine; decide, fun p hp => ?_⟩⟩⟩
      have n1 : p ≠ l := fun e => by rw [e, upd_same] at hp; cases hp
      refine q _ _ (s1.trans ((same_new hl).trans (same_new hp))) ?_
      refine im2 upd_same (.int _) (im_ns ?_)
      rw [upd_ne (Ne.symm n1), upd_same]
      rfl

/-!  check_tuple: N = [(0, 'machine'), (1, 'deed'), (2, 'thing'), (3, 'place')] -/
abbrev s_check_tuple : Stmt := topS 19
abbrev n_check_tuple : List Str := ["machine", "deed", "thing", "place"]
theorem sc_check_tuple : FnScope n_check_tuple ["machine", "deed", "thing", "place"] (defScope s_check_tuple) := ⟨rfl, rfl, rfl, by decide +kernel, rfl, by decide +kernel, by decide +kernel⟩
def spCheck : Sp := fun vs H Q _ => ∃ (m x : V) (d : Int) (M : Mach) (t : Thing), vs = [m, .int d, x, .int 0] ∧ M.Ok ∧ Im H m (dMach M) ∧ Im H x (dTh t) ∧ InKinds M t ∧ -1 ≤ d ∧ d ≤ deedsOf M ∧ Q .non H
theorem ok_check_tuple {f : Addr} {fd : FuncData} (F : Fun K "check_tuple" "check_tuple" s_check_tuple f fd) (c_is_integer : Callee P w K mg base "is_integer" 1 ["thing"] spIsInteger) (c_machine_deeds : Callee P w K mg base "machine_deeds" 1 ["machine"] spDeeds)
    (c_is_thing : Callee P w K mg base "is_thing" 3 ["thing"] spIsThing) (c_machine_kinds : Callee P w K mg base "machine_kinds" 1 ["machine"] spKinds) : FnOk P w K mg base CX0 4 f fd ["machine", "deed", "thing", "place"] spCheck := by
  refine F.ok sc_check_tuple (fun vs H Q E h => ?_) (fun cdv A outer s H vs Q E hr h => ?_)
  · obtain ⟨m, x, d, M, t, rfl, _⟩ := h
    rfl
  · obtain ⟨m, x, d, M, t, rfl, ok, hm, hx, ⟨k1, k2, k3, k4⟩, h1, h2, q⟩ := h
    refine ⟨_, (pss_cons (ps_if (PW.pt (pw_or (pt_not (pt_val (pe_own c_is_integer (hr.mono (by decide)) (by rfl) (pa_cons (pv 1) pa_nil)))) (pw_or1 (pt_not (pt_chain op_le op_lt (pe_un un_neg pe_int) (pv 1) (pe_own c_machine_deeds (hr.mono (by decide)) (by rfl) (pa_cons (pv 0) pa_nil))))))) (pss_one ps_never) pss_nil)
        (pss_one (ps_if (PW.pt (pw_or (pt_not (pt_val (pe_own c_is_thing (hr.mono (by decide)) (by rfl) (pa_cons (pv 2) pa_nil)))) (pw_or1 (pt_cmpR op_ge (pe_ix (r := rIxT K) ix_tup (pv 2) pe_int (fun _ _ => rfl)) (pe_own c_machine_kinds (hr.mono (by decide)) (by rfl) (pa_cons (pv 0) pa_nil)) (nomark _))))) (pss_one ps_never) pss_nil))), ?_⟩
    refine ⟨_, rfl, d, rfl, true, rfl, iteF ?_⟩
    refine ⟨1, rfl, _, rfl, _, _, rfl, rfl, true, blT h1, iteT ?_⟩
    refine ⟨_, rfl, m, M, rfl, ok, hm, _, _, rfl, rfl, true, blT (by omega), iteF ?_⟩
    have hk := ok.b1
    refine ⟨_, rfl, x, t, rfl, hx, k1, by omega, k3, k4, true, rfl, iteF ?_⟩
    refine ⟨_, rfl, ixC 0 (by rfl) hx rfl fun v1 e1 => ?_⟩
    cases e1.int_eq
    refine ⟨_, rfl, m, M, rfl, hm, _, _, rfl, rfl, false, blF (by omega), iteF ?_⟩
    exact q

/-!  changed_figure: N = [(0, 'machine'), (1, 'figures'), (2, 'deed'), (3, 'thing'), (4, 'now')] -/
abbrev s_changed_figure : Stmt := topS 20
abbrev n_changed_figure : List Str := ["machine", "figures", "deed", "thing", "now"]
theorem sc_changed_figure : FnScope n_changed_figure ["machine", "figures", "deed", "thing", "now"] (defScope s_changed_figure) := ⟨rfl, rfl, rfl, by decide +kernel, rfl, by decide +kernel, by decide +kernel⟩
def spChanged : Sp := fun vs H Q _ => ∃ (m x : V) (a : Addr) (d now : Int) (M : Mach) (t : Thing) (th : Figs) (n : Nat), vs = [m, .ref a, .int d, x, .int now] ∧ M.Ok ∧ Im H m (dMach M) ∧ Im H x (dTh t) ∧ DcT H a th n ∧ Lets M th d t ∧ (∀ f, th t = some f → FigW M f) ∧
  ∀ y H', Same H H' → (match nxt M th now d t with | none => y = .non | some g => Im H' y (dFig g)) → Q y H'
theorem ok_changed_figure {f : Addr} {fd : FuncData} (F : Fun K "changed_figure" "changed_figure" s_changed_figure f fd) (c_figure_behind : Callee P w K mg base "figure_behind" 1 ["machine", "figure", "deed", "moment"] spBehind) :
    FnOk P w K mg base CX0 2 f fd ["machine", "figures", "deed", "thing", "now"] spChanged := by
  refine F.ok sc_changed_figure (fun vs H Q E h => ?_) (fun cdv A outer s H vs Q E hr h => ?_)
  · obtain ⟨m, x, a, d, now, M, t, th, n, rfl, _⟩ := h
    rfl
  · obtain ⟨m, x, a, d, now, M, t, th, n, rfl, ok, hm, hx, hd, l, fw, q⟩ := h
    have hu := hu_of hr
    refine ⟨_, (pss_cons (ps_if (pt_cmpR op_eq (pv 2) pe_int (nomark _)) (pss_cons (ps_if (pt_cmp (pc_din hu (pv 3) (pv 1))) (pss_one ps_never) pss_nil)
          (pss_one (ps_ret (pe_tup (pa_cons (pe_ix (r := rIxT K) ix_tup (pe_ix (r := rIxT K) ix_tup (pv 0) pe_int (fun _ _ => rfl)) (pe_ix (r := rIxT K) ix_tup (pv 3) pe_int (fun _ _ => rfl)) (fun _ _ => rfl)) (pa_cons (pe_tup (pa_cons (pv 4) pa_nil)) pa_nil)))))) pss_nil)
        (pss_cons (ps_if (pt_cmp (pc_dnotin hu (pv 3) (pv 1))) (pss_one ps_never) pss_nil)
        (pss_cons (ps_if (pt_cmpR op_lt (pv 2) pe_int (nomark _)) (pss_one (ps_ret pe_non)) pss_nil)
        (pss_cons (ps_if (pt_cmpR op_isN (pe_ix (r := rIxT K) ix_tup (pe_ix (r := rIxT K) ix_tup (pe_ix (r := rIxT K) ix_tup (pv 0) pe_int (fun _ _ => rfl)) (pe_ix (r := rIxT K) ix_tup (pe_dget hu (pv 1) (pv 3) (fun _ _ => rfl)) pe_int (fun _ _ => rfl)) (fun _ _ => rfl)) (pe_op op_sub (pv 2) pe_int) (fun _ _ => rfl)) pe_non (nomark _)) (pss_one ps_never) pss_nil)
        (pss_one (ps_ret (pe_own c_figure_behind (hr.mono (by decide)) (by rfl) (pa_cons (pv 0) (pa_cons (pe_dget hu (pv 1) (pv 3) (fun _ _ => rfl)) (pa_cons (pv 2) (pa_cons (pv 4) pa_nil))))))))))), ?_⟩
    refine ⟨_, rfl, rfl, _, rfl, ?_⟩
    refine ite2 (fun hc => ?_) (fun hc => ?_)
    · have h0 : d = 0 := by simpa using hc
      refine ⟨_, rfl, _, rfl, a, none, rfl, hd.not hx (l.come h0), _, rfl, iteF ?_⟩
      refine ⟨_, rfl, ixC 0 (by rfl) hm rfl fun v1 e1 => ?_⟩
      refine ⟨_, rfl, ixC 0 (by rfl) hx rfl fun v2 e2 => ?_⟩
      cases e2.int_eq
      obtain ⟨k1, k2, _, _⟩ := l.kd
      refine ixT t.1.toNat (by omega) e1 (beg_at (by omega)) fun v3 e3 => ?_
      cases e3.int_eq
      refine ⟨_, rfl, by show 1 ≤ sizeLine; decide, fun p1 hp1 => ⟨by show 2 ≤ sizeLine; decide, fun p2 hp2 => ?_⟩⟩
      have n1 : p2 ≠ p1 := fun e => by rw [e, upd_same] at hp2; cases hp2
      refine q _ _ ((same_new hp1).trans (same_new hp2)) ?_
      have e : nxt M th now d t = some (begun M now t) := if_pos h0
      rw [e]
      refine im2 upd_same (.int _) (im_ns ?_)
      rw [upd_ne (Ne.symm n1), upd_same]
      rfl
    · have h0 : d ≠ 0 := by simpa using hc
      obtain ⟨g, hg⟩ := l.there h0
      obtain ⟨y, hy1, hy2⟩ := hd.got hx hg
      refine ⟨_, rfl, _, rfl, a, some y, rfl, hy1, _, rfl, iteF ?_⟩
      refine ⟨_, rfl, _, _, rfl, rfl, _, rfl, ?_⟩
      refine ite2 (fun hc2 => ?_) (fun hc2 => ?_)
      · have h1 : d = -1 := by
          have := l.lo
          have : d < 0 := of_decide_eq_true hc2
          omega
        refine q _ _ (Same.refl _) ?_
        rw [h1, nxt_goes]
      · have h1 : 1 ≤ d := by
          have : ¬ d < 0 := fun z => hc2 (decide_eq_true z)
          omega
        obtain ⟨g', mv, hg', hmv⟩ := l.deed h1
        rw [hg] at hg'
        cases hg'
        have w' := fw g hg
        obtain ⟨g1, g2⟩ := mvs_at ok w'.1
        obtain ⟨b, tk⟩ := mv
        have g3 := mv_at (M := M) (p := g.1) (mv_some ok w'.1 hmv)
        rw [hmv] at g3
        refine ⟨_, rfl, ixC 2 (by rfl) hm rfl fun v1 e1 => ?_⟩
        refine ⟨_, rfl, _, rfl, a, y, rfl, hy1, ixC 0 (by rfl) hy2 rfl fun v2 e2 => ?_⟩
        cases e2.int_eq
        refine ixT _ (by rfl) e1 g1 fun v3 e3 => ?_
        refine ⟨_, rfl, _, _, rfl, rfl, ixT (d - 1).toNat (by omega) e3 g3 fun v4 e4 => ?_⟩
        obtain ⟨a4, xs4, rfl, _, _⟩ := e4.inv
        refine ⟨rfl, _, rfl, iteF ?_⟩
        refine ⟨_, rfl, _, rfl, _, rfl, a, y, rfl, hy1, _, rfl, _, rfl, m, y, d, now, M, g, (b, tk), rfl, ok, w', h1, hmv, hm, hy2, fun z H' s' hz => ?_⟩
        refine q _ _ s' ?_
        have e : nxt M th now d t = some (behind g (b, tk) now) := by
          unfold nxt
          rw [if_neg h0, if_neg (by omega), hg]
          simp only
          rw [hmv]
        rw [e]
        exact hz
end
end Own

namespace Own
open PySem PySem.Spec PyProof.Rows L2

/-! ### 15. a lane as an object -/
theorem k_mf : ¬ (("lane_machine" : Str) = "lane_figures") := by decide +kernel
theorem k_mo : ¬ (("lane_machine" : Str) = "lane_order") := by decide +kernel
theorem k_mn : ¬ (("lane_machine" : Str) = "lane_now") := by decide +kernel
theorem k_fo : ¬ (("lane_figures" : Str) = "lane_order") := by decide +kernel
theorem k_fn : ¬ (("lane_figures" : Str) = "lane_now") := by decide +kernel
theorem k_on : ¬ (("lane_order" : Str) = "lane_now") := by decide +kernel
def lf (m : V) (d l : Addr) (n : Int) : List (Str × V) := putF "lane_now" (.int n) (putF "lane_order" (.ref l) (putF "lane_figures" (.ref d) (putF "lane_machine" m [])))
theorem putF_pos {f : Str} {v x : V} {r : List (Str × V)} : putF f v ((f, x) :: r) = (f, v) :: r := by
  show (if f = f then _ else _) = _
  rw [if_pos rfl]
theorem putF_neg {f g : Str} {v x : V} {r : List (Str × V)} (h : ¬ g = f) : putF f v ((g, x) :: r) = (g, x) :: putF f v r := by
  show (if g = f then _ else _) = _
  rw [if_neg h]
theorem lf_eq (m : V) (d l : Addr) (n : Int) : lf m d l n = ([("lane_machine", m), ("lane_figures", .ref d), ("lane_order", .ref l), ("lane_now", .int n)] : List (Str × V)) := by
  unfold lf
  rw [show putF "lane_machine" m [] = [(("lane_machine" : Str), m)] from rfl, putF_neg k_mf]
  rw [show putF "lane_figures" (.ref d) [] = [(("lane_figures" : Str), V.ref d)] from rfl, putF_neg k_mo, putF_neg k_fo]
  rw [show putF "lane_order" (.ref l) [] = [(("lane_order" : Str), V.ref l)] from rfl, putF_neg k_mn, putF_neg k_fn, putF_neg k_on]
  rfl
theorem lf_len (m : V) (d l : Addr) (n : Int) : (lf m d l n).length < 1000 := by
  rw [lf_eq]
  show 4 < 1000
  decide
theorem lf_mach (m : V) (d l : Addr) (n : Int) : (lf m d l n).lookup ("lane_machine" : Str) = some m := by
  unfold lf
  rw [lookup_putF, if_neg k_mn, lookup_putF, if_neg k_mo, lookup_putF, if_neg k_mf, lookup_putF, if_pos rfl]
theorem lf_figs (m : V) (d l : Addr) (n : Int) : (lf m d l n).lookup ("lane_figures" : Str) = some (.ref d) := by
  unfold lf
  rw [lookup_putF, if_neg k_fn, lookup_putF, if_neg k_fo, lookup_putF, if_pos rfl]
theorem lf_ord (m : V) (d l : Addr) (n : Int) : (lf m d l n).lookup ("lane_order" : Str) = some (.ref l) := by
  unfold lf
  rw [lookup_putF, if_neg k_on, lookup_putF, if_pos rfl]
theorem lf_now (m : V) (d l : Addr) (n : Int) : (lf m d l n).lookup ("lane_now" : Str) = some (.int n) := by
  unfold lf
  rw [lookup_putF, if_pos rfl]
theorem lf_no (m : V) (d l : Addr) (n : Int) {x : Str} (h1 : ¬ x = "lane_machine") (h2 : ¬ x = "lane_figures") (h3 : ¬ x = "lane_order") (h4 : ¬ x = "lane_now") : (lf m d l n).lookup x = none := by
  unfold lf
  rw [lookup_putF, if_neg h4, lookup_putF, if_neg h3, lookup_putF, if_neg h2, lookup_putF, if_neg h1]
  rfl
theorem lf_put (m : V) (d l : Addr) (n k : Int) : putF "lane_now" (.int k) (lf m d l n) = lf m d l k := by
  rw [lf_eq, lf_eq, putF_neg k_mn, putF_neg k_fn, putF_neg k_on, putF_pos]
structure LaneAt (C : Addr) (H : Hp) (p d l : Addr) (M : Mach) (th : Figs) (o : List Thing) (n : Nat) : Prop where
  ob : ∃ dx m, H p = some (.ins C dx (lf m d l (n : Nat))) ∧ Im H m (dMach M)
  dc : DcT H d th n
  od : LsD H l (o.map dTh)
theorem LaneAt.nt {C : Addr} {H : Hp} {p d l : Addr} {M : Mach} {th : Figs} {o : List Thing} {n : Nat} (L : LaneAt C H p d l M th o n) : ∀ b ∈ [p, d, l], ∀ xs, H b ≠ some (.tup xs) := by
  obtain ⟨⟨dx, m, h1, _⟩, h2, ⟨vs, h3, _⟩⟩ := L
  obtain ⟨kvs, h2⟩ := h2.at_
  intro b hb xs e
  simp only [List.mem_cons, List.not_mem_nil, or_false] at hb
  rcases hb with rfl | rfl | rfl
  · rw [h1] at e; cases e
  · rw [h2] at e; cases e
  · rw [h3] at e; cases e
theorem LaneAt.ne {C : Addr} {H : Hp} {p d l : Addr} {M : Mach} {th : Figs} {o : List Thing} {n : Nat} (L : LaneAt C H p d l M th o n) : p ≠ d ∧ p ≠ l ∧ d ≠ l := by
  obtain ⟨⟨dx, m, h1, _⟩, h2, ⟨vs, h3, _⟩⟩ := L
  obtain ⟨kvs, h2⟩ := h2.at_
  exact ⟨ne_of h1 h2 (fun z => nomatch z), ne_of h1 h3 (fun z => nomatch z), ne_of h2 h3 (fun z => nomatch z)⟩
theorem LaneAt.keep {C : Addr} {H H' : Hp} {p d l : Addr} {M : Mach} {th : Figs} {o : List Thing} {n : Nat} (L : LaneAt C H p d l M th o n) (k : ∀ b ∈ [p, d, l], ∀ x, H b = some x → H' b = some x) (t : TK H H') : LaneAt C H' p d l M th o n := by
  obtain ⟨⟨dx, m, h1, hm⟩, h2, h3⟩ := L
  exact ⟨⟨dx, m, k p (by simp) _ h1, hm.tk t⟩, h2.keep (k d (by simp)) t, h3.keep (k l (by simp)) t⟩
theorem LaneAt.same {C : Addr} {H H' : Hp} {p d l : Addr} {M : Mach} {th : Figs} {o : List Thing} {n : Nat} (L : LaneAt C H p d l M th o n) (s : Same H H') : LaneAt C H' p d l M th o n := L.keep (fun b _ x e => s b x e) (Same.tk s)
/-- all things of the row have figures that fit -/
def Fit (M : Mach) (th : Figs) : Prop := ∀ t f, th t = some f → FigW M f

theorem ImAll.split {H : Hp} : ∀ {ds1 ds2 : List PyData} {vs : List V}, ImAll H vs (ds1 ++ ds2) → ∃ vs1 vs2, vs = vs1 ++ vs2 ∧ ImAll H vs1 ds1 ∧ ImAll H vs2 ds2
  | [], ds2, vs, h => ⟨[], vs, rfl, .nil, h⟩
  | d :: ds1, ds2, vs, h => by
    rw [List.cons_append] at h
    cases h with
    | cons a r =>
      obtain ⟨v1, v2, e, h1, h2⟩ := ImAll.split r
      exact ⟨_ :: v1, v2, by rw [e]; rfl, .cons a h1, h2⟩
theorem cut_two (ax bx : List V) (x y : V) : cutV (ax ++ x :: y :: bx) (some ((ax.length : Nat) : Int)) (some ((ax.length : Nat) + 2 : Int)) = [x, y] := by
  unfold cutV
  have e1 : HT.sIx (ax ++ x :: y :: bx).length 0 (some ((ax.length : Nat) : Int)) = ax.length := by
    rw [HT.sIx_nat, List.length_append]
    omega
  have e2 : HT.sIx (ax ++ x :: y :: bx).length (ax ++ x :: y :: bx).length (some ((ax.length : Nat) + 2 : Int)) = ax.length + 2 := by
    rw [show ((ax.length : Nat) + 2 : Int) = ((ax.length + 2 : Nat) : Int) by omega, HT.sIx_nat, List.length_append, List.length_cons, List.length_cons]
    omega
  rw [e1, e2, List.drop_left' rfl, show ax.length + 2 - ax.length = 2 by omega]
  rfl

/-! which neighbours stand wrongly -/
def wrongAt {A : Type} (r : A → A → Bool) (o : List A) (i : Nat) : Bool := match o[i]?, o[i + 1]? with
  | some a, some b => r b a
  | _, _ => false
def wrongs {A : Type} (r : A → A → Bool) (o : List A) : List Nat := (List.range (o.length - 1)).filter (wrongAt r o)
theorem wrongAt_eq {A : Type} (r : A → A → Bool) (o : List A) (i : Nat) (h : i + 1 < o.length) : wrongAt r o i = r o[i + 1] o[i] := by
  unfold wrongAt
  rw [List.getElem?_eq_getElem (show i < o.length by omega), List.getElem?_eq_getElem h]
theorem wrongs_nil {A : Type} {r : A → A → Bool} {o : List A} (h : wrongs r o = []) (i : Nat) (hi : i + 1 < o.length) : r o[i + 1] o[i] = false := by
  unfold wrongs at h
  have h1 := List.filter_eq_nil_iff.mp h i (List.mem_range.mpr (by omega))
  rw [wrongAt_eq r o i hi] at h1
  simpa using h1
theorem wrongs_cons {A : Type} {r : A → A → Bool} {o : List A} {i : Nat} {ws : List Nat} (h : wrongs r o = i :: ws) : ∃ a x y b, o = a ++ x :: y :: b ∧ a.length = i ∧ r y x = true := by
  have hm : i ∈ wrongs r o := by rw [h]; exact List.mem_cons_self
  unfold wrongs at hm
  obtain ⟨h1, h2⟩ := List.mem_filter.mp hm
  have h3 := List.mem_range.mp h1
  have h4 : i + 1 < o.length := by omega
  rw [wrongAt_eq r o i h4] at h2
  refine ⟨o.take i, o[i], o[i + 1], o.drop (i + 2), ?_, by rw [List.length_take]; omega, h2⟩
  rw [← List.drop_eq_getElem_cons h4, ← List.drop_eq_getElem_cons (show i < o.length by omega), List.take_append_drop]

theorem shaped_th (t : Thing) : SeqAt.shaped (dTh t) = true := by
  unfold dTh
  simp [SeqAt.shaped, PyData.canLay0, PyData.canLayAll0, PyData.depth, PyData.depthAll]
theorem lay_ths : ∀ o : List Thing, PyData.canLayAll0 (o.map dTh) = true
  | [] => by simp [PyData.canLayAll0]
  | t :: o => by
    rw [List.map_cons, PyData.canLayAll0, lay_ths o]
    unfold dTh
    simp [PyData.canLay0, PyData.canLayAll0]
theorem depth_ths : ∀ o : List Thing, PyData.depthAll (o.map dTh) ≤ 1
  | [] => by simp [PyData.depthAll]
  | t :: o => by
    rw [List.map_cons, PyData.depthAll]
    have := depth_ths o
    have e : (dTh t).depth = 1 := by
      unfold dTh
      simp [PyData.depth, PyData.depthAll]
    omega
theorem shaped_ths (o : List Thing) : SeqAt.shaped (.list (o.map dTh)) = true := by
  have := depth_ths o
  have e : (PyData.list (o.map dTh)).depth = PyData.depthAll (o.map dTh) + 1 := by simp [PyData.depth]
  simp only [SeqAt.shaped, PyData.canLay0, lay_ths, Bool.true_and, decide_eq_true_eq]
  omega
theorem eqv_th (t u : Thing) : PyData.eqv (dTh t) (dTh u) = decide (t = u) := by
  unfold dTh
  simp only [PyData.eqv, PyData.eqvAll, Bool.and_true]
  by_cases h : t = u
  · subst h
    simp
  · rw [decide_eq_false h]
    cases h1 : t.1 == u.1 with
    | false => rfl
    | true =>
      cases h2 : t.2 == u.2 with
      | false => rfl
      | true => exact absurd (Prod.ext (by simpa using h1) (by simpa using h2)) h
theorem place_th {o : List Thing} {t : Thing} (h : t ∈ o) : ∃ j, SeqAt.dataPlace (o.map dTh) (dTh t) = some j ∧ o[j]? = some t := by
  unfold SeqAt.dataPlace
  rw [List.findIdx?_map]
  cases e : o.findIdx? ((fun y => PyData.eqv y (dTh t)) ∘ dTh) with
  | none =>
    have := List.findIdx?_eq_none_iff.mp e t h
    simp only [Function.comp] at this
    rw [eqv_th, decide_eq_true rfl] at this
    cases this
  | some j =>
    obtain ⟨h1, h2, _⟩ := List.findIdx?_eq_some_iff_getElem.mp e
    simp only [Function.comp] at h2
    rw [eqv_th] at h2
    refine ⟨j, rfl, ?_⟩
    rw [List.getElem?_eq_getElem h1, of_decide_eq_true h2]
theorem erase_filter {A : Type} [DecidableEq A] {t : A} : ∀ {o : List A} {j : Nat}, o.Nodup → o[j]? = some t → o.eraseIdx j = o.filter fun x => decide (x ≠ t)
  | [], j, _, h => by simp at h
  | x :: o, 0, hn, h => by
    have e : x = t := by simpa using h
    subst e
    rw [List.filter_cons_of_neg (by simp), List.eraseIdx_cons_zero]
    rw [List.filter_eq_self.mpr]
    intro a ha
    exact decide_eq_true fun z => (List.nodup_cons.mp hn).1 (by rw [← z]; exact ha)
  | x :: o, j + 1, hn, h => by
    have h' : o[j]? = some t := by simpa using h
    have hx : x ≠ t := fun z => (List.nodup_cons.mp hn).1 (by rw [z]; exact List.mem_of_getElem? h')
    rw [List.filter_cons_of_pos (by simpa using hx), List.eraseIdx_cons_succ, erase_filter (List.nodup_cons.mp hn).2 h']
theorem map_eraseIdx {A B : Type} (f : A → B) : ∀ (l : List A) (j : Nat), (l.map f).eraseIdx j = (l.eraseIdx j).map f
  | [], _ => rfl
  | _ :: _, 0 => rfl
  | x :: l, j + 1 => by
    rw [List.map_cons, List.eraseIdx_cons_succ, List.eraseIdx_cons_succ, List.map_cons, map_eraseIdx f l j]
end Own

namespace Own
open PySem PySem.Spec PyProof.Rows L2
section
variable {P : Program} {w : World} {K : PySem.W.Frag} {mg : Str → Option Value} {base : Heap} {C : Addr}

/-! Lane __init__: N = [(0, 'self'), (1, 'machine'), (2, 'figures'), (3, 'order'), (4, 'point'), (5, 'times')] -/
abbrev s_init : Stmt := inClass (topS 22) 0
abbrev n_init : List Str := ["self", "machine", "figures", "order", "point", "times"]
theorem sc_init : FnScope n_init ["self", "machine", "figures", "order"] (defScope s_init) := ⟨rfl, rfl, rfl, by decide +kernel, rfl, by decide +kernel, by decide +kernel⟩
def spInit (C : Addr) : Sp := fun vs H Q _ => ∃ (p dx fa oa : Addr) (m : V) (M : Mach), vs = [.ref p, m, .ref fa, .ref oa] ∧ H p = some (.ins C dx []) ∧ H fa = some (.lst []) ∧ H oa = some (.lst []) ∧ Im H m (dMach M) ∧
  ∀ H' d l, Kp [p] H H' → TK H H' → H d = none → H l = none → LaneAt C H' p d l M (fun _ => none) [] 0 → Q .non H'
theorem ok_init {f : Addr} {fd : FuncData} (F : Fun K "__init__" "Lane.__init__" s_init f fd) (T : Txt K mg C) : FnOk P w K mg base CX0 1 f fd ["self", "machine", "figures", "order"] (spInit C) := by
  refine F.ok sc_init (fun vs H Q E h => ?_) (fun cdv A outer s H vs Q E hr h => ?_)
  · obtain ⟨p, dx, fa, oa, m, M, rfl, _⟩ := h
    rfl
  · obtain ⟨p, dx, fa, oa, m, M, rfl, hp, hfa, hoa, hm, q⟩ := h
    refine ⟨_, (pss_cons (ps_fld (pv 0) (pv 1) rfl)
        (pss_cons (ps_fld (pv 0) (pe_callTy (call_dictP rfl) (by rfl) T.n_dict bt_dict (pa_cons (pv 2) pa_nil)) rfl)
        (pss_cons (ps_fld (pv 0) (pe_callTy call_list_of (by rfl) T.n_list bt_list (pa_cons (pv 3) pa_nil)) rfl)
        (pss_cons (ps_fld (pv 0) pe_int rfl)
        (pss_one (ps_retag (ps_lock (ps_for PassesOwn.never rfl (pi_values (pe_fld (pv 0) rfl)) (pg_tup rfl (pgs_cons (pg_name (i := 4) sc_init.nd rfl (Or.inl rfl)) (pgs_cons (pg_name (i := 5) sc_init.nd rfl (Or.inl rfl)) pgs_nil))) pss_never)))))))), ?_⟩
    have nfp : fa ≠ p := ne_of hfa hp (fun z => nomatch z)
    have nop : oa ≠ p := ne_of hoa hp (fun z => nomatch z)
    refine ⟨_, rfl, _, rfl, p, C, dx, [], rfl, hp, T.cl, T.a_mach, (by show 0 < 1000; decide), ?_⟩
    -- self.lane_figures = dict(figures)
    refine ⟨_, rfl, fa, [], [], rfl, SqL.of (by rw [upd_ne nfp]; exact hfa), .nil, fun d hd => ?_⟩
    have npd : p ≠ d := fun e => by rw [← e, upd_same] at hd; cases hd
    have hd0 : H d = none := by rw [upd_ne npd.symm] at hd; exact hd
    have nod : oa ≠ d := ne_of_none hoa hd0
    refine ⟨_, rfl, p, C, dx, _, rfl, (by rw [upd_ne npd, upd_same]), T.cl, T.a_figs, (by show 1 < 1000; decide), ?_⟩
    -- self.lane_order = list(order)
    refine ⟨_, rfl, oa, [], rfl, .inl (SqL.of (by rw [upd_ne nop, upd_ne nod, upd_ne nop]; exact hoa)), fun l hl => ?_⟩
    have npl : p ≠ l := fun e => by rw [← e, upd_same] at hl; cases hl
    have hl1 := hl
    rw [upd_ne npl.symm] at hl1
    have ndl : d ≠ l := fun e => by rw [← e, upd_same] at hl1; cases hl1
    rw [upd_ne ndl.symm, upd_ne npl.symm] at hl1
    refine ⟨_, rfl, p, C, dx, _, rfl, (by rw [upd_ne npl, upd_same]), T.cl, T.a_ord, (by rw [show putF "lane_machine" m [] = [(("lane_machine" : Str), m)] from rfl, putF_neg k_mf]; show 2 < 1000; decide), ?_⟩
    refine ⟨_, rfl, p, C, dx, _, rfl, upd_same, T.cl, T.a_now, (by
      rw [show putF "lane_machine" m [] = [(("lane_machine" : Str), m)] from rfl, putF_neg k_mf, show putF "lane_figures" (.ref d) [] = [(("lane_figures" : Str), V.ref d)] from rfl, putF_neg k_mo, putF_neg k_fo]
      show 3 < 1000
      decide), ?_⟩
    -- for .. in self.lane_figures.values(): nothing
    have hdd : ∀ o o', (upd (upd (upd (upd (upd (upd H p (HO.ins C dx (putF "lane_machine" m []))) d (HO.dK (mergeK [] []))) p (HO.ins C dx (putF "lane_figures" (V.ref d) (putF "lane_machine" m [])))) l (HO.lst [])) p o) p o') d = some (.dK []) := fun o o' => by
      rw [upd_ne npd.symm, upd_ne npd.symm, upd_ne ndl, upd_ne npd.symm, upd_same]
      rfl
    refine ⟨d, .dK [], hdd _ _, trivial, fun od => ?_⟩
    refine ⟨_, rfl, p, C, dx, _, _, rfl, (by rw [upd_ne npd, upd_same]; rfl), T.cl, T.a_figs, lf_figs m d l 0, d, od, [], rfl, upd_same, ?_⟩
    refine ⟨fun i _ σ' H' => i = 0 ∧ σ' = _ ∧ H' = _, ⟨0, rfl, rfl, rfl⟩, fun i m' σ' H' hw => ?_⟩
    obtain ⟨rfl, rfl, rfl⟩ := hw
    refine .inl ⟨⟨upd_same, Nat.le_refl _⟩, upd_same, d, upd_same, ?_⟩
    rw [upd_upd, upd_upd]
    have nt : ∀ b o, H b = some o → b ≠ p → b ≠ d ∧ b ≠ l := fun b o e _ => ⟨ne_of_none e hd0, ne_of_none e hl1⟩
    have kp : Kp [p] H (upd (upd (upd (upd (upd (upd (upd H p (HO.ins C dx (putF "lane_machine" m []))) d (HO.dK (mergeK [] []))) p (HO.ins C dx (putF "lane_figures" (V.ref d) (putF "lane_machine" m [])))) l (HO.lst [])) p
        (HO.ins C dx (putF "lane_order" (V.ref l) (putF "lane_figures" (V.ref d) (putF "lane_machine" m []))))) p (HO.ins C dx (lf m d l 0))) d (.dT [])) := by
      have hpm : p ∈ [p] := List.mem_singleton.mpr rfl
      exact ((((((((Kp.refl _ _).wr hpm).nw hd0).wr hpm).nw hl1).wr hpm).wr hpm).nw hd0)
    have tk : TK H (upd (upd (upd (upd (upd (upd (upd H p (HO.ins C dx (putF "lane_machine" m []))) d (HO.dK (mergeK [] []))) p (HO.ins C dx (putF "lane_figures" (V.ref d) (putF "lane_machine" m [])))) l (HO.lst [])) p
        (HO.ins C dx (putF "lane_order" (V.ref l) (putF "lane_figures" (V.ref d) (putF "lane_machine" m []))))) p (HO.ins C dx (lf m d l 0))) d (.dT [])) :=
      kp.tk fun b hb xs e => by
        rw [List.mem_singleton.mp hb, hp] at e
        cases e
    refine q _ d l kp tk hd0 hl1 ⟨⟨dx, m, by rw [upd_ne npd, upd_same]; rfl, hm.tk tk⟩, DcT.nil upd_same _, [], ?_, .nil⟩
    rw [upd_ne ndl.symm, upd_ne npl.symm, upd_ne npl.symm, upd_same]

/-! Lane is_wrong: N = [(0, 'self'), (1, 'first'), (2, 'second'), (3, 'one'), (4, 'other')] -/
abbrev s_is_wrong : Stmt := inClass (topS 22) 3
abbrev n_is_wrong : List Str := ["self", "first", "second", "one", "other"]
theorem sc_is_wrong : FnScope n_is_wrong ["self", "first", "second"] (defScope s_is_wrong) := ⟨rfl, rfl, rfl, by decide +kernel, rfl, by decide +kernel, by decide +kernel⟩
def spIsWrong (C : Addr) : Sp := fun vs H Q _ => ∃ (p d l : Addr) (x y : V) (M : Mach) (th : Figs) (o : List Thing) (n : Nat) (t u : Thing) (g h : Fig), vs = [.ref p, x, y] ∧ M.Ok ∧ LaneAt C H p d l M th o n ∧ Im H x (dTh t) ∧ Im H y (dTh u) ∧
  th t = some g ∧ th u = some h ∧ FigW M g ∧ FigW M h ∧ ∀ H', Same H H' → Q (.bl (lt (pl M th) u t)) H'
theorem ok_is_wrong {f : Addr} {fd : FuncData} (F : Fun K "is_wrong" "Lane.is_wrong" s_is_wrong f fd) (T : Txt K mg C) (c_is_ahead_by : Callee P w K mg base "is_ahead_by" 2 ["machine", "row", "one", "other"] spAheadBy) :
    FnOk P w K mg base CX0 3 f fd ["self", "first", "second"] (spIsWrong C) := by
  refine F.ok sc_is_wrong (fun vs H Q E h => ?_) (fun cdv A outer s H vs Q E hr h => ?_)
  · obtain ⟨p, d, l, x, y, M, th, o, n, t, u, g, h', rfl, _⟩ := h
    rfl
  · obtain ⟨p, d, l, x, y, M, th, o, n, t, u, g, h', rfl, ok, L, hx, hy, ht, hu', w1, w2, q⟩ := h
    have hu := hu_of hr
    refine ⟨_, (pss_cons (ps_par (i := 3) (j := 4) (by rfl) sc_is_wrong.nd rfl rfl (by decide) rfl rfl (pa_cons (pe_dget hu (pe_fld (pv 0) rfl) (pv 2) (fun _ _ => rfl)) (pa_cons (pe_dget hu (pe_fld (pv 0) rfl) (pv 1) (fun _ _ => rfl)) pa_nil)) (by rfl))
        (pss_one (ps_ret (pe_own c_is_ahead_by (hr.mono (by decide)) (by rfl) (pa_cons (pe_fld (pv 0) rfl) (pa_cons pe_int (pa_cons (pv 3) (pa_cons (pv 4) pa_nil)))))))), ?_⟩
    obtain ⟨⟨dx, m, hp, hm⟩, hd, _⟩ := L
    obtain ⟨v1, g1, i1⟩ := hd.got hy hu'
    obtain ⟨v2, g2, i2⟩ := hd.got hx ht
    refine ⟨_, rfl, p, C, dx, _, _, rfl, hp, T.cl, T.a_figs, lf_figs _ _ _ _, _, rfl, d, v1, rfl, g1, ?_⟩
    refine ⟨_, rfl, p, C, dx, _, _, rfl, hp, T.cl, T.a_figs, lf_figs _ _ _ _, _, rfl, d, v2, rfl, g2, _, _, rfl, ?_⟩
    refine ⟨_, rfl, p, C, dx, _, _, rfl, hp, T.cl, T.a_mach, lf_mach _ _ _ _, _, rfl, _, rfl, m, v1, v2, M, h', g, rfl, ok, w2, w1, hm, i1, i2, fun H' s' => ?_⟩
    have e : lt (pl M th) u t = plt (place M h') (place M g) := by
      unfold lt
      rw [pl_some ht, pl_some hu']
    rw [e] at q
    exact q H' s'

/-! Lane wrong_at: N = [(0, 'self'), (1, 'order'), (2, 'index')] -/
abbrev s_wrong_at : Stmt := inClass (topS 22) 4
abbrev n_wrong_at : List Str := ["self", "order", "index"]
theorem sc_wrong_at : FnScope n_wrong_at ["self"] (defScope s_wrong_at) := ⟨rfl, rfl, rfl, by decide +kernel, rfl, by decide +kernel, by decide +kernel⟩
def spWrongAt (C : Addr) : Sp := fun vs H Q _ => ∃ (p d l : Addr) (M : Mach) (th : Figs) (o : List Thing) (n : Nat), vs = [.ref p] ∧ M.Ok ∧ LaneAt C H p d l M th o n ∧ Row th o ∧ Fit M th ∧ o.length ≤ 900 ∧
  ∀ wa H', Same H H' → H wa = none → H' wa = some (.lst ((wrongs (lt (pl M th)) o).map fun i => V.int ((i : Nat) : Int))) → Q (.ref wa) H'
theorem ok_wrong_at {f : Addr} {fd : FuncData} (F : Fun K "wrong_at" "Lane.wrong_at" s_wrong_at f fd) (T : Txt K mg C) (c_is_wrong : CalleeM P w K mg base C "is_wrong" 3 ["self", "first", "second"] (spIsWrong C)) :
    FnOk P w K mg base CX0 4 f fd ["self"] (spWrongAt C) := by
  refine F.ok sc_wrong_at (fun vs H Q E h => ?_) (fun cdv A outer s H vs Q E hr h => ?_)
  · obtain ⟨p, d, l, M, th, o, n, rfl, _⟩ := h
    rfl
  · obtain ⟨p, d, l, M, th, o, n, rfl, ok, L, R, fit, hlen, q⟩ := h
    refine ⟨_, (pss_cons (ps_set (i := 1) sc_wrong_at.nd rfl (Or.inr rfl) (pe_fld (pv 0) rfl))
        (pss_one (ps_ret (pe_lc (own := [("index", 2)]) rfl sc_wrong_at.nd (pi_range1 (by rfl) T.n_range (pa_cons (pe_op op_sub (pe_callB call_len_seq (by rfl) T.n_len bt_len (pa_cons (pv 1) pa_nil)) pe_int) pa_nil)) (blkOk_by (own := [("index", 2)]) (N := n_wrong_at) (sc := defScope s_wrong_at) (by decide +kernel)) (fun _ _ _ _ _ => (pg_name (i := 2) sc_wrong_at.nd rfl (Or.inl rfl))) (fun _ _ _ _ _ => (pts_one (pt_val (pe_ownM (pv 0) T.cl c_is_wrong (hr.mono (by decide)) (pa_cons (pe_ix (r := rIxL K) ix_list (pv 1) (pv 2) (fun _ _ => rfl)) (pa_cons (pe_ix (r := rIxL K) ix_list (pv 1) (pe_op op_add (pv 2) pe_int) (fun _ _ => rfl)) pa_nil)))))) (fun _ _ _ _ _ => (pv 2)))))), ?_⟩
    obtain ⟨⟨dx, m, hp, hm⟩, hd, hod⟩ := id L
    refine ⟨_, rfl, p, C, dx, _, _, rfl, hp, T.cl, T.a_ord, lf_ord _ _ _ _, ?_⟩
    obtain ⟨vs, hl, hvs⟩ := id hod
    have hvl : vs.length = o.length := by rw [hvs.len, List.length_map]
    refine ⟨_, rfl, l, vs, rfl, .inl (SqL.of hl), _, _, rfl, rfl, _, rfl, (by omega), (by omega), fun D hD => ?_⟩
    have hn : ((vs.length : Int) - 1).toNat = o.length - 1 := by omega
    refine lc_range (lo := 0) (n := ((vs.length : Int) - 1).toNat) (fun i H' => Same H H' ∧ H' D = some (.lst (((List.range i).filter (wrongAt (lt (pl M th)) o)).map fun i => V.int ((i : Nat) : Int)))) ⟨same_new hD, upd_same⟩ ?_ ?_
    · rintro i H' hi ⟨s1, h1⟩
      have hi1 : i + 1 < o.length := by omega
      have hi0 : i < o.length := by omega
      refine ⟨rfl, ?_⟩
      have L' := L.same s1
      obtain ⟨⟨dx', m', hp', hm'⟩, hd', hod'⟩ := id L'
      have a1 : (o.map dTh)[i]? = some (dTh o[i]) := by rw [List.getElem?_map, List.getElem?_eq_getElem hi0]; rfl
      have a2 : (o.map dTh)[i + 1]? = some (dTh o[i + 1]) := by rw [List.getElem?_map, List.getElem?_eq_getElem hi1]; rfl
      obtain ⟨g1, hg1⟩ := (R.mem _).mp (List.getElem_mem hi0)
      obtain ⟨g2, hg2⟩ := (R.mem _).mp (List.getElem_mem hi1)
      refine ⟨_, rfl, p, dx', _, rfl, hp', lf_no _ _ _ _ (by decide +kernel) (by decide +kernel) (by decide +kernel) (by decide +kernel), ?_⟩
      refine ⟨_, rfl, _, rfl, ixL i (by omega) hod' a1 fun v1 e1 => ?_⟩
      refine ⟨_, rfl, _, rfl, _, _, rfl, rfl, ixL (i + 1) (by omega) hod' a2 fun v2 e2 => ?_⟩
      refine ⟨p, d, l, v1, v2, M, th, o, n, _, _, g1, g2, rfl, ok, L', e1, e2, hg1, hg2, fit _ _ hg1, fit _ _ hg2, fun H2 s2 => ⟨_, rfl, ?_⟩⟩
      rw [← wrongAt_eq (lt (pl M th)) o i hi1]
      cases hw : wrongAt (lt (pl M th)) o i with
      | true =>
        refine ⟨_, rfl, _, s2 _ _ h1, small1000 ?_, fun b x e => ?_, ?_⟩
        · rw [List.length_map]
          have := List.length_filter_le (wrongAt (lt (pl M th)) o) (List.range i)
          rw [List.length_range] at this
          omega
        · rw [upd_ne (ne_of_none e hD)]
          exact s2 _ _ (s1 b x e)
        · rw [upd_same, List.range_succ, List.filter_append, List.map_append, List.filter_cons_of_pos hw]
          show _ = some (HO.lst (_ ++ [V.int ((i : Nat) : Int)]))
          rw [show (0 : Int) + (i : Nat) = (i : Nat) by omega]
      | false =>
        refine ⟨s1.trans s2, ?_⟩
        rw [s2 _ _ h1, List.range_succ, List.filter_append, List.map_append, List.filter_cons_of_neg (by rw [hw]; decide)]
        simp
    · rintro H' ⟨s1, h1⟩
      rw [hn] at h1
      exact q D H' s1 hD h1

/-! Lane change_places: N = [(0, 'self'), (1, 'index'), (2, 'first'), (3, 'second')] -/
abbrev s_change_places : Stmt := inClass (topS 22) 6
abbrev n_change_places : List Str := ["self", "index", "first", "second"]
theorem sc_change_places : FnScope n_change_places ["self", "index"] (defScope s_change_places) := ⟨rfl, rfl, rfl, by decide +kernel, rfl, by decide +kernel, by decide +kernel⟩
def spSwap (C : Addr) : Sp := fun vs H Q _ => ∃ (p d l : Addr) (M : Mach) (th : Figs) (a b : List Thing) (t u : Thing) (n : Nat), vs = [.ref p, .int ((a.length : Nat) : Int)] ∧ LaneAt C H p d l M th (a ++ t :: u :: b) n ∧ (a ++ t :: u :: b).length ≤ 900 ∧
  ∀ H', Kp [l] H H' → TK H H' → LaneAt C H' p d l M th (a ++ u :: t :: b) n → Q .non H'
theorem ok_change_places {f : Addr} {fd : FuncData} (F : Fun K "change_places" "Lane.change_places" s_change_places f fd) (T : Txt K mg C) : FnOk P w K mg base CX0 1 f fd ["self", "index"] (spSwap C) := by
  refine F.ok sc_change_places (fun vs H Q E h => ?_) (fun cdv A outer s H vs Q E hr h => ?_)
  · obtain ⟨p, d, l, M, th, a, b, t, u, n, rfl, _⟩ := h
    rfl
  · obtain ⟨p, d, l, M, th, a, b, t, u, n, rfl, L, hlen, q⟩ := h
    refine ⟨_, (pss_cons (ps_asg (pe_slice sl_list (pe_fld (pv 0) rfl) (po_some (pv 1)) (po_some (pe_op op_add (pv 1) pe_int))) (pg_unl rfl (pgs_cons (pg_name (i := 2) sc_change_places.nd rfl (Or.inl rfl)) (pgs_cons (pg_name (i := 3) sc_change_places.nd rfl (Or.inl rfl)) pgs_nil))))
        (pss_one (ps_asg (pe_lst (pa_cons (pv 3) (pa_cons (pv 2) pa_nil))) (pg_subS (pe_fld (pv 0) rfl) (pv 1) (pe_op op_add (pv 1) pe_int))))), ?_⟩
    obtain ⟨⟨dx, m, hp, hm⟩, hd, vs, hl, hvs⟩ := id L
    obtain ⟨npd, npl, ndl⟩ := L.ne
    rw [List.map_append, List.map_cons, List.map_cons] at hvs
    obtain ⟨ax, v2, rfl, hax, r⟩ := hvs.split
    cases r with
    | cons ht r => cases r with
    | cons hu' hb =>
    rename_i vt vu bx
    have hal : ax.length = a.length := by rw [hax.len, List.length_map]
    rw [← hal]
    -- first, second = self.lane_order[index:index + 2]
    refine ⟨_, rfl, p, C, dx, _, _, rfl, hp, T.cl, T.a_ord, lf_ord _ _ _ _, _, rfl, _, rfl, _, rfl, _, _, rfl, rfl, _, rfl, l, _, rfl, SqL.of hl, fun c hc => ?_⟩
    rw [cut_two]
    refine ⟨c, _, rfl, SqL.of upd_same, rfl, _, _, rfl, _, _, rfl, rfl, ?_⟩
    have s1 : Same H (upd H c (.lst [vt, vu])) := same_new hc
    -- self.lane_order[index:index + 2] = [second, first]
    refine ⟨_, rfl, _, rfl, by show 2 ≤ sizeLine; decide, fun e he => ?_⟩
    have s2 := s1.trans (same_new (o := .lst [vu, vt]) he)
    have nle : l ≠ e := ne_of_none (s1 _ _ hl) he
    refine ⟨_, rfl, p, C, dx, _, _, rfl, s2 _ _ hp, T.cl, T.a_ord, lf_ord _ _ _ _, _, rfl, _, rfl, _, _, rfl, rfl, ?_⟩
    refine ⟨l, e, _, _, _, _, rfl, rfl, rfl, rfl, s2 _ _ hl, upd_same, nle, by omega, by omega, ?_, ?_, ?_⟩
    · rw [List.length_append, List.length_cons, List.length_cons]
      omega
    · refine Nat.le_of_lt (small1000 ?_)
      have e1 := hb.len
      rw [List.length_map] at e1
      simp only [List.length_append, List.length_cons, List.length_nil] at hlen ⊢
      omega
    · have ed : (ax ++ vt :: vu :: bx).drop (ax.length + 2) = bx := by
        rw [← List.drop_drop, List.drop_left' rfl]
        rfl
      have hE : (ax ++ vt :: vu :: bx).take ((ax.length : Nat) : Int).toNat ++ [vu, vt] ++ (ax ++ vt :: vu :: bx).drop ((ax.length : Nat) + 2 : Int).toNat = ax ++ vu :: vt :: bx := by
        rw [show ((ax.length : Nat) : Int).toNat = ax.length by omega, show ((ax.length : Nat) + 2 : Int).toNat = ax.length + 2 by omega, List.take_left' rfl, ed, List.append_assoc]
        rfl
      rw [hE]
      have k1 : Kp [l] H (upd (upd (upd H c (.lst [vt, vu])) e (.lst [vu, vt])) l (.lst (ax ++ vu :: vt :: bx))) := (Same.kp s2).wr (List.mem_singleton.mpr rfl)
      have tk := k1.tk fun b hb xs e => by
        rw [List.mem_singleton.mp hb, hl] at e
        cases e
      refine q _ k1 tk ⟨⟨dx, m, k1 _ _ hp (by simpa using npl), hm.tk tk⟩, hd.keep (fun o e => k1 _ _ e (by simpa using ndl)) tk, _, upd_same, ?_⟩
      rw [List.map_append, List.map_cons, List.map_cons]
      exact (hax.tk tk).app (.cons (hu'.tk tk) (.cons (ht.tk tk) (hb.tk tk)))
end
end Own

namespace Own
open PySem PySem.Spec PyProof.Rows L2
theorem small5 {n : Nat} (h : n ≤ 100000) : n < sizeLine := Nat.lt_of_le_of_lt h (by decide)
theorem inV_ints (i : Nat) : ∀ ns : List Nat, inV (.int (i : Nat)) ((ns.map fun n : Nat => (n : Int)).map V.int) = decide (i ∈ ns)
  | [] => rfl
  | n :: ns => by
    have ih := inV_ints i ns
    unfold inV at *
    rw [List.map_cons, List.map_cons, List.any_cons, ih]
    show (((n : Int) == (i : Int)) || decide (i ∈ ns)) = decide (i ∈ n :: ns)
    by_cases h : i = n
    · subst h; simp
    · have h2 : ((n : Int) == (i : Int)) = false := by
        have h3 : (n : Int) ≠ (i : Int) := by omega
        simpa using h3
      rw [h2]
      simp [h]
theorem flat_ints : ∀ ns : List Int, (ns.map V.int).all flatV = true
  | [] => rfl
  | n :: ns => by
    rw [List.map_cons, List.all_cons, flat_ints ns]
    rfl
section
variable {P : Program} {w : World} {K : PySem.W.Frag} {mg : Str → Option Value} {base : Heap} {C : Addr}

/-! Lane settle: N = [(0, 'self'), (1, 'found'), (2, 'wrong')] -/
abbrev s_settle : Stmt := inClass (topS 22) 8
abbrev n_settle : List Str := ["self", "found", "wrong"]
theorem sc_settle : FnScope n_settle ["self"] (defScope s_settle) := ⟨rfl, rfl, rfl, by decide +kernel, rfl, by decide +kernel, by decide +kernel⟩
def spSettle (C : Addr) : Sp := fun vs H Q _ => ∃ (p d l : Addr) (M : Mach) (th : Figs) (o : List Thing) (n : Nat), vs = [.ref p] ∧ M.Ok ∧ LaneAt C H p d l M th o n ∧ Row th o ∧ Apart (pl M th) o ∧ Fit M th ∧ o.length ≤ 100 ∧
  ∀ fa xs H', Kp [l] H H' → TK H H' → LaneAt C H' p d l M th (srt (pl M th) o) n → H' fa = some (.lst xs) → xs.length = inv (lt (pl M th)) o → Q (.ref fa) H'
theorem ok_settle {f : Addr} {fd : FuncData} (F : Fun K "settle" "Lane.settle" s_settle f fd) (T : Txt K mg C) (c_wrong_at : CalleeM P w K mg base C "wrong_at" 4 ["self"] (spWrongAt C))
    (c_change_places : CalleeM P w K mg base C "change_places" 1 ["self", "index"] (spSwap C)) : FnOk P w K mg base CX0 5 f fd ["self"] (spSettle C) := by
  refine F.ok sc_settle (fun vs H Q E h => ?_) (fun cdv A outer s H vs Q E hr h => ?_)
  · obtain ⟨p, d, l, M, th, o, n, rfl, _⟩ := h
    rfl
  · obtain ⟨p, d, l, M, th, o, n, rfl, ok, L, R, ap, fit, hlen, q⟩ := h
    refine ⟨_, (pss_cons (ps_set (i := 1) sc_settle.nd rfl (Or.inl rfl) (pe_lst pa_nil))
        (pss_cons (ps_set (i := 2) sc_settle.nd rfl (Or.inl rfl) (pe_ownM0 (pv 0) T.cl c_wrong_at (hr.mono (by decide))))
        (pss_cons (ps_while PassesOwn.never (pt_truth (pv 2) (by intro _; rfl)) (pss_cons (ps_expr (pe_bm PySem.F.plainAttrs_list PySem.F.slot_list_append PySem.F.type_list_append mt_append (pv 1) (pa_cons (pe_ix (r := rIxL K) ix_list (pv 2) pe_int (fun _ _ => rfl)) pa_nil)))
          (pss_cons (ps_expr (pe_ownM (pv 0) T.cl c_change_places (hr.mono (by decide)) (pa_cons (pe_ix (r := rIxL K) ix_list (pv 2) pe_int (fun _ _ => rfl)) pa_nil)))
          (pss_one (ps_set (i := 2) sc_settle.nd rfl (Or.inl rfl) (pe_ownM0 (pv 0) T.cl c_wrong_at (hr.mono (by decide))))))))
        (pss_one (ps_ret (pv 1)))))), ?_⟩
    obtain ⟨⟨dx, m, hp, hm⟩, hd, vs, hl, hvs⟩ := id L
    obtain ⟨npd, npl, ndl⟩ := L.ne
    -- found = []; wrong = self.wrong_at()
    refine ⟨Nat.zero_le _, fun fa hfa => ?_⟩
    have nlf : l ≠ fa := ne_of_none hl hfa
    have L1 : LaneAt C (upd H fa (.lst [])) p d l M th o n := L.same (same_new hfa)
    refine ⟨_, rfl, p, dx, _, rfl, same_new hfa _ _ hp, lf_no _ _ _ _ (by decide +kernel) (by decide +kernel) (by decide +kernel) (by decide +kernel), ?_⟩
    refine ⟨p, d, l, M, th, o, n, rfl, ok, L1, R, fit, by omega, fun wa H2 s2 hwa h2 => ?_⟩
    have nwf : wa ≠ fa := fun e => by rw [e, upd_same] at hwa; cases hwa
    have nwl : wa ≠ l := fun e => by rw [e, same_new hfa _ _ hl] at hwa; cases hwa
    -- while wrong
    refine ⟨fun m' σ' H' => ∃ (o' : List Thing) (wa : Addr) (found : List V), σ' = [some (.ref p), some (.ref fa), some (.ref wa)] ∧ Kp [l] H H' ∧ TK H H' ∧ LaneAt C H' p d l M th o' n ∧ List.Perm o' o ∧ H' fa = some (.lst found) ∧
      found.length + inv (lt (pl M th)) o' = inv (lt (pl M th)) o ∧ H' wa = some (.lst ((wrongs (lt (pl M th)) o').map fun i => V.int ((i : Nat) : Int))) ∧ wa ≠ fa ∧ wa ≠ l ∧ m' = inv (lt (pl M th)) o',
      ⟨_, o, wa, [], rfl, Same.kp ((same_new hfa).trans s2), Same.tk ((same_new hfa).trans s2), L1.same s2, List.Perm.refl _, s2 _ _ upd_same, by simp, h2, nwf, nwl, rfl⟩, ?_⟩
    rintro m' σ' H' ⟨o', wa, found, rfl, kp, tk, L', pm, hfa', hcount, hwa', nwf, nwl, rfl⟩
    have R' : Row th o' := R.perm pm
    have hil := inv_le (lt (pl M th)) o
    have hsq : o.length * o.length ≤ 100 * 100 := Nat.mul_le_mul hlen hlen
    have hol : o'.length = o.length := pm.length_eq
    cases hws : wrongs (lt (pl M th)) o' with
    | nil =>
      rw [hws] at hwa'
      refine ⟨_, rfl, false, .inl ⟨_, SqL.of hwa', rfl⟩, iteF ?_⟩
      -- return found
      have srtd : Sorted (pl M th) o' := sorted_of_adj (ap.perm pm) R'.nd fun i hi => wrongs_nil hws i hi
      have e0 := srtd.inv
      have eo := sorted_eq_srt ap R.nd pm srtd
      refine ⟨_, rfl, ?_⟩
      rw [eo] at L'
      exact q fa found H' kp tk L' hfa' (by omega)
    | cons i ws =>
      rw [hws] at hwa'
      refine ⟨_, rfl, true, .inl ⟨_, SqL.of hwa', rfl⟩, iteT ?_⟩
      obtain ⟨a, t, u, b, rfl, hai, hut⟩ := wrongs_cons hws
      have hsw := inv_swap (lt (pl M th)) t u hut (plt_asymm hut) b a
      obtain ⟨⟨dx', mm, hp', hm'⟩, hd', vs', hl', hvs'⟩ := id L'
      refine ⟨fun σ2 H2 => ∃ m2, m2 < inv (lt (pl M th)) (a ++ t :: u :: b) ∧ ∃ (o' : List Thing) (wa : Addr) (found : List V), σ2 = [some (.ref p), some (.ref fa), some (.ref wa)] ∧ Kp [l] H H2 ∧ TK H H2 ∧ LaneAt C H2 p d l M th o' n ∧ List.Perm o' o ∧ H2 fa = some (.lst found) ∧
        found.length + inv (lt (pl M th)) o' = inv (lt (pl M th)) o ∧ H2 wa = some (.lst ((wrongs (lt (pl M th)) o').map fun i => V.int ((i : Nat) : Int))) ∧ wa ≠ fa ∧ wa ≠ l ∧ m2 = inv (lt (pl M th)) o', fun σ2 H2 h => h, ?_⟩
      -- found.append(wrong[0])
      refine ⟨_, rfl, .inl ⟨rfl, _, SqL.of hfa'⟩, _, rfl, wa, _, 0, _, rfl, rfl, SqL.of hwa', atI_nat (j := 0) rfl, fa, found, _, rfl, rfl, hfa', small5 (by omega), ?_⟩
      -- self.change_places(wrong[0])
      have npf : p ≠ fa := ne_of_none hp hfa
      have ndf : d ≠ fa := by
        obtain ⟨kvs, e⟩ := hd.at_
        exact ne_of_none e hfa
      have tk1 : TK H' (upd H' fa (.lst (found ++ [V.int ((i : Nat) : Int)]))) := tk_upd fun xs e => by rw [hfa'] at e; cases e
      have L1 : LaneAt C (upd H' fa (.lst (found ++ [V.int ((i : Nat) : Int)]))) p d l M th (a ++ t :: u :: b) n := L'.keep (fun b hb x e => by
        rw [upd_ne ?_]
        · exact e
        · simp only [List.mem_cons, List.not_mem_nil, or_false] at hb
          rcases hb with rfl | rfl | rfl
          · exact npf
          · exact ndf
          · exact nlf) tk1
      refine ⟨_, rfl, p, dx', _, rfl, (by rw [upd_ne npf]; exact hp'), lf_no _ _ _ _ (by decide +kernel) (by decide +kernel) (by decide +kernel) (by decide +kernel), ?_⟩
      refine ⟨_, rfl, wa, _, 0, _, rfl, rfl, SqL.of (by rw [upd_ne nwf]; exact hwa'), atI_nat (j := 0) rfl, ?_⟩
      refine ⟨p, d, l, M, th, a, b, t, u, n, (by rw [hai]; rfl), L1, by omega, fun H3 k3 tk3 L3 => ?_⟩
      -- wrong = self.wrong_at()
      obtain ⟨⟨dx3, m3, hp3, _⟩, _⟩ := id L3
      have pm2 : List.Perm (a ++ u :: t :: b) o := (List.Perm.append_left a (List.Perm.swap _ _ _)).trans pm
      have R3 : Row th (a ++ u :: t :: b) := R.perm pm2
      have hf3 : H3 fa = some (.lst (found ++ [V.int ((i : Nat) : Int)])) := k3 _ _ upd_same (by simpa using nlf.symm)
      refine ⟨_, rfl, p, dx3, _, rfl, hp3, lf_no _ _ _ _ (by decide +kernel) (by decide +kernel) (by decide +kernel) (by decide +kernel), ?_⟩
      refine ⟨p, d, l, M, th, _, n, rfl, ok, L3, R3, fit, (by have := pm2.length_eq; omega), fun wb H4 s4 hwb h4 => ?_⟩
      have nbf : wb ≠ fa := fun e => by rw [e, hf3] at hwb; cases hwb
      have nbl : wb ≠ l := fun e => by
        obtain ⟨_, _, vs3, hl3, _⟩ := id L3
        rw [e, hl3] at hwb
        cases hwb
      have kp3 : Kp [l] H H3 := (kp.nw hfa).trans k3
      have tk13 : TK H H3 := (tk.trans tk1).trans tk3
      refine ⟨inv (lt (pl M th)) (a ++ u :: t :: b), by omega, _, wb, _, rfl, kp3.trans (Same.kp s4), tk13.trans (Same.tk s4), L3.same s4, pm2, s4 _ _ hf3, ?_, h4, nbf, nbl, rfl⟩
      rw [List.length_append, List.length_singleton]
      omega

/-! Lane do: N = [(0, 'self'), (1, 'deed'), (2, 'thing'), (3, 'figure')] -/
abbrev s_do : Stmt := inClass (topS 22) 9
abbrev n_do : List Str := ["self", "deed", "thing", "figure"]
theorem sc_do : FnScope n_do ["self", "deed", "thing"] (defScope s_do) := ⟨rfl, rfl, rfl, by decide +kernel, rfl, by decide +kernel, by decide +kernel⟩
def spDo (C : Addr) : Sp := fun vs H Q _ => ∃ (p dd l : Addr) (x : V) (d : Int) (M : Mach) (th : Figs) (o : List Thing) (n : Nat) (t : Thing), vs = [.ref p, .int d, x] ∧ M.Ok ∧ LaneAt C H p dd l M th o n ∧ Im H x (dTh t) ∧ Lets M th d t ∧ Row th o ∧ Fit M th ∧ n ≤ 100 ∧ o.length ≤ 100 ∧
  ∀ H', Kp [p, dd, l] H H' → TK H H' → LaneAt C H' p dd l M (putT th t (nxt M th (n : Nat) d t)) (ordNext o d t) (n + 1) → Q .non H'
theorem ok_do {f : Addr} {fd : FuncData} (F : Fun K "do" "Lane.do" s_do f fd) (T : Txt K mg C) (c_check_tuple : Callee P w K mg base "check_tuple" 4 ["machine", "deed", "thing", "place"] spCheck)
    (c_changed_figure : Callee P w K mg base "changed_figure" 2 ["machine", "figures", "deed", "thing", "now"] spChanged) : FnOk P w K mg base CX0 5 f fd ["self", "deed", "thing"] (spDo C) := by
  refine F.ok sc_do (fun vs H Q E h => ?_) (fun cdv A outer s H vs Q E hr h => ?_)
  · obtain ⟨p, dd, l, x, d, M, th, o, n, t, rfl, _⟩ := h
    rfl
  · obtain ⟨p, dd, l, x, d, M, th, o, n, t, rfl, ok, L, hx, lets, R, fit, hn, hol, q⟩ := h
    have hu := hu_of hr
    refine ⟨_, (pss_cons (ps_expr (pe_own c_check_tuple (hr.mono (by decide)) (by rfl) (pa_cons (pe_fld (pv 0) rfl) (pa_cons (pv 1) (pa_cons (pv 2) (pa_cons pe_int pa_nil))))))
        (pss_cons (ps_set (i := 3) sc_do.nd rfl (Or.inl rfl) (pe_own c_changed_figure (hr.mono (by decide)) (by rfl) (pa_cons (pe_fld (pv 0) rfl) (pa_cons (pe_fld (pv 0) rfl) (pa_cons (pv 1) (pa_cons (pv 2) (pa_cons (pe_fld (pv 0) rfl) pa_nil)))))))
        (pss_cons (ps_if (pt_cmpR op_eq (pv 1) pe_int (nomark _)) (pss_one (ps_expr (pe_bm PySem.F.plainAttrs_list PySem.F.slot_list_append PySem.F.type_list_append mt_append (pe_fld (pv 0) rfl) (pa_cons (pv 2) pa_nil)))) pss_nil)
        (pss_cons (ps_if (pt_cmpR op_isN (pv 3) pe_non (nomark _)) (pss_cons (ps_expr (pe_bm PySem.F.plainAttrs_list PySem.F.slot_list_remove PySem.F.type_list_remove (mt_removeD (units65 hr)) (pe_fld (pv 0) rfl) (pa_cons (pv 2) pa_nil)))
          (pss_one (ps_expr (pe_bm PySem.F.plainAttrs_dict PySem.F.slot_dict_pop PySem.F.type_dict_pop (mt_pop1T hu) (pe_fld (pv 0) rfl) (pa_cons (pv 2) pa_nil))))) (pss_one (ps_dput hu (pe_fld (pv 0) rfl) (pv 2) (pv 3) rfl)))
        (pss_one (ps_fldaug (pv 0) pe_int in_add)))))), ?_⟩
    obtain ⟨⟨dx, m, hp, hm⟩, hd, vs, hl, hvs⟩ := id L
    obtain ⟨npd, npl, ndl⟩ := L.ne
    -- self.lane_now += 1, at the end of each way
    have fin : ∀ (σ : L2.St) (H3 : Hp), σ[0]? = some (some (.ref p)) → Kp [dd, l] H H3 → TK H H3 → DcT H3 dd (putT th t (nxt M th (n : Nat) d t)) (n + 1) → LsD H3 l ((ordNext o d t).map dTh) →
        sFldAug K (tVar 0) (tC (.int 1)) rAdd "lane_now" { nx := fun _ H' => Q .non H', rt := Q } σ H3 := fun σ H3 h0 k3 t3 d3 l3 => by
      have hp3 := k3 _ _ hp (by simp [npd, npl])
      refine ⟨_, h0, p, C, dx, _, _, rfl, hp3, T.cl, T.a_now, lf_now _ _ _ _, _, _, rfl, rfl, dx, _, hp3, lf_len _ _ _ _, ?_⟩
      rw [lf_put]
      have t4 : TK H3 (upd H3 p (.ins C dx (lf m dd l ((n : Nat) + 1 : Int)))) := tk_upd fun xs e => by rw [hp3] at e; cases e
      refine q _ ((k3.mono (by simp)).wr (by simp)) (t3.trans t4) ⟨⟨dx, m, by rw [upd_same]; rfl, hm.tk (t3.trans t4)⟩, d3.keep (fun o e => by rw [upd_ne npd.symm]; exact e) t4, l3.keep (fun o e => by rw [upd_ne npl.symm]; exact e) t4⟩
    -- check_tuple(..)
    refine ⟨_, rfl, p, C, dx, _, _, rfl, hp, T.cl, T.a_mach, lf_mach _ _ _ _, _, rfl, _, rfl, m, x, d, M, t, rfl, ok, hm, hx, lets.kd, lets.lo, lets.hi, ?_⟩
    -- figure = changed_figure(..)
    refine ⟨_, rfl, p, C, dx, _, _, rfl, hp, T.cl, T.a_mach, lf_mach _ _ _ _, _, rfl, p, C, dx, _, _, rfl, hp, T.cl, T.a_figs, lf_figs _ _ _ _, _, rfl, _, rfl, _, rfl, p, C, dx, _, _, rfl, hp, T.cl, T.a_now, lf_now _ _ _ _, ?_⟩
    refine ⟨m, x, dd, d, (n : Nat), M, t, th, n, rfl, ok, hm, hx, hd, lets, fit t, fun y H1 s1 hy => ?_⟩
    have hp1 := s1 _ _ hp
    have hl1 := s1 _ _ hl
    have hx1 := hx.tk (Same.tk s1)
    have hd1 : DcT H1 dd th n := hd.keep (fun o e => s1 _ _ e) (Same.tk s1)
    have hvs1 := hvs.tk (Same.tk s1)
    have hvl : vs.length = o.length := by rw [hvs.len, List.length_map]
    refine ⟨_, rfl, rfl, _, rfl, ?_⟩
    refine ite2 (fun hc => ?_) (fun hc => ?_)
    · -- it comes
      have h0 : d = 0 := by simpa using hc
      have e : nxt M th (n : Nat) d t = some (begun M (n : Nat) t) := if_pos h0
      have eo : ordNext o d t = o ++ [t] := if_pos h0
      rw [e] at hy fin
      rw [eo] at fin
      refine ⟨_, rfl, p, C, dx, _, _, rfl, hp1, T.cl, T.a_ord, lf_ord _ _ _ _, .inl ⟨rfl, _, SqL.of hl1⟩, _, rfl, l, vs, x, rfl, rfl, hl1, small5 (by omega), ?_⟩
      have t2 : TK H1 (upd H1 l (.lst (vs ++ [x]))) := tk_upd fun xs e => by rw [hl1] at e; cases e
      obtain ⟨a, xs, rfl, ha, _⟩ := hy.inv
      refine ⟨_, rfl, rfl, _, rfl, iteF ?_⟩
      have hd2 : DcT (upd H1 l (.lst (vs ++ [x]))) dd th n := hd1.keep (fun o e => by rw [upd_ne ndl]; exact e) t2
      obtain ⟨H3, pd, k3, t3, d3⟩ := hd2.put (by omega) (hx1.tk t2) (hy.tk t2)
      refine ⟨_, rfl, _, rfl, p, C, dx, _, _, rfl, (by rw [upd_ne npl]; exact hp1), T.cl, T.a_figs, lf_figs _ _ _ _, _, rfl, dd, H3, rfl, pd, ?_⟩
      have tk : TK H H3 := ((Same.tk s1).trans t2).trans t3
      refine fin _ H3 rfl ((((Same.kp s1).wr (by simp)).trans (k3.mono (by simp)))) tk d3 ⟨vs ++ [x], k3 _ _ upd_same (by simpa using ndl.symm), ?_⟩
      rw [List.map_append]
      exact (hvs.tk tk).snoc (hx.tk tk)
    · have h0 : d ≠ 0 := by simpa using hc
      by_cases hm1 : d = -1
      · -- it goes
        subst hm1
        have e : nxt M th (n : Nat) (-1) t = none := nxt_goes
        have eo : ordNext o (-1) t = o.filter (fun x => decide (x ≠ t)) := by
          unfold ordNext
          rw [if_neg (by decide), if_pos rfl]
        rw [e] at hy fin
        rw [eo] at fin
        have hy' : y = .non := hy
        subst hy'
        refine ⟨_, rfl, rfl, _, rfl, iteT ?_⟩
        obtain ⟨g, hg⟩ := lets.there h0
        obtain ⟨j, hj1, hj2⟩ := place_th ((R.mem t).mpr ⟨g, hg⟩)
        refine ⟨_, rfl, p, C, dx, _, _, rfl, hp1, T.cl, T.a_ord, lf_ord _ _ _ _, .inl ⟨rfl, _, SqL.of hl1⟩, _, rfl, l, vs, x, dTh t, o.map dTh, j, rfl, rfl, hl1, hvs1.dp, hx1.dp, shaped_ths o, shaped_th t, hj1, ?_⟩
        have t2 : TK H1 (upd H1 l (.lst (vs.eraseIdx j))) := tk_upd fun xs e => by rw [hl1] at e; cases e
        have hd2 : DcT (upd H1 l (.lst (vs.eraseIdx j))) dd th n := hd1.keep (fun o e => by rw [upd_ne ndl]; exact e) t2
        have hpop := hd2.pop (K := K) (hx1.tk t2) hg (Q := fun v H3 => sFldAug K (tVar 0) (tC (.int 1)) rAdd "lane_now" { nx := fun _ H' => Q .non H', rt := Q } [some (.ref p), some (.int (-1)), some x, some .non] H3) fun v H3 k3 t3 d3 => by
          have tk : TK H H3 := ((Same.tk s1).trans t2).trans t3
          refine fin _ H3 rfl (((Same.kp s1).wr (by simp)).trans (k3.mono (by simp))) tk (d3.mono (Nat.le_succ n)) ⟨vs.eraseIdx j, k3 _ _ upd_same (by simpa using ndl.symm), ?_⟩
          rw [← erase_filter R.nd hj2, ← map_eraseIdx]
          exact (hvs.tk tk).eraseIdx j
        exact ⟨_, rfl, p, C, dx, _, _, rfl, (by rw [upd_ne npl]; exact hp1), T.cl, T.a_figs, lf_figs _ _ _ _, hpop.1, _, rfl, hpop.2⟩
      · -- a deed
        have h1 : 1 ≤ d := by have := lets.lo; omega
        have eo : ordNext o d t = o := by
          unfold ordNext
          rw [if_neg h0, if_neg hm1]
        obtain ⟨g, e⟩ := nxt_some (now := (n : Nat)) lets hm1
        rw [e] at hy fin
        rw [eo] at fin
        obtain ⟨a, xs, rfl, ha, _⟩ := hy.inv
        refine ⟨_, rfl, rfl, _, rfl, iteF ?_⟩
        obtain ⟨H3, pd, k3, t3, d3⟩ := hd1.put (by omega) hx1 hy
        refine ⟨_, rfl, _, rfl, p, C, dx, _, _, rfl, hp1, T.cl, T.a_figs, lf_figs _ _ _ _, _, rfl, dd, H3, rfl, pd, ?_⟩
        have tk : TK H H3 := (Same.tk s1).trans t3
        exact fin _ H3 rfl ((Same.kp s1).trans (k3.mono (by simp))) tk d3 ⟨vs, k3 _ _ hl1 (by simpa using ndl.symm), hvs.tk tk⟩
end
end Own

namespace Own
open PySem PySem.Spec PyProof.Rows L2
theorem fit_at {M : Mach} (ok : M.Ok) {run : Run} (v : Valid M run) (i : Nat) : Fit M (thAt M run i) := fun t f h => (figs_ok ok v i t f h).w
theorem fit_next {M : Mach} (ok : M.Ok) {run : Run} (v : Valid M run) {i : Nat} {d : Int} {t : Thing} (h : run[i]? = some (d, t)) : Fit M (putT (thAt M run i) t (nxt M (thAt M run i) (i : Nat) d t)) := by
  rw [← thAt_succ h]
  exact fit_at ok v (i + 1)
theorem run_at {run : Run} {i : Nat} (h : i < run.length) : (run.map dRn)[i]? = some (dRn run[i]) := by
  rw [List.getElem?_map, List.getElem?_eq_getElem h]
  rfl
section
variable {P : Program} {w : World} {K : PySem.W.Frag} {mg : Str → Option Value} {base : Heap} {C : Addr}

/-!  turns_by: N = [(0, 'machine'), (1, 'run'), (2, 'stops'), (3, 'lane'), (4, 'many'), (5, 'index'), (6, 'deed'), (7, 'thing')] -/
abbrev s_turns_by : Stmt := topS 23
abbrev n_turns_by : List Str := ["machine", "run", "stops", "lane", "many", "index", "deed", "thing"]
theorem sc_turns_by : FnScope n_turns_by ["machine", "run", "stops"] (defScope s_turns_by) := ⟨rfl, rfl, rfl, by decide +kernel, rfl, by decide +kernel, by decide +kernel⟩
def stopAt (stops : List Nat) : Nat → Bool := fun i => decide (i ∈ stops)
def spTurns : Sp := fun vs H Q _ => ∃ (m s : V) (r : Addr) (M : Mach) (run : Run) (stops : List Nat), vs = [m, .ref r, s] ∧ M.Ok ∧ Im H m (dMach M) ∧ LsD H r (run.map dRn) ∧ Valid M run ∧ run.length ≤ 20 ∧ Im H s (dBeg stops) ∧
  ∀ H', Same H H' → Q (.int ((turns M run (stopAt stops) : Nat) : Int)) H'
/-- the lane that begins empty -/
theorem lane_made {H : Hp} {m : V} {M : Mach} (hm : Im H m (dMach M)) {R : Hp → Prop} {E : XK} {fa oa x dx : Addr} (hfa : H fa = none) (hoa : upd H fa (.lst []) oa = none) (hx : upd (upd H fa (.lst [])) oa (.lst []) x = none) (hdx : upd (upd H fa (.lst [])) oa (.lst []) dx = none) (ne : dx ≠ x)
    (k : ∀ H1 d l, Same H H1 → H x = none → H d = none → H l = none → LaneAt C H1 x d l M (fun _ => none) [] 0 → R H1) :
    spInit C (.ref x :: ([m, .ref fa, .ref oa] ++ [])) (upd (upd (upd (upd H fa (.lst [])) oa (.lst [])) dx (.own x)) x (.ins C dx [])) (fun v H2 => v = .non ∧ R H2) E := by
  have s1 : Same H (upd (upd H fa (.lst [])) oa (.lst [])) := (same_new hfa).trans (same_new hoa)
  have s2 : Same (upd (upd H fa (.lst [])) oa (.lst [])) (upd (upd (upd (upd H fa (.lst [])) oa (.lst [])) dx (.own x)) x (.ins C dx [])) := fun b o e => by
    rw [upd_ne (ne_of_none e hx), upd_ne (ne_of_none e hdx)]
    exact e
  have nof : fa ≠ oa := fun e => by rw [← e, upd_same] at hoa; cases hoa
  have x0 : H x = none := s1.free hx
  refine ⟨x, dx, fa, oa, m, M, rfl, upd_same, s2 _ _ (by rw [upd_ne nof, upd_same]), s2 _ _ upd_same, hm.tk (Same.tk (s1.trans s2)), fun H1 d l k1 t1 hd hl L => ⟨rfl, ?_⟩⟩
  refine k H1 d l (k1.out (s1.trans s2) fun b hb => by rw [List.mem_singleton.mp hb]; exact x0) x0 ((s1.trans s2).free hd) ((s1.trans s2).free hl) L
theorem ok_turns_by {f fI : Addr} {fd fdI : FuncData} (F : Fun K "turns_by" "turns_by" s_turns_by f fd) (T : Txt K mg C) (mk_init : Mk K C fI) (g_init : FnOk P w K mg base CX0 1 fI fdI ["self", "machine", "figures", "order"] (spInit C))
    (b_init : Binds K fdI ["self", "machine", "figures", "order"] []) (c_do : CalleeM P w K mg base C "do" 5 ["self", "deed", "thing"] (spDo C)) (c_settle : CalleeM P w K mg base C "settle" 5 ["self"] (spSettle C)) :
    FnOk P w K mg base CX0 6 f fd ["machine", "run", "stops"] spTurns := by
  refine F.ok sc_turns_by (fun vs H Q E h => ?_) (fun cdv A outer s H vs Q E hr h => ?_)
  · obtain ⟨m, s, r, M, run, stops, rfl, _⟩ := h
    rfl
  · obtain ⟨m, sp, r, M, run, stops, rfl, ok, hm, hrun, v, hlen, hs, q⟩ := h
    refine ⟨_, (pss_cons (ps_set (i := 3) sc_turns_by.nd rfl (Or.inl rfl) (pe_make mk_init g_init (hr.mono (by decide)) (by rfl) T.mgC b_init .nil pass0 (pa_cons (pv 0) (pa_cons (pe_lst pa_nil) (pa_cons (pe_lst pa_nil) pa_nil)))))
        (pss_cons (ps_set (i := 4) sc_turns_by.nd rfl (Or.inl rfl) pe_int)
        (pss_cons (ps_for PassesOwn.never rfl (pi_enum (by rfl) T.n_enumerate (pa_cons (pv 1) pa_nil)) (pg_tup rfl (pgs_cons (pg_name (i := 5) sc_turns_by.nd rfl (Or.inl rfl)) (pgs_cons (pg_tup rfl (pgs_cons (pg_name (i := 6) sc_turns_by.nd rfl (Or.inl rfl)) (pgs_cons (pg_name (i := 7) sc_turns_by.nd rfl (Or.inl rfl)) pgs_nil))) pgs_nil))) (pss_cons (ps_expr (pe_ownM (pv 3) T.cl c_do (hr.mono (by decide)) (pa_cons (pv 6) (pa_cons (pv 7) pa_nil))))
          (pss_one (ps_if (pt_cmpR (r := rIn K false) op_in_seq (pv 5) (pv 2) rfl) (pss_one (ps_aug (i := 4) sc_turns_by.nd rfl (Or.inl rfl) (pe_callB call_len_seq (by rfl) T.n_len bt_len (pa_cons (pe_ownM0 (pv 3) T.cl c_settle (hr.mono (by decide))) pa_nil)) ip_add)) pss_nil))))
        (pss_one (ps_ret (pe_op op_add (pv 4) (pe_callB call_len_seq (by rfl) T.n_len bt_len (pa_cons (pe_ownM0 (pv 3) T.cl c_settle (hr.mono (by decide))) pa_nil)))))))), ?_⟩
    obtain ⟨rs, hr1, hr2⟩ := id hrun
    have hrl : rs.length = run.length := by rw [hr2.len, List.length_map]
    obtain ⟨sa, hsa, hs1⟩ := Im.ns (ns := stops.map fun n : Nat => (n : Int)) hs
    subst hsa
    -- lane = Lane(machine, [], []); many = 0
    refine ⟨_, rfl, Nat.zero_le _, fun fa hfa => ⟨Nat.zero_le _, fun oa hoa => ?_⟩⟩
    intro p dx hp hdx nep
    refine lane_made hm hfa hoa hp hdx nep fun H1 d l s1 hp0 hd0 hl0 L1 => ?_
    -- for index, (deed, thing) in enumerate(run)
    refine ⟨_, rfl, r, rs, rfl, SqL.of (s1 _ _ hr1), for_it (walk_enum (K := K) (a := r) (xs := rs)) (fun i σ H' => ∃ v5 v6 v7, σ = [some m, some (.ref r), some (.ref sa), some (.ref p), some (.int ((ordAt M run (stopAt stops) i).2 : Nat)), v5, v6, v7] ∧ Same H H' ∧
      LaneAt C H' p d l M (thAt M run i) (ordAt M run (stopAt stops) i).1 i) ⟨none, none, none, rfl, s1, L1⟩ (fun i σ H' _ ⟨_, _, _, _, s', _⟩ => SqL.of (s' _ _ hr1)) ?_ ?_⟩
    · rintro i y σ H' H2 hi ⟨v5, v6, v7, rfl, s', L'⟩ ⟨TT, y1, y2, rfl, hTT, rfl, e1, e2⟩
      cases e1
      have hi' : i < run.length := by omega
      obtain ⟨w2, hw2, iw2⟩ := (hr2.tk (Same.tk (s'.trans (same_new (o := .tup [.int (i : Nat), y2]) hTT)))).get (run_at hi')
      have ey : y2 = w2 := Option.some.inj (e2.symm.trans hw2)
      subst ey
      obtain ⟨dd, t, hdt⟩ : ∃ dd t, run[i] = (dd, t) := ⟨_, _, rfl⟩
      rw [hdt] at iw2
      have hrn : run[i]? = some (dd, t) := by rw [List.getElem?_eq_getElem hi', hdt]
      obtain ⟨ra, rxs, rfl, hra, rr⟩ := iw2.inv
      cases rr with
      | cons r1 rr => cases rr with
      | cons r2 rr => cases rr with
      | nil =>
      rename_i x1 x2
      cases r1.int_eq
      refine ⟨TT, _, rfl, SqT.of upd_same, rfl, _, _, rfl, _, _, rfl, ⟨ra, _, rfl, SqT.of hra, rfl, _, _, rfl, _, _, rfl, rfl, ?_⟩⟩
      refine ⟨rfl, ?_⟩
      -- lane.do(deed, thing)
      have R0 := row_at v (stopAt stops) i
      have l0 := v i dd t hrn
      have hol := (ord_len (M := M) (run := run) (S := stopAt stops) i).1
      have sT : Same H' (upd H' TT (.tup [.int (i : Nat), .ref ra])) := same_new hTT
      have LT := L'.same sT
      obtain ⟨⟨dx1, m1, hp1, _⟩, _⟩ := id LT
      refine ⟨_, rfl, p, dx1, _, rfl, hp1, lf_no _ _ _ _ (by decide +kernel) (by decide +kernel) (by decide +kernel) (by decide +kernel), _, rfl, _, rfl, ?_⟩
      refine ⟨p, d, l, _, dd, M, _, _, i, t, rfl, ok, LT, r2, l0, R0, fit_at ok v i, by omega, by omega, fun H3 k3 t3 L3 => ?_⟩
      rw [← thAt_succ hrn] at L3
      have R1 : Row (thAt M run (i + 1)) (ordNext (ordAt M run (stopAt stops) i).1 dd t) := by
        rw [thAt_succ hrn]
        exact row_next l0 R0
      have s3 : Same H H3 := k3.out (s'.trans sT) fun b hb => by
        simp only [List.mem_cons, List.not_mem_nil, or_false] at hb
        rcases hb with rfl | rfl | rfl
        · exact hp0
        · exact hd0
        · exact hl0
      -- if index in stops
      refine ⟨_, rfl, _, rfl, sa, _, rfl, .inr (SqT.of (s3 _ _ hs1)), rfl, flat_ints _, _, rfl, ?_⟩
      have hin := inV_ints i stops
      cases hS : stopAt stops i with
      | true =>
        refine (show ∀ {A B : Prop} {b : Bool}, b = true → A → if b = true then A else B from fun e a => by rw [if_pos e]; exact a) (hin.trans hS) ?_
        -- many += len(lane.settle())
        obtain ⟨⟨dx3, m3, hp3, _⟩, _⟩ := id L3
        have hl1 : (ordNext (ordAt M run (stopAt stops) i).1 dd t).length ≤ i + 1 := by
          have := (ord_len (M := M) (run := run) (S := fun _ => false) (i + 1)).1
          unfold ordNext
          split
          · rw [List.length_append, List.length_singleton]; omega
          · split
            · have := List.length_filter_le (fun x => decide (x ≠ t)) (ordAt M run (stopAt stops) i).1
              omega
            · omega
        refine ⟨_, rfl, _, rfl, p, dx3, _, rfl, hp3, lf_no _ _ _ _ (by decide +kernel) (by decide +kernel) (by decide +kernel) (by decide +kernel), ?_⟩
        refine ⟨p, d, l, M, _, _, i + 1, rfl, ok, L3, R1, apart_at ok v (i + 1) R1, fit_at ok v (i + 1), by omega, fun wa xs H4 k4 t4 L4 hwa hxs => ?_⟩
        refine ⟨wa, xs, rfl, .inl (SqL.of hwa), _, _, rfl, rfl, ?_⟩
        refine ⟨some (.int (i : Nat)), some (.int dd), some x2, ?_, k4.out s3 fun b hb => by rw [List.mem_singleton.mp hb]; exact hl0, ?_⟩
        · rw [ordAt_yes hrn hS, hxs]
          rfl
        · rw [ordAt_yes hrn hS]
          exact L4
      | false =>
        refine (show ∀ {A B : Prop} {b : Bool}, b = false → B → if b = true then A else B from fun e a => by rw [if_neg (by rw [e]; decide)]; exact a) (hin.trans hS) ?_
        refine ⟨some (.int (i : Nat)), some (.int dd), some x2, ?_, s3, ?_⟩
        · rw [ordAt_no hrn hS]
          rfl
        · rw [ordAt_no hrn hS]
          exact L3
    · rintro σ H' ⟨v5, v6, v7, rfl, s', L'⟩
      rw [hrl] at L'
      -- return many + len(lane.settle())
      have R1 := row_at v (stopAt stops) run.length
      have hol := (ord_len (M := M) (run := run) (S := stopAt stops) run.length).1
      obtain ⟨⟨dx3, m3, hp3, _⟩, _⟩ := id L'
      refine ⟨_, rfl, _, rfl, p, dx3, _, rfl, hp3, lf_no _ _ _ _ (by decide +kernel) (by decide +kernel) (by decide +kernel) (by decide +kernel), ?_⟩
      refine ⟨p, d, l, M, _, _, run.length, rfl, ok, L', R1, apart_at ok v _ R1, fit_at ok v _, by omega, fun wa xs H4 k4 t4 L4 hwa hxs => ?_⟩
      refine ⟨wa, xs, rfl, .inl (SqL.of hwa), _, _, rfl, rfl, ?_⟩
      have e : (((ordAt M run (stopAt stops) rs.length).2 : Nat) : Int) + ((xs.length : Nat) : Int) = ((turns M run (stopAt stops) : Nat) : Int) := by
        rw [hrl, hxs]
        unfold turns
        omega
      show Q (V.int (_ + _)) H4
      rw [e]
      exact q H4 (k4.out s' fun b hb => by rw [List.mem_singleton.mp hb]; exact hl0)
end
end Own

namespace Own
open PySem PySem.Spec PyProof.Rows L2
theorem iteYes {A B : Prop} {b : Bool} (e : b = true) (h : A) : if b = true then A else B := by rw [if_pos e]; exact h
theorem iteNo {A B : Prop} {b : Bool} (e : b = false) (h : B) : if b = true then A else B := by rw [if_neg (by rw [e]; decide)]; exact h
theorem ordNext_len {M : Mach} {run : Run} {S : Nat → Bool} {i : Nat} {d : Int} {t : Thing} : (ordNext (ordAt M run S i).1 d t).length ≤ i + 1 := by
  have hol := (ord_len (M := M) (run := run) (S := S) i).1
  unfold ordNext
  split
  · rw [List.length_append, List.length_singleton]; omega
  · split
    · have := List.length_filter_le (fun x => decide (x ≠ t)) (ordAt M run S i).1
      omega
    · omega
section
variable {P : Program} {w : World} {K : PySem.W.Frag} {mg : Str → Option Value} {base : Heap} {C : Addr}

/-!  _law_by_hand: N = [(0, '_law_machine_here'), (1, '_law_run_here'), (2, '_law_stops'), (3, '_law_lane'), (4, '_law_many'), (5, '_law_now'), (6, '_law_deed'), (7, '_law_thing')] -/
abbrev s_l_by_hand : Stmt := topS 42
abbrev n_l_by_hand : List Str := ["_law_machine_here", "_law_run_here", "_law_stops", "_law_lane", "_law_many", "_law_now", "_law_deed", "_law_thing"]
theorem sc_l_by_hand : FnScope n_l_by_hand ["_law_machine_here", "_law_run_here", "_law_stops"] (defScope s_l_by_hand) := ⟨rfl, rfl, rfl, by decide +kernel, rfl, by decide +kernel, by decide +kernel⟩
theorem ok_by_hand {f fI : Addr} {fd fdI : FuncData} (F : Fun K "_law_by_hand" "_law_by_hand" s_l_by_hand f fd) (T : Txt K mg C) (mk_init : Mk K C fI) (g_init : FnOk P w K mg base CX0 1 fI fdI ["self", "machine", "figures", "order"] (spInit C))
    (b_init : Binds K fdI ["self", "machine", "figures", "order"] []) (c_do : CalleeM P w K mg base C "do" 5 ["self", "deed", "thing"] (spDo C)) (c_settle : CalleeM P w K mg base C "settle" 5 ["self"] (spSettle C)) :
    FnOk P w K mg base CX0 6 f fd ["_law_machine_here", "_law_run_here", "_law_stops"] spTurns := by
  refine F.ok sc_l_by_hand (fun vs H Q E h => ?_) (fun cdv A outer s H vs Q E hr h => ?_)
  · obtain ⟨m, s, r, M, run, stops, rfl, _⟩ := h
    rfl
  · obtain ⟨m, sp, r, M, run, stops, rfl, ok, hm, hrun, v, hlen, hs, q⟩ := h
    refine ⟨_, (pss_cons (ps_par (i := 3) (j := 4) (by rfl) sc_l_by_hand.nd rfl rfl (by decide) rfl rfl (pa_cons (pe_make mk_init g_init (hr.mono (by decide)) (by rfl) T.mgC b_init .nil pass0 (pa_cons (pv 0) (pa_cons (pe_lst pa_nil) (pa_cons (pe_lst pa_nil) pa_nil)))) (pa_cons pe_int pa_nil)) (by rfl))
        (pss_cons (ps_for PassesOwn.never rfl (pi_range1 (by rfl) T.n_range (pa_cons (pe_callB call_len_seq (by rfl) T.n_len bt_len (pa_cons (pv 1) pa_nil)) pa_nil)) (pg_name (i := 5) sc_l_by_hand.nd rfl (Or.inl rfl)) (pss_cons (ps_asg (pe_ix (r := rIxL K) ix_list (pv 1) (pv 5) (fun _ _ => rfl)) (pg_tup rfl (pgs_cons (pg_name (i := 6) sc_l_by_hand.nd rfl (Or.inl rfl)) (pgs_cons (pg_name (i := 7) sc_l_by_hand.nd rfl (Or.inl rfl)) pgs_nil))))
          (pss_cons (ps_expr (pe_ownM (pv 3) T.cl c_do (hr.mono (by decide)) (pa_cons (pv 6) (pa_cons (pv 7) pa_nil))))
          (pss_one (ps_if (pt_cmpR (r := rIn K false) op_in_seq (pv 5) (pv 2) rfl) (pss_one (ps_aug (i := 4) sc_l_by_hand.nd rfl (Or.inl rfl) (pe_callB call_len_seq (by rfl) T.n_len bt_len (pa_cons (pe_ownM0 (pv 3) T.cl c_settle (hr.mono (by decide))) pa_nil)) ip_add)) pss_nil)))))
        (pss_one (ps_ret (pe_op op_add (pv 4) (pe_callB call_len_seq (by rfl) T.n_len bt_len (pa_cons (pe_ownM0 (pv 3) T.cl c_settle (hr.mono (by decide))) pa_nil))))))), ?_⟩
    obtain ⟨rs, hr1, hr2⟩ := id hrun
    have hrl : rs.length = run.length := by rw [hr2.len, List.length_map]
    obtain ⟨sa, hsa, hs1⟩ := Im.ns (ns := stops.map fun n : Nat => (n : Int)) hs
    subst hsa
    -- lane, many = Lane(machine, [], []), 0
    refine ⟨_, rfl, Nat.zero_le _, fun fa hfa => ⟨Nat.zero_le _, fun oa hoa => ?_⟩⟩
    intro p dx hp hdx nep
    refine lane_made hm hfa hoa hp hdx nep fun H1 d l s1 hp0 hd0 hl0 L1 => ?_
    refine ⟨_, _, rfl, ?_⟩
    -- for now in range(len(run))
    refine ⟨_, rfl, r, rs, rfl, .inl (SqL.of (s1 _ _ hr1)), _, rfl, (by omega), (by omega), for_range (lo := 0) (n := ((rs.length : Nat) : Int).toNat) (fun i σ H' => ∃ v5 v6 v7, σ = [some m, some (.ref r), some (.ref sa), some (.ref p), some (.int ((ordAt M run (stopAt stops) i).2 : Nat)), v5, v6, v7] ∧ Same H H' ∧
      LaneAt C H' p d l M (thAt M run i) (ordAt M run (stopAt stops) i).1 i) ⟨none, none, none, rfl, s1, L1⟩ ?_ ?_⟩
    · rintro i σ H' hi ⟨v5, v6, v7, rfl, s', L'⟩
      have hi' : i < run.length := by omega
      obtain ⟨dd, t, hdt⟩ : ∃ dd t, run[i] = (dd, t) := ⟨_, _, rfl⟩
      have hrn : run[i]? = some (dd, t) := by rw [List.getElem?_eq_getElem hi', hdt]
      have e0 : (0 : Int) + ((i : Nat) : Int) = ((i : Nat) : Int) := by omega
      -- deed, thing = run[now]
      refine ⟨_, rfl, _, rfl, ixL i (by omega) (hrun.same s') (run_at hi') fun y iw2 => ?_⟩
      rw [hdt] at iw2
      obtain ⟨ra, rxs, rfl, hra, rr⟩ := iw2.inv
      cases rr with
      | cons r1 rr => cases rr with
      | cons r2 rr => cases rr with
      | nil =>
      rename_i x1 x2
      cases r1.int_eq
      refine ⟨ra, _, rfl, SqT.of hra, rfl, _, _, rfl, _, _, rfl, rfl, ?_⟩
      -- lane.do(deed, thing)
      have R0 := row_at v (stopAt stops) i
      have l0 := v i dd t hrn
      have hol := (ord_len (M := M) (run := run) (S := stopAt stops) i).1
      obtain ⟨⟨dx1, m1, hp1, _⟩, _⟩ := id L'
      refine ⟨_, rfl, p, dx1, _, rfl, hp1, lf_no _ _ _ _ (by decide +kernel) (by decide +kernel) (by decide +kernel) (by decide +kernel), _, rfl, _, rfl, ?_⟩
      refine ⟨p, d, l, _, dd, M, _, _, i, t, rfl, ok, L', r2, l0, R0, fit_at ok v i, by omega, by omega, fun H3 k3 t3 L3 => ?_⟩
      rw [← thAt_succ hrn] at L3
      have R1 : Row (thAt M run (i + 1)) (ordNext (ordAt M run (stopAt stops) i).1 dd t) := by
        rw [thAt_succ hrn]
        exact row_next l0 R0
      have s3 : Same H H3 := k3.out s' fun b hb => by
        simp only [List.mem_cons, List.not_mem_nil, or_false] at hb
        rcases hb with rfl | rfl | rfl
        · exact hp0
        · exact hd0
        · exact hl0
      -- if now in stops
      refine ⟨_, rfl, _, rfl, sa, _, rfl, .inr (SqT.of (s3 _ _ hs1)), rfl, flat_ints _, _, rfl, ?_⟩
      have hin := inV_ints i stops
      rw [← e0] at hin
      cases hS : stopAt stops i with
      | true =>
        refine iteYes (hin.trans hS) ?_
        obtain ⟨⟨dx3, m3, hp3, _⟩, _⟩ := id L3
        have hl1 := ordNext_len (M := M) (run := run) (S := stopAt stops) (i := i) (d := dd) (t := t)
        refine ⟨_, rfl, _, rfl, p, dx3, _, rfl, hp3, lf_no _ _ _ _ (by decide +kernel) (by decide +kernel) (by decide +kernel) (by decide +kernel), ?_⟩
        refine ⟨p, d, l, M, _, _, i + 1, rfl, ok, L3, R1, apart_at ok v (i + 1) R1, fit_at ok v (i + 1), by omega, fun wa xs H4 k4 t4 L4 hwa hxs => ?_⟩
        refine ⟨wa, xs, rfl, .inl (SqL.of hwa), _, _, rfl, rfl, ?_⟩
        refine ⟨some (.int (0 + (i : Nat))), some (.int dd), some x2, ?_, k4.out s3 fun b hb => by rw [List.mem_singleton.mp hb]; exact hl0, ?_⟩
        · rw [ordAt_yes hrn hS, hxs]
          rfl
        · rw [ordAt_yes hrn hS]
          exact L4
      | false =>
        refine iteNo (hin.trans hS) ?_
        refine ⟨some (.int (0 + (i : Nat))), some (.int dd), some x2, ?_, s3, ?_⟩
        · rw [ordAt_no hrn hS]
          rfl
        · rw [ordAt_no hrn hS]
          exact L3
    · rintro σ H' ⟨v5, v6, v7, rfl, s', L'⟩
      have en : ((rs.length : Nat) : Int).toNat = run.length := by omega
      rw [en] at L'
      have R1 := row_at v (stopAt stops) run.length
      have hol := (ord_len (M := M) (run := run) (S := stopAt stops) run.length).1
      obtain ⟨⟨dx3, m3, hp3, _⟩, _⟩ := id L'
      refine ⟨_, rfl, _, rfl, p, dx3, _, rfl, hp3, lf_no _ _ _ _ (by decide +kernel) (by decide +kernel) (by decide +kernel) (by decide +kernel), ?_⟩
      refine ⟨p, d, l, M, _, _, run.length, rfl, ok, L', R1, apart_at ok v _ R1, fit_at ok v _, by omega, fun wa xs H4 k4 t4 L4 hwa hxs => ?_⟩
      refine ⟨wa, xs, rfl, .inl (SqL.of hwa), _, _, rfl, rfl, ?_⟩
      have e : (((ordAt M run (stopAt stops) ((rs.length : Nat) : Int).toNat).2 : Nat) : Int) + ((xs.length : Nat) : Int) = ((turns M run (stopAt stops) : Nat) : Int) := by
        rw [en, hxs]
        unfold turns
        omega
      show Q (V.int (_ + _)) H4
      rw [e]
      exact q H4 (k4.out s' fun b hb => by rw [List.mem_singleton.mp hb]; exact hl0)

/-!  _law_step: N = [(0, '_law_machine_here'), (1, '_law_there'), (2, '_law_now'), (3, '_law_deed'), (4, '_law_thing'), (5, '_law_begins'), (6, '_law_points'), (7, '_law_moves'), (8, '_law_point'), (9, '_law_times'), (10, '_law_move_here'), (11, '_law_k')] -/
abbrev s_l_step : Stmt := topS 33
abbrev n_l_step : List Str := ["_law_machine_here", "_law_there", "_law_now", "_law_deed", "_law_thing", "_law_begins", "_law_points", "_law_moves", "_law_point", "_law_times", "_law_move_here", "_law_k"]
theorem sc_l_step : FnScope n_l_step ["_law_machine_here", "_law_there", "_law_now", "_law_deed", "_law_thing"] (defScope s_l_step) := ⟨rfl, rfl, rfl, by decide +kernel, rfl, by decide +kernel, by decide +kernel⟩
def spStep : Sp := fun vs H Q _ => ∃ (m x : V) (a : Addr) (d now : Int) (M : Mach) (t : Thing) (th : Figs) (n : Nat), vs = [m, .ref a, .int now, .int d, x] ∧ M.Ok ∧ Im H m (dMach M) ∧ Im H x (dTh t) ∧ DcT H a th n ∧ n < 900 ∧ Lets M th d t ∧ (∀ f, th t = some f → FigW M f) ∧
  ∀ H', Kp [a] H H' → TK H H' → DcT H' a (putT th t (nxt M th now d t)) (n + 1) → Q (.bl true) H'
theorem ok_step {f : Addr} {fd : FuncData} (F : Fun K "_law_step" "_law_step" s_l_step f fd) (T : Txt K mg C) : FnOk P w K mg base CX0 1 f fd ["_law_machine_here", "_law_there", "_law_now", "_law_deed", "_law_thing"] spStep := by
  refine F.ok sc_l_step (fun vs H Q E h => ?_) (fun cdv A outer s H vs Q E hr h => ?_)
  · obtain ⟨m, x, a, d, now, M, t, th, n, rfl, _⟩ := h
    rfl
  · obtain ⟨m, x, a, d, now, M, t, th, n, rfl, ok, hm, hx, hd, hn, l, fw, q⟩ := h
    have hu := hu_of hr
    refine ⟨_, (pss_cons (ps_asg (pv 0) (pg_tup rfl (pgs_cons (pg_name (i := 5) sc_l_step.nd rfl (Or.inl rfl)) (pgs_cons (pg_name (i := 6) sc_l_step.nd rfl (Or.inl rfl)) (pgs_cons (pg_name (i := 7) sc_l_step.nd rfl (Or.inl rfl)) pgs_nil)))))
        (pss_cons (ps_if (pt_cmpR op_eq (pv 3) pe_int (nomark _)) (pss_cons (ps_if (pt_cmp (pc_din hu (pv 4) (pv 1))) (pss_one (ps_ret pe_bl)) pss_nil)
          (pss_cons (ps_dput hu (pv 1) (pv 4) (pe_tup (pa_cons (pe_ix (r := rIxT K) ix_tup (pv 5) (pe_ix (r := rIxT K) ix_tup (pv 4) pe_int (fun _ _ => rfl)) (fun _ _ => rfl)) (pa_cons (pe_tup (pa_cons (pv 2) pa_nil)) pa_nil))) rfl)
          (pss_one (ps_ret pe_bl)))) pss_nil)
        (pss_cons (ps_if (pt_cmp (pc_dnotin hu (pv 4) (pv 1))) (pss_one (ps_ret pe_bl)) pss_nil)
        (pss_cons (ps_asg (pe_dget hu (pv 1) (pv 4) (fun _ _ => rfl)) (pg_tup rfl (pgs_cons (pg_name (i := 8) sc_l_step.nd rfl (Or.inl rfl)) (pgs_cons (pg_name (i := 9) sc_l_step.nd rfl (Or.inr rfl)) pgs_nil))))
        (pss_cons (ps_if (pt_cmpR op_eq (pv 3) (pe_un un_neg pe_int) (nomark _)) (pss_cons (ps_expr (pe_bm PySem.F.plainAttrs_dict PySem.F.slot_dict_pop PySem.F.type_dict_pop (mt_pop1T hu) (pv 1) (pa_cons (pv 4) pa_nil)))
          (pss_one (ps_ret pe_bl))) pss_nil)
        (pss_cons (ps_set (i := 10) sc_l_step.nd rfl (Or.inl rfl) (pe_ix (r := rIxT K) ix_tup (pe_ix (r := rIxT K) ix_tup (pv 7) (pv 8) (fun _ _ => rfl)) (pe_op op_sub (pv 3) pe_int) (fun _ _ => rfl)))
        (pss_cons (ps_if (pt_cmpR op_isN (pv 10) pe_non (nomark _)) (pss_one (ps_ret pe_bl)) pss_nil)
        (pss_cons (ps_dput hu (pv 1) (pv 4) (pe_tup (pa_cons (pe_ix (r := rIxT K) ix_tup (pv 10) pe_int (fun _ _ => rfl)) (pa_cons (pe_callTy call_tuple_of (by rfl) T.n_tuple bt_tuple (pa_cons (pe_lc (own := [("_law_k", 11)]) rfl sc_l_step.nd (pi_tup (pe_ix (r := rIxT K) ix_tup (pv 10) pe_int (fun _ _ => rfl))) (blkOk_by (own := [("_law_k", 11)]) (N := n_l_step) (sc := defScope s_l_step) (by decide +kernel)) (fun _ _ _ _ _ => (pg_name (i := 11) sc_l_step.nd rfl (Or.inl rfl))) (fun _ _ _ _ _ => pts_nil) (fun _ _ _ _ _ => (pe_ifExp (pt_cmpR op_eq (pv 11) (pe_un un_neg pe_int) (nomark _)) (pv 2) (pe_ix (r := rIxT K) ix_tup (pv 9) (pv 11) (fun _ _ => rfl))))) pa_nil)) pa_nil))) rfl)
        (pss_one (ps_ret pe_bl)))))))))), ?_⟩
    -- begins, points, moves = machine
    obtain ⟨ma, mxs, rfl, hma, mr⟩ := id hm.inv
    cases mr with
    | cons m1 mr => cases mr with
    | cons m2 mr => cases mr with
    | cons m3 mr => cases mr with
    | nil =>
    refine ⟨_, rfl, ma, _, rfl, SqT.of hma, rfl, _, _, rfl, _, _, rfl, _, _, rfl, rfl, ?_⟩
    refine ⟨_, rfl, rfl, _, rfl, ?_⟩
    refine ite2 (fun hc => ?_) (fun hc => ?_)
    · have h0 : d = 0 := by simpa using hc
      have e : nxt M th now d t = some (begun M now t) := if_pos h0
      rw [e] at q
      refine ⟨_, rfl, _, rfl, a, none, rfl, hd.not hx (l.come h0), _, rfl, iteF ?_⟩
      refine ⟨_, rfl, _, rfl, ixC 0 (by rfl) hx rfl fun v2 e2 => ?_⟩
      cases e2.int_eq
      obtain ⟨k1, k2, _, _⟩ := l.kd
      refine ixT t.1.toNat (by omega) m1 (beg_at (by omega)) fun v3 e3 => ?_
      cases e3.int_eq
      refine ⟨_, rfl, by show 1 ≤ sizeLine; decide, fun p1 hp1 => ⟨by show 2 ≤ sizeLine; decide, fun p2 hp2 => ?_⟩⟩
      have n1 : p2 ≠ p1 := fun e => by rw [e, upd_same] at hp2; cases hp2
      have s1 := (same_new (o := .tup [V.int now]) hp1).trans (same_new (o := .tup [V.int ((M.begins.getD t.1.toNat 0 : Nat) : Int), V.ref p1]) hp2)
      have hd1 := hd.keep (fun o e => s1 _ _ e) (Same.tk s1)
      obtain ⟨H3, pd, k3, t3, d3⟩ := hd1.put (by omega) (hx.tk (Same.tk s1)) (f := begun M now t) (x := .ref p2) (im2 upd_same (.int _) (im_ns (by rw [upd_ne (Ne.symm n1), upd_same]; rfl)))
      exact ⟨_, rfl, _, rfl, a, H3, rfl, pd, q _ ((Same.kp s1).trans k3) ((Same.tk s1).trans t3) d3⟩
    · have h0 : d ≠ 0 := by simpa using hc
      obtain ⟨g, hg⟩ := l.there h0
      obtain ⟨y, hy1, hy2⟩ := hd.got hx hg
      refine ⟨_, rfl, _, rfl, a, some y, rfl, hy1, _, rfl, iteF ?_⟩
      -- point, times = there[thing]
      obtain ⟨ya, yxs, rfl, hya, yr⟩ := id hy2.inv
      cases yr with
      | cons y1 yr => cases yr with
      | cons y2 yr => cases yr with
      | nil =>
      cases y1.int_eq
      refine ⟨_, rfl, _, rfl, a, .ref ya, rfl, hy1, ya, _, rfl, SqT.of hya, rfl, _, _, rfl, _, _, rfl, rfl, ?_⟩
      refine ⟨_, rfl, 1, rfl, rfl, _, rfl, ?_⟩
      refine ite2 (fun hc2 => ?_) (fun hc2 => ?_)
      · have h1 : d = -1 := by simpa using hc2
        subst h1
        rw [nxt_goes] at q
        have hpop := hd.pop (K := K) hx hg (Q := fun v H3 => Q (.bl true) H3) fun v H3 k3 t3 d3 => q H3 k3 t3 (d3.mono (Nat.le_succ n))
        exact ⟨_, rfl, hpop.1, _, rfl, hpop.2⟩
      · have hm1 : d ≠ -1 := by simpa using hc2
        have h1 : 1 ≤ d := by have := l.lo; omega
        obtain ⟨g', mv, hg', hmv⟩ := l.deed h1
        rw [hg] at hg'
        cases hg'
        have w' := fw g hg
        obtain ⟨g1, g2⟩ := mvs_at ok w'.1
        obtain ⟨b, tk⟩ := mv
        have g3 := mv_at (M := M) (p := g.1) (mv_some ok w'.1 hmv)
        rw [hmv] at g3
        obtain ⟨mm1, mm2, mm3⟩ := ok.mv _ _ _ _ w'.1 hmv
        have e : nxt M th now d t = some (behind g (b, tk) now) := by
          unfold nxt
          rw [if_neg h0, if_neg hm1, hg]
          simp only
          rw [hmv]
        rw [e] at q
        refine ⟨_, rfl, _, rfl, ixT _ (by rfl) m3 g1 fun v3 e3 => ?_⟩
        refine ⟨_, rfl, _, _, rfl, rfl, ixT (d - 1).toNat (by omega) e3 g3 fun v4 e4 => ?_⟩
        obtain ⟨a4, xs4, rfl, ha4, r4⟩ := id e4.inv
        refine ⟨_, rfl, rfl, _, rfl, iteF ?_⟩
        -- there[thing] = (move[0], tuple([..]))
        refine ⟨_, rfl, ixC 0 (by rfl) e4 rfl fun v5 e5 => ?_⟩
        cases e5.int_eq
        refine ⟨_, rfl, ixC 1 (by rfl) e4 rfl fun v6 e6 => ?_⟩
        obtain ⟨at6, rfl, hat6⟩ := e6.ns
        refine ⟨at6, rfl, ⟨_, SqT.of hat6⟩, fun D hD => ?_⟩
        refine lc_tup (K := K) (xs := tk.map V.int) (fun i H' => Same H H' ∧ H' D = some (.lst (((tk.take i).map fun k => if k = -1 then now else g.2.getD k.toNat 0).map V.int))) ⟨same_new hD, upd_same⟩ (fun i H' _ ⟨s1, _⟩ => SqT.of (s1 _ _ hat6)) ?_ ?_
        · rintro i x' H' hi ⟨s1, h1'⟩
          rw [List.getElem?_map] at hi
          obtain ⟨k, hk, rfl⟩ := Option.map_eq_some_iff.mp hi
          obtain ⟨hil, hke⟩ := List.getElem?_eq_some_iff.mp hk
          have hmem : k ∈ tk := List.mem_of_getElem? hk
          refine ⟨rfl, ?_⟩
          have fin : ∀ z : Int, z = (if k = -1 then now else g.2.getD k.toNat 0) → ∃ acc, H' D = some (.lst acc) ∧ acc.length < sizeLine ∧ (Same H (upd H' D (.lst (acc ++ [V.int z]))) ∧
              (upd H' D (.lst (acc ++ [V.int z]))) D = some (.lst (((tk.take (i + 1)).map fun k => if k = -1 then now else g.2.getD k.toNat 0).map V.int))) := fun z hz => by
            refine ⟨_, h1', small1000 ?_, fun b o e => ?_, ?_⟩
            · rw [List.length_map, List.length_map, List.length_take]
              have h3 := ok.live b mm1
              omega
            · rw [upd_ne (ne_of_none e hD)]
              exact s1 b o e
            · rw [upd_same, take_snoc hil, hke, List.map_append, hz]
              rfl
          -- now if k == -1 else times[k]
          refine ⟨_, rfl, 1, rfl, rfl, _, rfl, ?_⟩
          refine ite2 (fun hc => ?_) (fun hc => ?_)
          · have hk0 : k = -1 := by simpa using hc
            exact ⟨_, rfl, fin _ (by rw [if_pos hk0])⟩
          · have hk0 : k ≠ -1 := by simpa using hc
            have hk2 := (mm3 k hmem).resolve_left hk0
            refine ⟨_, rfl, _, rfl, ixT k.toNat (by omega) (y2.tk (Same.tk s1)) (ns_at (by rw [w'.2]; omega)) fun v6 e6 => ?_⟩
            cases e6.int_eq
            exact fin _ (by rw [if_neg hk0])
        · rintro H' ⟨s1, h1'⟩
          have hl : (tk.map V.int).length = tk.length := List.length_map ..
          rw [hl, List.take_length] at h1'
          refine ⟨D, _, rfl, .inl ⟨SqL.of h1', fun tl hl => ⟨by show 2 ≤ sizeLine; decide, fun p hp => ?_⟩⟩⟩
          have n1 : p ≠ tl := fun e => by rw [e, upd_same] at hp; cases hp
          have s2 := (s1.trans (same_new hl)).trans (same_new (o := .tup [V.int ((b : Nat) : Int), V.ref tl]) hp)
          have hd1 := hd.keep (fun o e => s2 _ _ e) (Same.tk s2)
          obtain ⟨H3, pd, k3, t3, d3⟩ := hd1.put (by omega) (hx.tk (Same.tk s2)) (f := behind g (b, tk) now) (x := .ref p) (im2 upd_same (.int _) (im_ns (by rw [upd_ne (Ne.symm n1), upd_same]; rfl)))
          exact ⟨_, rfl, _, rfl, a, H3, rfl, pd, q _ ((Same.kp s2).trans k3) ((Same.tk s2).trans t3) d3⟩
end
end Own

namespace Own
open PySem PySem.Spec PyProof.Rows L2
section
variable {P : Program} {w : World} {K : PySem.W.Frag} {mg : Str → Option Value} {base : Heap} {C : Addr}

/-!  _law_is_ahead: N = [(0, '_law_machine_here'), (1, '_law_row_here'), (2, '_law_one'), (3, '_law_other'), (4, '_law_first'), (5, '_law_second'), (6, '_law_mine'), (7, '_law_theirs')] -/
abbrev s_l_is_ahead : Stmt := topS 34
abbrev n_l_is_ahead : List Str := ["_law_machine_here", "_law_row_here", "_law_one", "_law_other", "_law_first", "_law_second", "_law_mine", "_law_theirs"]
theorem sc_l_is_ahead : FnScope n_l_is_ahead ["_law_machine_here", "_law_row_here", "_law_one", "_law_other"] (defScope s_l_is_ahead) := ⟨rfl, rfl, rfl, by decide +kernel, rfl, by decide +kernel, by decide +kernel⟩
def spLAhead : Sp := fun vs H Q _ => ∃ (m f f' : V) (M : Mach) (g g' : Fig), vs = [m, .int 0, f, f'] ∧ M.Ok ∧ FigW M g ∧ FigW M g' ∧ Im H m (dMach M) ∧ Im H f (dFig g) ∧ Im H f' (dFig g') ∧ Q (.bl (plt (place M g) (place M g'))) H
theorem ok_l_is_ahead {f : Addr} {fd : FuncData} (F : Fun K "_law_is_ahead" "_law_is_ahead" s_l_is_ahead f fd) : FnOk P w K mg base CX0 1 f fd ["_law_machine_here", "_law_row_here", "_law_one", "_law_other"] spLAhead := by
  refine F.ok sc_l_is_ahead (fun vs H Q E h => ?_) (fun cdv A outer s H vs Q E hr h => ?_)
  · obtain ⟨m, f, f', M, g, g', rfl, _⟩ := h
    rfl
  · obtain ⟨m, f, f', M, g, g', rfl, ok, fw, fw', hm, hf, hf', q⟩ := h
    refine ⟨_, (pss_cons (ps_par (i := 4) (j := 5) (by rfl) sc_l_is_ahead.nd rfl rfl (by decide) rfl rfl (pa_cons (pe_ix (r := rIxT K) ix_tup (pe_ix (r := rIxT K) ix_tup (pe_ix (r := rIxT K) ix_tup (pe_ix (r := rIxT K) ix_tup (pv 0) pe_int (fun _ _ => rfl)) (pe_ix (r := rIxT K) ix_tup (pv 2) pe_int (fun _ _ => rfl)) (fun _ _ => rfl)) pe_int (fun _ _ => rfl)) (pv 1) (fun _ _ => rfl)) (pa_cons (pe_ix (r := rIxT K) ix_tup (pe_ix (r := rIxT K) ix_tup (pe_ix (r := rIxT K) ix_tup (pe_ix (r := rIxT K) ix_tup (pv 0) pe_int (fun _ _ => rfl)) (pe_ix (r := rIxT K) ix_tup (pv 3) pe_int (fun _ _ => rfl)) (fun _ _ => rfl)) pe_int (fun _ _ => rfl)) (pv 1) (fun _ _ => rfl)) pa_nil)) (by rfl))
        (pss_cons (ps_if (pt_cmpR op_ne (pe_ix (r := rIxT K) ix_tup (pv 4) pe_int (fun _ _ => rfl)) (pe_ix (r := rIxT K) ix_tup (pv 5) pe_int (fun _ _ => rfl)) (nomark _)) (pss_one (ps_ret (pe_cmpR op_lt (pe_ix (r := rIxT K) ix_tup (pv 4) pe_int (fun _ _ => rfl)) (pe_ix (r := rIxT K) ix_tup (pv 5) pe_int (fun _ _ => rfl)) (nomark _)))) pss_nil)
        (pss_cons (ps_par (i := 6) (j := 7) (by rfl) sc_l_is_ahead.nd rfl rfl (by decide) rfl rfl (pa_cons (pe_ix (r := rIxT K) ix_tup (pe_ix (r := rIxT K) ix_tup (pv 2) pe_int (fun _ _ => rfl)) (pe_ix (r := rIxT K) ix_tup (pv 4) pe_int (fun _ _ => rfl)) (fun _ _ => rfl)) (pa_cons (pe_ix (r := rIxT K) ix_tup (pe_ix (r := rIxT K) ix_tup (pv 3) pe_int (fun _ _ => rfl)) (pe_ix (r := rIxT K) ix_tup (pv 5) pe_int (fun _ _ => rfl)) (fun _ _ => rfl)) pa_nil)) (by rfl))
        (pss_one (ps_ret (pe_ifExp (pt_cmpR op_eq (pe_ix (r := rIxT K) ix_tup (pv 4) pe_int (fun _ _ => rfl)) pe_str (nomark _)) (pe_cmpR op_gt (pv 6) (pv 7) (nomark _)) (pe_cmpR op_lt (pv 6) (pv 7) (nomark _)))))))), ?_⟩
    rw [← ahead_eq ok fw.1 fw'.1] at q
    unfold ahead at q
    simp only at q
    have hk := ns_at (fw.at_ ok)
    have hk' := ns_at (fw'.at_ ok)
    -- first, second
    refine ⟨_, rfl, ixC 1 (by rfl) hm rfl fun v1 e1 => ?_⟩
    refine ⟨_, rfl, ixC 0 (by rfl) hf rfl fun v2 e2 => ?_⟩
    cases e2.int_eq
    refine ixT _ (by rfl) e1 (pts_at fw.1) fun v3 e3 => ?_
    refine ixC 0 (by rfl) e3 rfl fun v4 e4 => ?_
    refine ⟨_, rfl, ixT 0 (by rfl) e4 (std_at ok fw.1) fun s1 d1 => ?_⟩
    refine ⟨_, rfl, ixC 1 (by rfl) hm rfl fun v1 e1 => ?_⟩
    refine ⟨_, rfl, ixC 0 (by rfl) hf' rfl fun v2 e2 => ?_⟩
    cases e2.int_eq
    refine ixT _ (by rfl) e1 (pts_at fw'.1) fun v3 e3 => ?_
    refine ixC 0 (by rfl) e3 rfl fun v4 e4 => ?_
    refine ⟨_, rfl, ixT 0 (by rfl) e4 (std_at ok fw'.1) fun s2 d2 => ?_⟩
    refine ⟨_, _, rfl, ?_⟩
    -- if first[0] != second[0]
    refine ⟨_, rfl, ixC 0 (by rfl) d1 rfl fun v5 e5 => ?_⟩
    cases e5.int_eq
    refine ⟨_, rfl, ixC 0 (by rfl) d2 rfl fun v6 e6 => ?_⟩
    cases e6.int_eq
    by_cases hne : (standOf M g.1).1 = (standOf M g'.1).1
    · rw [if_pos hne] at q
      refine ⟨rfl, false, (by rw [decide_eq_true (by rw [hne])]; rfl), iteF ?_⟩
      -- mine, theirs
      refine ⟨_, rfl, ixC 1 (by rfl) hf rfl fun v7 e7 => ?_⟩
      refine ⟨_, rfl, ixC 2 (by rfl) d1 rfl fun v8 e8 => ?_⟩
      cases e8.int_eq
      refine ixT _ (by rfl) e7 hk fun v9 e9 => ?_
      cases e9.int_eq
      refine ⟨_, rfl, ixC 1 (by rfl) hf' rfl fun v7 e7 => ?_⟩
      refine ⟨_, rfl, ixC 2 (by rfl) d2 rfl fun v8 e8 => ?_⟩
      cases e8.int_eq
      refine ixT _ (by rfl) e7 hk' fun v9 e9 => ?_
      cases e9.int_eq
      refine ⟨_, _, rfl, ?_⟩
      -- mine > theirs if first[1] == 'later' else mine < theirs
      refine ⟨_, rfl, ixC 1 (by rfl) d1 rfl fun v10 e10 => ?_⟩
      cases e10.str_eq
      refine ⟨rfl, _, rfl, ?_⟩
      cases hb : (standOf M g.1).2.1 with
      | true =>
        rw [hb, if_pos rfl] at q
        refine iteT ?_
        exact ⟨_, rfl, _, rfl, _, _, rfl, rfl, q⟩
      | false =>
        rw [hb, if_neg (by decide)] at q
        refine iteF ?_
        exact ⟨_, rfl, _, rfl, _, _, rfl, rfl, q⟩
    · rw [if_neg hne] at q
      refine ⟨rfl, true, (by rw [decide_eq_false (by intro z; injection z with z; exact hne z)]; rfl), iteT ?_⟩
      refine ⟨_, rfl, ixC 0 (by rfl) d1 rfl fun v5 e5 => ?_⟩
      cases e5.int_eq
      refine ⟨_, rfl, ixC 0 (by rfl) d2 rfl fun v6 e6 => ?_⟩
      cases e6.int_eq
      exact ⟨_, _, rfl, rfl, q⟩

/-!  _law_wrong_pairs: N = [(0, '_law_machine_here'), (1, '_law_there'), (2, '_law_order'), (3, '_law_many'), (4, '_law_k'), (5, '_law_j')] -/
abbrev s_l_wrong_pairs : Stmt := topS 39
abbrev n_l_wrong_pairs : List Str := ["_law_machine_here", "_law_there", "_law_order", "_law_many", "_law_k", "_law_j"]
theorem sc_l_wrong_pairs : FnScope n_l_wrong_pairs ["_law_machine_here", "_law_there", "_law_order"] (defScope s_l_wrong_pairs) := ⟨rfl, rfl, rfl, by decide +kernel, rfl, by decide +kernel, by decide +kernel⟩
def spPairs : Sp := fun vs H Q _ => ∃ (m : V) (a l : Addr) (M : Mach) (th : Figs) (o : List Thing) (n : Nat), vs = [m, .ref a, .ref l] ∧ M.Ok ∧ Im H m (dMach M) ∧ DcT H a th n ∧ LsD H l (o.map dTh) ∧ Row th o ∧ Fit M th ∧ o.length ≤ 100 ∧ Q (.int ((inv (lt (pl M th)) o : Nat) : Int)) H
theorem ok_l_wrong_pairs {f : Addr} {fd : FuncData} (F : Fun K "_law_wrong_pairs" "_law_wrong_pairs" s_l_wrong_pairs f fd) (T : Txt K mg C) (c__law_is_ahead : Callee P w K mg base "_law_is_ahead" 1 ["_law_machine_here", "_law_row_here", "_law_one", "_law_other"] spLAhead) :
    FnOk P w K mg base CX0 2 f fd ["_law_machine_here", "_law_there", "_law_order"] spPairs := by
  refine F.ok sc_l_wrong_pairs (fun vs H Q E h => ?_) (fun cdv A outer s H vs Q E hr h => ?_)
  · obtain ⟨m, a, l, M, th, o, n, rfl, _⟩ := h
    rfl
  · obtain ⟨m, a, l, M, th, o, n, rfl, ok, hm, hd, hl, R, fit, hlen, q⟩ := h
    have hu := hu_of hr
    refine ⟨_, (pss_cons (ps_set (i := 3) sc_l_wrong_pairs.nd rfl (Or.inl rfl) pe_int)
        (pss_cons (ps_for PassesOwn.never rfl (pi_range1 (by rfl) T.n_range (pa_cons (pe_callB call_len_seq (by rfl) T.n_len bt_len (pa_cons (pv 2) pa_nil)) pa_nil)) (pg_name (i := 4) sc_l_wrong_pairs.nd rfl (Or.inl rfl)) (pss_one (ps_for PassesOwn.never rfl (pi_range1 (by rfl) T.n_range (pa_cons (pv 4) pa_nil)) (pg_name (i := 5) sc_l_wrong_pairs.nd rfl (Or.inl rfl)) (pss_one (ps_aug (i := 3) sc_l_wrong_pairs.nd rfl (Or.inl rfl) (pe_callTy call_int1 (by rfl) T.n_int bt_int (pa_cons (pe_own c__law_is_ahead (hr.mono (by decide)) (by rfl) (pa_cons (pv 0) (pa_cons pe_int (pa_cons (pe_dget hu (pv 1) (pe_ix (r := rIxL K) ix_list (pv 2) (pv 4) (fun _ _ => rfl)) (fun _ _ => rfl)) (pa_cons (pe_dget hu (pv 1) (pe_ix (r := rIxL K) ix_list (pv 2) (pv 5) (fun _ _ => rfl)) (fun _ _ => rfl)) pa_nil))))) pa_nil)) ip_add)))))
        (pss_one (ps_ret (pv 3))))), ?_⟩
    obtain ⟨vs, hl1, hl2⟩ := id hl
    have hvl : vs.length = o.length := by rw [hl2.len, List.length_map]
    refine ⟨_, rfl, l, vs, rfl, .inl (SqL.of hl1), _, rfl, (by omega), (by omega), for_range (lo := 0) (n := ((vs.length : Nat) : Int).toNat) (fun i σ H' => ∃ v4 v5, σ = [some m, some (.ref a), some (.ref l), some (.int ((inv (lt (pl M th)) (o.take i) : Nat) : Int)), v4, v5] ∧ H' = H) ⟨none, none, rfl, rfl⟩ ?_ ?_⟩
    · rintro i σ H' hi ⟨v4, v5, rfl, rfl⟩
      have hi' : i < o.length := by omega
      refine ⟨_, rfl, _, rfl, (by omega), (by omega), for_range (lo := 0) (n := ((0 : Int) + ((i : Nat) : Int)).toNat) (fun j σ H'' => ∃ v5, σ = [some m, some (.ref a), some (.ref l), some (.int ((inv (lt (pl M th)) (o.take i) + (o.take j).countP (fun x => lt (pl M th) o[i] x) : Nat) : Int)), some (.int (0 + ((i : Nat) : Int))), v5] ∧ H'' = H') ⟨v5, rfl, rfl⟩ ?_ ?_⟩
      · rintro j σ H'' hj ⟨v5, rfl, rfl⟩
        have hj' : j < o.length := by omega
        obtain ⟨g1, hg1⟩ := (R.mem _).mp (List.getElem_mem hi')
        obtain ⟨g2, hg2⟩ := (R.mem _).mp (List.getElem_mem hj')
        have a1 : (o.map dTh)[i]? = some (dTh o[i]) := by rw [List.getElem?_map, List.getElem?_eq_getElem hi']; rfl
        have a2 : (o.map dTh)[j]? = some (dTh o[j]) := by rw [List.getElem?_map, List.getElem?_eq_getElem hj']; rfl
        refine ⟨_, rfl, _, rfl, _, rfl, _, rfl, _, rfl, ixL i (by omega) hl a1 fun v1 e1 => ?_⟩
        obtain ⟨x1, gx1, ix1⟩ := hd.got e1 hg1
        refine ⟨a, x1, rfl, gx1, _, rfl, _, rfl, _, rfl, ixL j (by omega) hl a2 fun v2 e2 => ?_⟩
        obtain ⟨x2, gx2, ix2⟩ := hd.got e2 hg2
        refine ⟨a, x2, rfl, gx2, m, x1, x2, M, g1, g2, rfl, ok, fit _ _ hg1, fit _ _ hg2, hm, ix1, ix2, .inr ⟨_, rfl, _, _, rfl, rfl, some (.int (0 + ((j : Nat) : Int))), ?_, rfl⟩⟩
        have e : lt (pl M th) o[i] o[j] = plt (place M g1) (place M g2) := by
          unfold lt
          rw [pl_some hg1, pl_some hg2]
        have ec := countP_take (fun x => lt (pl M th) o[i] x) o j hj'
        rw [ec, ← e]
        cases lt (pl M th) o[i] o[j] with
        | true => rfl
        | false =>
          show [some m, some (.ref a), some (.ref l), some (V.int (((inv (lt (pl M th)) (o.take i) + (o.take j).countP (fun x => lt (pl M th) o[i] x) : Nat) : Int) + 0)), some (.int (0 + ((i : Nat) : Int))), some (.int (0 + ((j : Nat) : Int)))] = _
          rw [Int.add_zero]
          rfl
      · rintro σ H'' ⟨v5, rfl, rfl⟩
        refine ⟨some (.int (0 + ((i : Nat) : Int))), v5, ?_, rfl⟩
        rw [inv_take (lt (pl M th)) o i hi', show ((0 : Int) + ((i : Nat) : Int)).toNat = i by omega]
    · rintro σ H' ⟨v4, v5, rfl, rfl⟩
      refine ⟨_, rfl, ?_⟩
      rw [show ((vs.length : Nat) : Int).toNat = o.length by omega, List.take_length]
      exact q

/-!  _law_lane_done: N = [(0, '_law_order'), (1, '_law_deed'), (2, '_law_thing'), (3, '_law_x')] -/
abbrev s_l_lane_done : Stmt := topS 40
abbrev n_l_lane_done : List Str := ["_law_order", "_law_deed", "_law_thing", "_law_x"]
theorem sc_l_lane_done : FnScope n_l_lane_done ["_law_order", "_law_deed", "_law_thing"] (defScope s_l_lane_done) := ⟨rfl, rfl, rfl, by decide +kernel, rfl, by decide +kernel, by decide +kernel⟩
def spDone : Sp := fun vs H Q _ => ∃ (l : Addr) (x : V) (d : Int) (o : List Thing) (t : Thing), vs = [.ref l, .int d, x] ∧ LsD H l (o.map dTh) ∧ Im H x (dTh t) ∧ o.length ≤ 100 ∧
  ∀ l' H', Same H H' → LsD H' l' ((ordNext o d t).map dTh) → Q (.ref l') H'
theorem ok_l_lane_done {f : Addr} {fd : FuncData} (F : Fun K "_law_lane_done" "_law_lane_done" s_l_lane_done f fd) : FnOk P w K mg base CX0 1 f fd ["_law_order", "_law_deed", "_law_thing"] spDone := by
  refine F.ok sc_l_lane_done (fun vs H Q E h => ?_) (fun cdv A outer s H vs Q E hr h => ?_)
  · obtain ⟨l, x, d, o, t, rfl, _⟩ := h
    rfl
  · obtain ⟨l, x, d, o, t, rfl, hl, hx, hlen, q⟩ := h
    refine ⟨_, (pss_cons (ps_if (pt_cmpR op_eq (pv 1) pe_int (nomark _)) (pss_one (ps_ret (pe_op op_cat (pv 0) (pe_lst (pa_cons (pv 2) pa_nil))))) pss_nil)
        (pss_one (ps_ret (pe_ifExp (pt_cmpR op_eq (pv 1) (pe_un un_neg pe_int) (nomark _)) (pe_lc (own := [("_law_x", 3)]) rfl sc_l_lane_done.nd (pi_list (pv 0)) (blkOk_by (own := [("_law_x", 3)]) (N := n_l_lane_done) (sc := defScope s_l_lane_done) (by decide +kernel)) (fun _ _ _ _ _ => (pg_name (i := 3) sc_l_lane_done.nd rfl (Or.inl rfl))) (fun _ _ _ _ _ => (pts_one (pt_cmpR (r := rNeD K) (op_neD hr.units) (pv 3) (pv 2) (nomark _)))) (fun _ _ _ _ _ => (pv 3))) (pv 0))))), ?_⟩
    obtain ⟨vs, hl1, hl2⟩ := id hl
    have hvl : vs.length = o.length := by rw [hl2.len, List.length_map]
    refine ⟨_, rfl, rfl, _, rfl, ?_⟩
    refine ite2 (fun hc => ?_) (fun hc => ?_)
    · have h0 : d = 0 := by simpa using hc
      refine ⟨_, rfl, _, rfl, by show 1 ≤ sizeLine; decide, fun p hp => ?_⟩
      have nlp : l ≠ p := ne_of_none hl1 hp
      refine ⟨l, p, vs, [x], rfl, rfl, (by rw [upd_ne nlp]; exact hl1), upd_same, ?_, fun r hr' => ?_⟩
      · exact Nat.le_of_lt (small5 (by simp; omega))
      · have s2 := (same_new hp).trans (same_new (o := .lst (vs ++ [x])) hr')
        refine q r _ s2 ⟨_, upd_same, ?_⟩
        rw [show ordNext o d t = o ++ [t] from if_pos h0, List.map_append]
        exact (hl2.tk (Same.tk s2)).snoc (hx.tk (Same.tk s2))
    · have h0 : d ≠ 0 := by simpa using hc
      refine ⟨_, rfl, 1, rfl, rfl, _, rfl, ?_⟩
      refine ite2 (fun hc2 => ?_) (fun hc2 => ?_)
      · have h1 : d = -1 := by simpa using hc2
        have eo : ordNext o d t = o.filter (fun x => decide (x ≠ t)) := by
          unfold ordNext
          rw [if_neg h0, if_pos h1]
        refine ⟨_, rfl, l, rfl, ⟨_, SqL.of hl1⟩, fun D hD => ?_⟩
        refine lc_list (K := K) (xs := vs) (fun i H' => Same H H' ∧ ∃ ws, H' D = some (.lst ws) ∧ ws.length ≤ i ∧ ImAll H' ws (((o.take i).filter (fun x => decide (x ≠ t))).map dTh)) ⟨same_new hD, [], upd_same, Nat.zero_le _, .nil⟩ (fun i H' _ ⟨s1, _⟩ => SqL.of (s1 _ _ hl1)) ?_ ?_
        · rintro i y H' hi ⟨s1, ws, hws, hwl, iws⟩
          obtain ⟨dd, hdd, iy⟩ := hl2.get' hi
          have hil : i < o.length := by
            have := (List.getElem?_eq_some_iff.mp hi).1
            omega
          have edd : dd = dTh o[i] := by
            rw [List.getElem?_map, List.getElem?_eq_getElem hil] at hdd
            exact (Option.some.inj hdd).symm
          subst edd
          refine ⟨rfl, ?_⟩
          refine ⟨_, rfl, _, rfl, dTh o[i], dTh t, (iy.tk (Same.tk s1)).dp, (hx.tk (Same.tk s1)).dp, shaped_th _, shaped_th _, _, rfl, ?_⟩
          have ev := eqv_th o[i] t
          rw [List.take_succ_eq_append_getElem hil, List.filter_append, List.map_append]
          by_cases he : o[i] = t
          · refine iteNo (by rw [ev, decide_eq_true he]; rfl) ?_
            rw [List.filter_cons_of_neg (by simpa using he)]
            exact ⟨s1, ws, hws, by omega, by simpa using iws⟩
          · refine iteYes (by rw [ev, decide_eq_false he]; rfl) ?_
            rw [List.filter_cons_of_pos (by simpa using he)]
            have tk1 : TK H' (upd H' D (.lst (ws ++ [y]))) := tk_upd fun xs e => by rw [hws] at e; cases e
            refine ⟨_, rfl, ws, hws, small5 (by omega), fun b o e => ?_, _, upd_same, by simp; omega, (iws.tk tk1).snoc (iy.tk ((Same.tk s1).trans tk1))⟩
            rw [upd_ne (ne_of_none e hD)]
            exact s1 b o e
        · rintro H' ⟨s1, ws, hws, hwl, iws⟩
          rw [hvl, List.take_length, ← eo] at iws
          exact q D H' s1 ⟨ws, hws, iws⟩
      · have h1 : d ≠ -1 := by simpa using hc2
        have eo : ordNext o d t = o := by
          unfold ordNext
          rw [if_neg h0, if_neg h1]
        refine ⟨_, rfl, q l H (Same.refl H) ?_⟩
        rw [eo]
        exact hl
end
end Own

namespace Own
open PySem PySem.Spec PyProof.Rows L2
theorem ixN_nat {n j : Nat} (hj : j < n) : ixN n (j : Int) = some j := by
  unfold ixN
  rw [if_pos (by omega), if_pos (by omega)]
  simp
theorem ImAll.of_get {H : Hp} : ∀ {vs : List V} {ds : List PyData}, vs.length = ds.length → (∀ (k : Nat) v d, vs[k]? = some v → ds[k]? = some d → Im H v d) → ImAll H vs ds
  | [], [], _, _ => .nil
  | [], _ :: _, h, _ => by simp at h
  | _ :: _, [], h, _ => by simp at h
  | v :: vs, d :: ds, h, k => .cons (k 0 v d rfl rfl) (ImAll.of_get (by simpa using h) fun i v d h1 h2 => k (i + 1) v d (by simpa using h1) (by simpa using h2))
theorem keys_im {H : Hp} : ∀ {kvs : List (List L2.Key × V)} {bs : List Addr} {ts : List Thing}, IsKeys H kvs bs → kvs.map (·.1) = ts.map keyOf → ImAll H (bs.map V.ref) (ts.map dTh)
  | _, _, [], .nil, _ => .nil
  | _, _, t :: ts, .nil, h => by simp at h
  | _, _, [], .cons _ _, h => by simp at h
  | (k, v) :: _, b :: _, t :: ts, .cons h r, e => by
    simp only [List.map_cons, List.cons.injEq] at e
    obtain ⟨e1, e2⟩ := e
    have h' : H b = some (.tup (k.map kV)) := h
    rw [e1] at h'
    exact .cons (im_th h') (keys_im r e2)
section
variable {P : Program} {w : World} {K : PySem.W.Frag} {mg : Str → Option Value} {base : Heap} {C : Addr}

/-!  _law_row: N = [(0, '_law_machine_here'), (1, '_law_row_here'), (2, '_law_there'), (3, '_law_things_here'), (4, '_law_x'), (5, '_law_found'), (6, '_law_ahead'), (7, '_law_y')] -/
abbrev s_l_row : Stmt := topS 35
abbrev n_l_row : List Str := ["_law_machine_here", "_law_row_here", "_law_there", "_law_things_here", "_law_x", "_law_found", "_law_ahead", "_law_y"]
theorem sc_l_row : FnScope n_l_row ["_law_machine_here", "_law_row_here", "_law_there"] (defScope s_l_row) := ⟨rfl, rfl, rfl, by decide +kernel, rfl, by decide +kernel, by decide +kernel⟩
def spRow : Sp := fun vs H Q _ => ∃ (m : V) (a : Addr) (M : Mach) (th : Figs) (o : List Thing) (n : Nat), vs = [m, .int 0, .ref a] ∧ M.Ok ∧ Im H m (dMach M) ∧ DcT H a th n ∧ n ≤ 100 ∧ Row th o ∧ Apart (pl M th) o ∧ Fit M th ∧
  ∀ l H', Same H H' → LsD H' l ((srt (pl M th) o).map dTh) → Q (.ref l) H'
theorem ok_l_row {f : Addr} {fd : FuncData} (F : Fun K "_law_row" "_law_row" s_l_row f fd) (T : Txt K mg C) (c__law_is_ahead : Callee P w K mg base "_law_is_ahead" 1 ["_law_machine_here", "_law_row_here", "_law_one", "_law_other"] spLAhead) :
    FnOk P w K mg base CX0 2 f fd ["_law_machine_here", "_law_row_here", "_law_there"] spRow := by
  refine F.ok sc_l_row (fun vs H Q E h => ?_) (fun cdv A outer s H vs Q E hr h => ?_)
  · obtain ⟨m, a, M, th, o, n, rfl, _⟩ := h
    rfl
  · obtain ⟨m, a, M, th, o, n, rfl, ok, hm, hd, hn, R, ap, fit, q⟩ := h
    have hu := hu_of hr
    refine ⟨_, (pss_cons (ps_set (i := 3) sc_l_row.nd rfl (Or.inl rfl) (pe_callTy (call_list_dT rfl) (by rfl) T.n_list bt_list (pa_cons (pv 2) pa_nil)))
        (pss_cons (ps_setLc (i := 5) (own := [("_law_x", 4)]) rfl sc_l_row.nd rfl rfl (sw_true rfl rfl rfl (by decide +kernel)) (pi_list (pv 3)) (blkOk_by (own := [("_law_x", 4)]) (N := n_l_row) (sc := defScope s_l_row) (by decide +kernel)) (fun _ _ _ _ _ => (pg_name (i := 4) sc_l_row.nd rfl (Or.inl rfl))) (fun _ _ _ _ _ => pts_nil) (fun _ _ _ _ _ => pe_non))
        (pss_cons (ps_for PassesOwn.never rfl (pi_list (pv 3)) (pg_name (i := 4) sc_l_row.nd rfl (Or.inr rfl)) (pss_cons (ps_setLc (i := 6) (own := [("_law_y", 7)]) rfl sc_l_row.nd rfl rfl (sw_true rfl rfl rfl (by decide +kernel)) (pi_list (pv 3)) (blkOk_by (own := [("_law_y", 7)]) (N := n_l_row) (sc := defScope s_l_row) (by decide +kernel)) (fun _ _ _ _ _ => (pg_name (i := 7) sc_l_row.nd rfl (Or.inl rfl))) (fun _ _ _ _ _ => (pts_one (PW.pt (pw_and (pt_cmpR (r := rNeD K) (op_neD hr.units) (pv 7) (pv 4) (nomark _)) (pw_and1 (pt_val (pe_own c__law_is_ahead (hr.mono (by decide)) (by rfl) (pa_cons (pv 0) (pa_cons (pv 1) (pa_cons (pe_dget hu (pv 2) (pv 7) (fun _ _ => rfl)) (pa_cons (pe_dget hu (pv 2) (pv 4) (fun _ _ => rfl)) pa_nil))))))))))) (fun _ _ _ _ _ => (pv 7)))
          (pss_one (ps_asg (pv 4) (pg_sub (pv 5) (pe_callB call_len_seq (by rfl) T.n_len bt_len (pa_cons (pv 6) pa_nil)) set_list)))))
        (pss_one (ps_ret (pv 5)))))), ?_⟩
    obtain ⟨kvs, ts, h1, h2, h3, h4, h5⟩ := id hd
    -- things = list(there)
    refine ⟨_, rfl, a, kvs, rfl, .inl h1, fun hl bs hhl hbs => ?_⟩
    have its : ImAll H (bs.map V.ref) (ts.map dTh) := keys_im hbs h2
    have hvl : (bs.map V.ref).length = ts.length := by rw [its.len, List.length_map]
    generalize bs.map V.ref = vs at its hvl ⊢
    have s1 : Same H (upd H hl (.lst vs)) := same_new hhl
    -- found = [None for x in things]
    refine ⟨_, rfl, hl, rfl, ⟨_, SqL.of upd_same⟩, fun fl hfl => ?_⟩
    have nlf : hl ≠ fl := fun e => by rw [← e, upd_same] at hfl; cases hfl
    have hfl0 : H fl = none := s1.free hfl
    refine lc_list (K := K) (xs := vs) (fun i H' => Same (upd H hl (.lst vs)) H' ∧ ∃ fs, H' fl = some (.lst fs) ∧ fs.length = i) ⟨same_new hfl, [], upd_same, rfl⟩ (fun i H' _ ⟨s', _⟩ => SqL.of (s' _ _ upd_same)) ?_ ?_
    · rintro i x H' hi ⟨s', fs, hfs, hfl'⟩
      have hil := (List.getElem?_eq_some_iff.mp hi).1
      refine ⟨rfl, ?_⟩
      refine ⟨fs, hfs, small5 (by omega), fun b o e => ?_, _, upd_same, by simp; omega⟩
      rw [upd_ne (ne_of_none e hfl)]
      exact s' b o e
    rintro H2 ⟨s2, fs0, hfs0, hfsl0⟩
    have hhl2 : H2 hl = some (.lst vs) := s2 _ _ upd_same
    have R' : Row th ts := h3
    have pm : List.Perm ts o := h3.perm_of R
    have es : srt (pl M th) ts = srt (pl M th) o := sorted_eq_srt ap R.nd ((srt_perm _ _).trans pm) (srt_sorted (ap.perm pm) h3.nd)
    rw [← es] at q
    have sS := srt_sorted (ap.perm pm) h3.nd
    have sP := srt_perm (pl M th) ts
    generalize srt (pl M th) ts = sr at q sS sP
    have sl : sr.length = ts.length := sP.length_eq
    have s12 : Same H H2 := s1.trans s2
    -- for x in things
    refine ⟨_, rfl, hl, rfl, ⟨_, SqL.of hhl2⟩, for_list (K := K) (a := hl) (xs := vs) (fun i σ H' => ∃ v4 v6 v7 fs, σ = [some m, some (.int 0), some (.ref a), some (.ref hl), v4, some (.ref fl), v6, v7] ∧ Same H H' ∧ H' hl = some (.lst vs) ∧ H' fl = some (.lst fs) ∧ fs.length = ts.length ∧
      ∀ k (hk : k < sr.length), sr[k] ∈ ts.take i → ∃ v, fs[k]? = some v ∧ Im H' v (dTh sr[k])) ⟨none, none, none, fs0, rfl, s12, hhl2, hfs0, by omega, fun k hk hm => by simp at hm⟩ (fun i σ H' _ ⟨_, _, _, _, _, _, e, _⟩ => SqL.of e) ?_ ?_⟩
    · rintro i x σ H' hi ⟨v4, v6, v7, fs, rfl, s', hhl', hfs, hfsl, hres⟩
      have hil : i < ts.length := by
        have := (List.getElem?_eq_some_iff.mp hi).1
        omega
      obtain ⟨dd, hdd, ix⟩ := its.get' hi
      have edd : dd = dTh ts[i] := by
        rw [List.getElem?_map, List.getElem?_eq_getElem hil] at hdd
        exact (Option.some.inj hdd).symm
      subst edd
      have hd' : DcT H' a th n := hd.keep (fun o e => s' _ _ e) (Same.tk s')
      obtain ⟨gx, hgx⟩ := (h3.mem _).mp (List.getElem_mem hil)
      -- ahead = [y for y in things if ..]
      refine ⟨_, rfl, hl, rfl, ⟨_, SqL.of hhl'⟩, fun D hD => ?_⟩
      have nfD : fl ≠ D := ne_of_none hfs hD
      refine lc_list (K := K) (xs := vs) (fun j H'' => Same H' H'' ∧ ∃ ws, H'' D = some (.lst ws) ∧ ws.length = (ts.take j).countP (fun y => lt (pl M th) y ts[i])) ⟨same_new hD, [], upd_same, rfl⟩ (fun j H'' _ ⟨s'', _⟩ => SqL.of (s'' _ _ hhl')) ?_ ?_
      · rintro j y H'' hj ⟨s'', ws, hws, hwl⟩
        have hjl : j < ts.length := by
          have := (List.getElem?_eq_some_iff.mp hj).1
          omega
        obtain ⟨dd, hdd, iy⟩ := its.get' hj
        have edd : dd = dTh ts[j] := by
          rw [List.getElem?_map, List.getElem?_eq_getElem hjl] at hdd
          exact (Option.some.inj hdd).symm
        subst edd
        have t'' := Same.tk (s'.trans s'')
        refine ⟨rfl, ?_⟩
        have keep : ∀ H3, Same H' H3 → H3 D = some (.lst ws) → lt (pl M th) ts[j] ts[i] = true → ∃ acc, H3 D = some (.lst acc) ∧ acc.length < sizeLine ∧ (Same H' (upd H3 D (.lst (acc ++ [y]))) ∧ ∃ ws, (upd H3 D (.lst (acc ++ [y]))) D = some (.lst ws) ∧ ws.length = (ts.take (j + 1)).countP (fun y => lt (pl M th) y ts[i])) := fun H3 s3 h3' hlt => by
          have hc : (ts.take j).countP (fun y => lt (pl M th) y ts[i]) ≤ (ts.take j).length := List.countP_le_length
          rw [List.length_take] at hc
          refine ⟨ws, h3', small5 (by omega), fun b o e => ?_, _, upd_same, ?_⟩
          · rw [upd_ne (ne_of_none e hD)]
            exact s3 b o e
          · rw [List.length_append, List.length_singleton, countP_take _ _ _ hjl, if_pos hlt, hwl]
        have drop : lt (pl M th) ts[j] ts[i] = false → ws.length = (ts.take (j + 1)).countP (fun y => lt (pl M th) y ts[i]) := fun hlt => by
          rw [countP_take _ _ _ hjl, if_neg (by rw [hlt]; decide), hwl, Nat.add_zero]
        refine ⟨_, rfl, _, rfl, dTh ts[j], dTh ts[i], (iy.tk t'').dp, (ix.tk t'').dp, shaped_th _, shaped_th _, _, rfl, ?_⟩
        have ev := eqv_th ts[j] ts[i]
        by_cases he : ts[j] = ts[i]
        · refine iteNo (by rw [ev, decide_eq_true he]; rfl) ?_
          exact ⟨s'', ws, hws, drop (by rw [he]; exact plt_irr _)⟩
        · refine iteYes (by rw [ev, decide_eq_false he]; rfl) ?_
          obtain ⟨gy, hgy⟩ := (h3.mem _).mp (List.getElem_mem hjl)
          have hd'' : DcT H'' a th n := hd'.keep (fun o e => s'' _ _ e) (Same.tk s'')
          obtain ⟨x1, gx1, ix1⟩ := hd''.got (iy.tk t'') hgy
          obtain ⟨x2, gx2, ix2⟩ := hd''.got (ix.tk t'') hgx
          refine ⟨_, rfl, _, rfl, _, rfl, _, rfl, a, x1, rfl, gx1, _, rfl, _, rfl, a, x2, rfl, gx2, m, x1, x2, M, gy, gx, rfl, ok, fit _ _ hgy, fit _ _ hgx, hm.tk t'', ix1, ix2, _, rfl, ?_⟩
          have e : lt (pl M th) ts[j] ts[i] = plt (place M gy) (place M gx) := by
            unfold lt
            rw [pl_some hgx, pl_some hgy]
          cases hlt : lt (pl M th) ts[j] ts[i] with
          | true => exact iteYes (e.symm.trans hlt) ⟨_, rfl, keep H'' s'' hws hlt⟩
          | false => exact iteNo (e.symm.trans hlt) ⟨s'', ws, hws, drop hlt⟩
      · rintro H'' ⟨s'', ws, hws, hwl⟩
        rw [hvl, List.take_length] at hwl
        -- found[len(ahead)] = x
        obtain ⟨k0, hk0, ek0⟩ := List.getElem_of_mem (sP.mem_iff.mpr (List.getElem_mem hil))
        have erank : ws.length = k0 := by
          rw [hwl, ← sP.countP_eq, ← ek0]
          exact rank_sorted sS k0 hk0
        have hfs'' := s'' _ _ hfs
        refine ⟨_, rfl, _, rfl, _, rfl, D, ws, rfl, .inl (SqL.of hws), fl, fs, _, k0, rfl, rfl, hfs'', (by rw [erank]; exact ixN_nat (by omega)), ?_⟩
        have tkf : TK H'' (upd H'' fl (.lst (fs.set k0 x))) := tk_upd fun xs e => by rw [hfs''] at e; cases e
        refine ⟨some x, some (.ref D), v7, fs.set k0 x, rfl, fun b o e => ?_, ?_, upd_same, by rw [List.length_set]; exact hfsl, fun k hk hmem => ?_⟩
        · rw [upd_ne (ne_of_none e hfl0)]
          exact s'' _ _ (s' b o e)
        · rw [upd_ne nlf]
          exact s'' _ _ hhl'
        · by_cases hkk : k = k0
          · subst hkk
            refine ⟨x, by rw [List.getElem?_set_self (by omega)], ?_⟩
            rw [ek0]
            exact ix.tk ((Same.tk (s'.trans s'')).trans tkf)
          · have hne : sr[k] ≠ ts[i] := fun e => hkk (by
              have r1 := rank_sorted sS k hk
              have r2 := rank_sorted sS k0 hk0
              rw [e] at r1
              rw [ek0] at r2
              omega)
            rw [List.take_succ_eq_append_getElem hil, List.mem_append, List.mem_singleton] at hmem
            obtain ⟨v, e1, e2⟩ := hres k hk (hmem.resolve_right hne)
            exact ⟨v, by rw [List.getElem?_set_ne (Ne.symm hkk)]; exact e1, e2.tk ((Same.tk s'').trans tkf)⟩
    · rintro σ H' ⟨v4, v6, v7, fs, rfl, s', hhl', hfs, hfsl, hres⟩
      refine ⟨_, rfl, q fl H' s' ⟨fs, hfs, ImAll.of_get (by rw [List.length_map]; omega) fun k v d e1 e2 => ?_⟩⟩
      rw [List.getElem?_map] at e2
      obtain ⟨t, et, rfl⟩ := Option.map_eq_some_iff.mp e2
      obtain ⟨hk, ek⟩ := List.getElem?_eq_some_iff.mp et
      obtain ⟨v', e3, e4⟩ := hres k hk (by rw [hvl, List.take_length]; exact sP.mem_iff.mp (List.getElem_mem hk))
      rw [e1] at e3
      cases e3
      rw [ek] at e4
      exact e4

/-!  _law_turns: N = [(0, '_law_machine_here'), (1, '_law_run_here'), (2, '_law_stops'), (3, '_law_there'), (4, '_law_order'), (5, '_law_many'), (6, '_law_now'), (7, '_law_deed'), (8, '_law_thing')] -/
abbrev s_l_turns : Stmt := topS 41
abbrev n_l_turns : List Str := ["_law_machine_here", "_law_run_here", "_law_stops", "_law_there", "_law_order", "_law_many", "_law_now", "_law_deed", "_law_thing"]
theorem sc_l_turns : FnScope n_l_turns ["_law_machine_here", "_law_run_here", "_law_stops"] (defScope s_l_turns) := ⟨rfl, rfl, rfl, by decide +kernel, rfl, by decide +kernel, by decide +kernel⟩
theorem ok_l_turns {f : Addr} {fd : FuncData} (F : Fun K "_law_turns" "_law_turns" s_l_turns f fd) (T : Txt K mg C) (c__law_step : Callee P w K mg base "_law_step" 1 ["_law_machine_here", "_law_there", "_law_now", "_law_deed", "_law_thing"] spStep)
    (c__law_lane_done : Callee P w K mg base "_law_lane_done" 1 ["_law_order", "_law_deed", "_law_thing"] spDone) (c__law_wrong_pairs : Callee P w K mg base "_law_wrong_pairs" 2 ["_law_machine_here", "_law_there", "_law_order"] spPairs)
    (c__law_row : Callee P w K mg base "_law_row" 2 ["_law_machine_here", "_law_row_here", "_law_there"] spRow) : FnOk P w K mg base CX0 3 f fd ["_law_machine_here", "_law_run_here", "_law_stops"] spTurns := by
  refine F.ok sc_l_turns (fun vs H Q E h => ?_) (fun cdv A outer s H vs Q E hr h => ?_)
  · obtain ⟨m, s, r, M, run, stops, rfl, _⟩ := h
    rfl
  · obtain ⟨m, sp, r, M, run, stops, rfl, ok, hm, hrun, v, hlen, hs, q⟩ := h
    refine ⟨_, (pss_cons (ps_par3 (i := 3) (j := 4) (l := 5) (by rfl) sc_l_turns.nd rfl rfl rfl (by decide) (by decide) (by decide) rfl rfl rfl (pa_cons pe_dnewT (pa_cons (pe_lst pa_nil) (pa_cons pe_int pa_nil))) (by rfl))
        (pss_cons (ps_for PassesOwn.never rfl (pi_range1 (by rfl) T.n_range (pa_cons (pe_callB call_len_seq (by rfl) T.n_len bt_len (pa_cons (pv 1) pa_nil)) pa_nil)) (pg_name (i := 6) sc_l_turns.nd rfl (Or.inl rfl)) (pss_cons (ps_asg (pe_ix (r := rIxL K) ix_list (pv 1) (pv 6) (fun _ _ => rfl)) (pg_tup rfl (pgs_cons (pg_name (i := 7) sc_l_turns.nd rfl (Or.inl rfl)) (pgs_cons (pg_name (i := 8) sc_l_turns.nd rfl (Or.inl rfl)) pgs_nil))))
          (pss_cons (ps_expr (pe_own c__law_step (hr.mono (by decide)) (by rfl) (pa_cons (pv 0) (pa_cons (pv 3) (pa_cons (pv 6) (pa_cons (pv 7) (pa_cons (pv 8) pa_nil)))))))
          (pss_cons (ps_set (i := 4) sc_l_turns.nd rfl (Or.inl rfl) (pe_own c__law_lane_done (hr.mono (by decide)) (by rfl) (pa_cons (pv 4) (pa_cons (pv 7) (pa_cons (pv 8) pa_nil)))))
          (pss_one (ps_if (pt_cmpR (r := rIn K false) op_in_seq (pv 6) (pv 2) rfl) (pss_cons (ps_aug (i := 5) sc_l_turns.nd rfl (Or.inl rfl) (pe_own c__law_wrong_pairs (hr.mono (by decide)) (by rfl) (pa_cons (pv 0) (pa_cons (pv 3) (pa_cons (pv 4) pa_nil)))) ip_add)
            (pss_one (ps_set (i := 4) sc_l_turns.nd rfl (Or.inl rfl) (pe_own c__law_row (hr.mono (by decide)) (by rfl) (pa_cons (pv 0) (pa_cons pe_int (pa_cons (pv 3) pa_nil))))))) pss_nil))))))
        (pss_one (ps_ret (pe_op op_add (pv 5) (pe_own c__law_wrong_pairs (hr.mono (by decide)) (by rfl) (pa_cons (pv 0) (pa_cons (pv 3) (pa_cons (pv 4) pa_nil))))))))), ?_⟩
    obtain ⟨rs, hr1, hr2⟩ := id hrun
    have hrl : rs.length = run.length := by rw [hr2.len, List.length_map]
    obtain ⟨sa, hsa, hs1⟩ := Im.ns (ns := stops.map fun n : Nat => (n : Int)) hs
    subst hsa
    -- there, order, many = {}, [], 0
    refine fun a ha => ⟨Nat.zero_le _, fun l hl => ⟨_, _, _, rfl, ?_⟩⟩
    have s1 : Same H (upd (upd H a (.dT [])) l (.lst [])) := (same_new ha).trans (same_new hl)
    have nal : a ≠ l := fun e => by rw [← e, upd_same] at hl; cases hl
    refine ⟨_, rfl, r, rs, rfl, .inl (SqL.of (s1 _ _ hr1)), _, rfl, (by omega), (by omega), for_range (lo := 0) (n := ((rs.length : Nat) : Int).toNat) (fun i σ H' => ∃ l v6 v7 v8, σ = [some m, some (.ref r), some (.ref sa), some (.ref a), some (.ref l), some (.int ((ordAt M run (stopAt stops) i).2 : Nat)), v6, v7, v8] ∧ Same H H' ∧
      DcT H' a (thAt M run i) i ∧ LsD H' l ((ordAt M run (stopAt stops) i).1.map dTh)) ⟨l, none, none, none, rfl, s1, DcT.nil (by rw [upd_ne nal, upd_same]) 0, [], upd_same, .nil⟩ ?_ ?_⟩
    · rintro i σ H' hi ⟨l, v6, v7, v8, rfl, s', dT, lD⟩
      have hi' : i < run.length := by omega
      obtain ⟨dd, t, hdt⟩ : ∃ dd t, run[i] = (dd, t) := ⟨_, _, rfl⟩
      have hrn : run[i]? = some (dd, t) := by rw [List.getElem?_eq_getElem hi', hdt]
      have e0 : (0 : Int) + ((i : Nat) : Int) = ((i : Nat) : Int) := by omega
      -- deed, thing = run[now]
      refine ⟨_, rfl, _, rfl, ixL i (by omega) (hrun.same s') (run_at hi') fun y iw2 => ?_⟩
      rw [hdt] at iw2
      obtain ⟨ra, rxs, rfl, hra, rr⟩ := iw2.inv
      cases rr with
      | cons r1 rr => cases rr with
      | cons r2 rr => cases rr with
      | nil =>
      rename_i x1 x2
      cases r1.int_eq
      refine ⟨ra, _, rfl, SqT.of hra, rfl, _, _, rfl, _, _, rfl, rfl, ?_⟩
      have R0 := row_at v (stopAt stops) i
      have l0 := v i dd t hrn
      have hol := (ord_len (M := M) (run := run) (S := stopAt stops) i).1
      -- step(..)
      refine ⟨_, rfl, _, rfl, _, rfl, _, rfl, _, rfl, m, x2, a, dd, 0 + ((i : Nat) : Int), M, t, _, i, rfl, ok, hm.tk (Same.tk s'), r2, dT, by omega, l0, fun f h => fit_at ok v i t f h, fun H3 k3 t3 d3 => ?_⟩
      rw [e0, ← thAt_succ hrn] at d3
      have s3 : Same H H3 := k3.out s' fun b hb => by rw [List.mem_singleton.mp hb]; exact ha
      have nla : l ≠ a := by
        obtain ⟨_, h1, _⟩ := lD
        obtain ⟨_, h2⟩ := dT.at_
        exact ne_of h1 h2 (fun z => nomatch z)
      have lD3 : LsD H3 l ((ordAt M run (stopAt stops) i).1.map dTh) := lD.keep (fun o e => k3 _ _ e (by simpa using nla)) t3
      -- order = lane_done(order, deed, thing)
      refine ⟨_, rfl, _, rfl, _, rfl, l, x2, dd, _, t, rfl, lD3, r2.tk t3, by omega, fun l4 H4 s4 lD4 => ?_⟩
      have R1 : Row (thAt M run (i + 1)) (ordNext (ordAt M run (stopAt stops) i).1 dd t) := by
        rw [thAt_succ hrn]
        exact row_next l0 R0
      have s34 := s3.trans s4
      have d4 : DcT H4 a (thAt M run (i + 1)) (i + 1) := d3.keep (fun o e => s4 _ _ e) (Same.tk s4)
      have hl1 := ordNext_len (M := M) (run := run) (S := stopAt stops) (i := i) (d := dd) (t := t)
      -- if now in stops
      refine ⟨_, rfl, _, rfl, sa, _, rfl, .inr (SqT.of (s34 _ _ hs1)), rfl, flat_ints _, _, rfl, ?_⟩
      have hin := inV_ints i stops
      rw [← e0] at hin
      cases hS : stopAt stops i with
      | true =>
        refine iteYes (hin.trans hS) ?_
        refine ⟨_, rfl, _, rfl, _, rfl, _, rfl, m, a, l4, M, _, _, _, rfl, ok, hm.tk (Same.tk s34), d4, lD4, R1, fit_at ok v (i + 1), by omega, _, _, rfl, rfl, ?_⟩
        refine ⟨_, rfl, _, rfl, m, a, M, _, _, _, rfl, ok, hm.tk (Same.tk s34), d4, by omega, R1, apart_at ok v (i + 1) R1, fit_at ok v (i + 1), fun l5 H5 s5 lD5 => ?_⟩
        refine ⟨l5, some (.int (0 + (i : Nat))), some (.int dd), some x2, ?_, s34.trans s5, d4.keep (fun o e => s5 _ _ e) (Same.tk s5), ?_⟩
        · rw [ordAt_yes hrn hS]
          rfl
        · rw [ordAt_yes hrn hS]
          exact lD5
      | false =>
        refine iteNo (hin.trans hS) ?_
        refine ⟨l4, some (.int (0 + (i : Nat))), some (.int dd), some x2, ?_, s34, d4, ?_⟩
        · rw [ordAt_no hrn hS]
          rfl
        · rw [ordAt_no hrn hS]
          exact lD4
    · rintro σ H' ⟨l, v6, v7, v8, rfl, s', dT, lD⟩
      have en : ((rs.length : Nat) : Int).toNat = run.length := by omega
      rw [en] at dT lD
      have R1 := row_at v (stopAt stops) run.length
      have hol := (ord_len (M := M) (run := run) (S := stopAt stops) run.length).1
      refine ⟨_, rfl, _, rfl, _, rfl, _, rfl, m, a, l, M, _, _, _, rfl, ok, hm.tk (Same.tk s'), dT, lD, R1, fit_at ok v _, by omega, _, _, rfl, rfl, ?_⟩
      have e : (((ordAt M run (stopAt stops) ((rs.length : Nat) : Int).toNat).2 : Nat) : Int) + ((inv (lt (pl M (thAt M run run.length))) (ordAt M run (stopAt stops) run.length).1 : Nat) : Int) = ((turns M run (stopAt stops) : Nat) : Int) := by
        rw [en]
        unfold turns
        omega
      show Q (V.int (_ + _)) H'
      rw [e]
      exact q H' s'
end
end Own

namespace Own
open PySem PySem.Spec PyProof.Rows L2
/-! ### 16. the bag of draws -/
def Bag (H : Hp) (b l : Addr) : Prop := ∃ (x y z : Int) (ns : List Int), H b = some (.lst [.int x, .int y, .int z, .ref l]) ∧ H l = some (.lst (ns.map V.int)) ∧ ns.length ≤ 1000
theorem Bag.ne {H : Hp} {b l : Addr} {xs : List V} {ns : List Int} (h1 : H b = some (.lst xs)) (h2 : H l = some (.lst (ns.map V.int))) (c : Addr) (hx : V.ref c ∈ xs) : b ≠ l := fun e => by
  rw [e, h2] at h1
  injection h1 with h1
  injection h1 with h1
  rw [← h1] at hx
  obtain ⟨_, _, e2⟩ := List.mem_map.mp hx
  cases e2
theorem Bag.keep {H H' : Hp} {b l : Addr} (h : Bag H b l) (kb : ∀ o, H b = some o → H' b = some o) (kl : ∀ o, H l = some o → H' l = some o) : Bag H' b l := by
  obtain ⟨x, y, z, ns, h1, h2, h3⟩ := h
  exact ⟨x, y, z, ns, kb _ h1, kl _ h2, h3⟩
theorem Bag.same {H H' : Hp} {b l : Addr} (h : Bag H b l) (s : Same H H') : Bag H' b l := h.keep (fun o e => s _ _ e) (fun o e => s _ _ e)
theorem Bag.is {H : Hp} {b l : Addr} (h : Bag H b l) : ∃ xs, H b = some (.lst xs) := by
  obtain ⟨x, y, z, ns, h1, _⟩ := h
  exact ⟨_, h1⟩
theorem Bag.isl {H : Hp} {b l : Addr} (h : Bag H b l) : ∃ xs, H l = some (.lst xs) := by
  obtain ⟨x, y, z, ns, _, h1, _⟩ := h
  exact ⟨_, h1⟩
theorem Bag.has {H : Hp} {b l : Addr} (h : Bag H b l) : ∀ c ∈ [b], ∃ o, H c = some o := fun c hc => by
  obtain ⟨_, e⟩ := h.is
  exact ⟨_, by rw [List.mem_singleton.mp hc]; exact e⟩
theorem Bag.tk {H H' : Hp} {b l : Addr} (h : Bag H b l) (k : Kp [b] H H') : TK H H' := k.tk fun c hc xs e => by
  obtain ⟨ys, h1⟩ := h.is
  rw [List.mem_singleton.mp hc, h1] at e
  cases e
/-- an object that is neither the bag nor its list -/
theorem Bag.wr {H : Hp} {b l p : Addr} {o : HO} (h : Bag H b l) (n1 : p ≠ b) (n2 : p ≠ l) : Bag (upd H p o) b l := h.keep (fun o e => by rw [upd_ne n1.symm]; exact e) (fun o e => by rw [upd_ne n2.symm]; exact e)
/-- the bag and its list, the heap kept but for the bag and what was fresh -/
theorem Bag.fresh {H : Hp} {b l p : Addr} (h : Bag H b l) (hp : H p = none) : p ≠ b ∧ p ≠ l := by
  obtain ⟨_, h1⟩ := h.is
  obtain ⟨_, h2⟩ := h.isl
  exact ⟨(ne_of_none h1 hp).symm, (ne_of_none h2 hp).symm⟩
theorem cut_ints (ns : List Int) (lo hi : Option Int) : ∃ ms : List Int, cutV (ns.map V.int) lo hi = ms.map V.int ∧ ms.length ≤ ns.length := by
  unfold cutV
  refine ⟨(ns.drop (HT.sIx (ns.map V.int).length 0 lo)).take (HT.sIx (ns.map V.int).length (ns.map V.int).length hi - HT.sIx (ns.map V.int).length 0 lo), ?_, ?_⟩
  · rw [List.map_take, List.map_drop]
  · rw [List.length_take, List.length_drop]
    omega
theorem atI_int {xs : List V} {v : Int} (h0 : 0 ≤ v) (hv : v.toNat < xs.length) : atI xs v = some xs[v.toNat] := by
  obtain ⟨n, rfl⟩ := Int.eq_ofNat_of_zero_le h0
  exact atI_nat (List.getElem?_eq_getElem hv)
section
variable {P : Program} {w : World} {K : PySem.W.Frag} {mg : Str → Option Value} {base : Heap} {C : Addr}

/-!  _law_bag: N = [(0, '_law_script'), (1, '_law_cell')] -/
abbrev s_l_bag : Stmt := topS 25
abbrev n_l_bag : List Str := ["_law_script", "_law_cell"]
theorem sc_l_bag : FnScope n_l_bag ["_law_script"] (defScope s_l_bag) := ⟨rfl, rfl, rfl, by decide +kernel, rfl, by decide +kernel, by decide +kernel⟩
def spBag (K : PySem.W.Frag) : Sp := fun vs H Q _ => ∃ (a : Addr) (ns : List Int), vs = [.ref a] ∧ SqL K H a (ns.map V.int) ∧ ns.length ≤ 63 ∧ ∀ b l H', Same H H' → H b = none → H l = none → Bag H' b l → Q (.ref b) H'
theorem ok_l_bag {f : Addr} {fd : FuncData} (F : Fun K "_law_bag" "_law_bag" s_l_bag f fd) (T : Txt K mg C) : FnOk P w K mg base CX0 1 f fd ["_law_script"] (spBag K) := by
  refine F.ok sc_l_bag (fun vs H Q E h => ?_) (fun cdv A outer s H vs Q E hr h => ?_)
  · obtain ⟨a, ns, rfl, _⟩ := h
    rfl
  · obtain ⟨a, ns, rfl, hS, hlen, q⟩ := h
    refine ⟨_, (pss_one (ps_ret (pe_lst (pa_cons pe_int (pa_cons pe_int (pa_cons pe_int (pa_cons (pe_lc (own := [("_law_cell", 1)]) rfl sc_l_bag.nd (pi_list (pe_slice sl_list (pv 0) po_none (po_some pe_int))) (blkOk_by (own := [("_law_cell", 1)]) (N := n_l_bag) (sc := defScope s_l_bag) (by decide +kernel)) (fun _ _ _ _ _ => (pg_name (i := 1) sc_l_bag.nd rfl (Or.inl rfl))) (fun _ _ _ _ _ => pts_nil) (fun _ _ _ _ _ => (pe_callB call_abs (by rfl) T.n_abs bt_abs (pa_cons (pv 1) pa_nil)))) pa_nil))))))), ?_⟩
    refine ⟨_, rfl, 63, rfl, a, _, rfl, hS, fun p hp => ?_⟩
    obtain ⟨ms, hms, hml⟩ := cut_ints ns none (some 63)
    rw [hms]
    have s1 : Same H (upd H p (.lst (ms.map V.int))) := same_new hp
    refine ⟨p, rfl, ⟨_, SqL.of upd_same⟩, fun D hD => ?_⟩
    refine lc_list (K := K) (xs := ms.map V.int) (fun i H' => Same (upd H p (.lst (ms.map V.int))) H' ∧ ∃ ks : List Int, H' D = some (.lst (ks.map V.int)) ∧ ks.length = i) ⟨same_new hD, [], upd_same, rfl⟩ (fun i H' _ ⟨s', _⟩ => SqL.of (s' _ _ upd_same)) ?_ ?_
    · rintro i x H' hi ⟨s', ks, hks, hkl⟩
      have hil := (List.getElem?_eq_some_iff.mp hi).1
      rw [List.length_map] at hil
      rw [List.getElem?_map] at hi
      obtain ⟨k, hk, rfl⟩ := Option.map_eq_some_iff.mp hi
      refine ⟨rfl, ?_⟩
      refine ⟨_, rfl, k, rfl, _, hks, ?_, fun b o e => ?_, ks ++ [if k < 0 then -k else k], ?_, ?_⟩
      · rw [List.length_map]
        exact small5 (by omega)
      · rw [upd_ne (ne_of_none e hD)]
        exact s' b o e
      · rw [upd_same, List.map_append]
        rfl
      · rw [List.length_append, List.length_singleton]
        omega
    · rintro H' ⟨s', ks, hks, hkl⟩
      refine ⟨by show 4 ≤ sizeLine; decide, fun b hb => ?_⟩
      have s2 := (s1.trans s').trans (same_new (o := .lst [.int 0, .int 1234567891, .int 0, .ref D]) hb)
      have nDb : D ≠ b := ne_of_none hks hb
      rw [List.length_map] at hkl
      exact q b D _ s2 ((s1.trans s').free hb) (s1.free hD) ⟨0, 1234567891, 0, ks, upd_same, by rw [upd_ne nDb]; exact hks, by omega⟩

/-!  _law_take: N = [(0, '_law_bag_here'), (1, '_law_upto'), (2, '_law_cell'), (3, '_law_stirred'), (4, '_law_value'), (5, '_law_begin'), (6, '_law_second')] -/
abbrev s_l_take : Stmt := topS 26
abbrev n_l_take : List Str := ["_law_bag_here", "_law_upto", "_law_cell", "_law_stirred", "_law_value", "_law_begin", "_law_second"]
theorem sc_l_take : FnScope n_l_take ["_law_bag_here", "_law_upto"] (defScope s_l_take) := ⟨rfl, rfl, rfl, by decide +kernel, rfl, by decide +kernel, by decide +kernel⟩
def spTake : Sp := fun vs H Q _ => ∃ (b l : Addr) (u : Int), vs = [.ref b, .int u] ∧ Bag H b l ∧ 0 < u ∧ u < 1073741824 ∧ ∀ v H', 0 ≤ v → v < u → Kp [b] H H' → Bag H' b l → Q (.int v) H'
theorem ok_l_take {f : Addr} {fd : FuncData} (F : Fun K "_law_take" "_law_take" s_l_take f fd) (T : Txt K mg C) : FnOk P w K mg base CX0 1 f fd ["_law_bag_here", "_law_upto"] spTake := by
  refine F.ok sc_l_take (fun vs H Q E h => ?_) (fun cdv A outer s H vs Q E hr h => ?_)
  · obtain ⟨b, l, u, rfl, _⟩ := h
    rfl
  · obtain ⟨b, l, u, rfl, ⟨x, y, z, ns, hb, hl, hns⟩, hu0, hu1, q⟩ := h
    refine ⟨_, (Evl.pss_cut (ps_if (pt_cmpR op_eq (pe_ix (r := rIxL K) ix_list (pv 0) pe_int (fun _ _ => rfl)) pe_int (nomark _)) (pss_cons (ps_set (i := 2) sc_l_take.nd rfl (Or.inl rfl) (pe_ix (r := rIxL K) ix_list (pe_op op_cat (pe_slice sl_list (pe_ix (r := rIxL K) ix_list (pv 0) pe_int (fun _ _ => rfl)) (po_some (pe_ix (r := rIxL K) ix_list (pv 0) pe_int (fun _ _ => rfl))) po_none) (pe_lst (pa_cons pe_int pa_nil))) pe_int (fun _ _ => rfl)))
          (pss_cons (ps_augS (pv 0) pe_int get_list pe_int ip_add set_list)
          (pss_cons (ps_if (pt_cmpR op_ge (pv 2) (pe_op op_pow pe_int pe_int) (nomark _)) (pss_one (ps_asg (pv 2) (pg_sub (pv 0) pe_int set_list))) pss_nil)
          (pss_cons (ps_set (i := 3) sc_l_take.nd rfl (Or.inl rfl) (pe_op op_add (pe_op op_add (pe_op op_mul (pe_ix (r := rIxL K) ix_list (pv 0) pe_int (fun _ _ => rfl)) pe_int) (pe_op op_mod (pe_callTy call_int1 (by rfl) T.n_int bt_int (pa_cons (pv 2) pa_nil)) pe_int)) (pe_op op_mul pe_int (pe_ix (r := rIxL K) ix_list (pv 0) pe_int (fun _ _ => rfl)))))
          (pss_one (ps_asg (pe_op op_mod (pe_callTy call_int1 (by rfl) T.n_int bt_int (pa_cons (pv 3) pa_nil)) pe_int) (pg_sub (pv 0) pe_int set_list))))))) pss_nil)
      (pss_cons (ps_if (pt_cmpR op_gt (pe_ix (r := rIxL K) ix_list (pv 0) pe_int (fun _ _ => rfl)) pe_int (nomark _)) (pss_cons (ps_set (i := 4) sc_l_take.nd rfl (Or.inl rfl) (pe_op op_mod (pe_callTy call_int1 (by rfl) T.n_int bt_int (pa_cons (pe_ix (r := rIxL K) ix_list (pv 0) pe_int (fun _ _ => rfl)) pa_nil)) (pv 1)))
          (pss_cons (ps_asg (pe_op op_fdiv (pe_callTy call_int1 (by rfl) T.n_int bt_int (pa_cons (pe_ix (r := rIxL K) ix_list (pv 0) pe_int (fun _ _ => rfl)) pa_nil)) (pv 1)) (pg_sub (pv 0) pe_int set_list))
          (pss_one (ps_ret (pv 4))))) pss_nil)
        (pss_cons (ps_set (i := 5) sc_l_take.nd rfl (Or.inl rfl) (pe_op op_mod (pe_callTy call_int1 (by rfl) T.n_int bt_int (pa_cons (pe_op op_mul (pe_op op_add (pe_ix (r := rIxL K) ix_list (pv 0) pe_int (fun _ _ => rfl)) pe_int) pe_int) pa_nil)) pe_int))
        (pss_cons (ps_set (i := 6) sc_l_take.nd rfl (Or.inl rfl) (pe_op op_mod (pe_callTy call_int1 (by rfl) T.n_int bt_int (pa_cons (pe_op op_mul (pe_op op_mod (pe_callTy call_int1 (by rfl) T.n_int bt_int (pa_cons (pe_op op_mul (pv 5) (pv 5)) pa_nil)) pe_int) pe_int) pa_nil)) pe_int))
        (pss_one (ps_ret (pe_op op_mod (pe_callTy call_int1 (by rfl) T.n_int bt_int (pa_cons (pe_op op_fdiv (pv 6) pe_int) pa_nil)) (pv 1)))))))), ?_⟩
    have hmem : b ∈ [b] := List.mem_singleton.mpr rfl
    have nlb : b ≠ l := Bag.ne hb hl l (by simp)
    refine ⟨fun σ' H' => ∃ x y z v2 v3, σ' = [some (.ref b), some (.int u), v2, v3, none, none, none] ∧ H' b = some (.lst [.int x, .int y, .int z, .ref l]) ∧ H' l = some (.lst (ns.map V.int)) ∧ Kp [b] H H', ?_, ?_⟩
    · -- if bag[0] == 0
      refine ⟨_, rfl, b, _, 0, _, rfl, rfl, SqL.of hb, rfl, rfl, _, rfl, ?_⟩
      refine ite2 (fun hc => ?_) (fun hc => ?_)
      · -- cell = (bag[3][bag[2]:] + [0])[0]
        refine ⟨_, rfl, b, _, 3, _, rfl, rfl, SqL.of hb, rfl, ?_⟩
        refine ⟨_, rfl, b, _, 2, _, rfl, rfl, SqL.of hb, rfl, z, rfl, l, _, rfl, SqL.of hl, fun p hp => ?_⟩
        obtain ⟨ms, hms, hml⟩ := cut_ints ns (some z) none
        rw [hms]
        refine ⟨by show 1 ≤ sizeLine; decide, fun r hr' => ?_⟩
        have s1 := (same_new (o := .lst (ms.map V.int)) hp).trans (same_new (o := .lst [V.int 0]) hr')
        have npr : p ≠ r := fun e => by rw [← e, upd_same] at hr'; cases hr'
        refine ⟨p, r, _, _, rfl, rfl, by rw [upd_ne npr, upd_same], upd_same, ?_, fun t ht => ?_⟩
        · rw [List.length_map]
          exact Nat.le_of_lt (small5 (by simp; omega))
        have s2 := s1.trans (same_new (o := .lst (ms.map V.int ++ [V.int 0])) ht)
        obtain ⟨c, hc0⟩ : ∃ c, (ms.map V.int ++ [V.int 0])[0]? = some (V.int c) := by
          cases ms with
          | nil => exact ⟨0, rfl⟩
          | cons k ms => exact ⟨k, rfl⟩
        refine ⟨t, _, 0, _, rfl, rfl, SqL.of upd_same, atI_nat (j := 0) hc0, ?_⟩
        have hb2 := s2 _ _ hb
        have hl2 := s2 _ _ hl
        have k2 : Kp [b] H _ := Same.kp s2
        generalize upd (upd (upd H p (.lst (ms.map V.int))) r (.lst [V.int 0])) t (.lst (ms.map V.int ++ [V.int 0])) = H2 at hb2 hl2 k2 ⊢
        -- bag[2] += 1
        refine ⟨_, rfl, b, _, 2, _, rfl, rfl, hb2, by decide, by decide, rfl, _, _, rfl, rfl, b, _, 2, 2, rfl, rfl, hb2, rfl, ?_⟩
        -- if cell >= 10 ** 18
        refine ⟨_, rfl, _, _, rfl, rfl, ⟨by decide, by decide, by decide⟩, _, _, rfl, rfl, _, rfl, ?_⟩
        have hb3 : ∀ x', (upd (upd H2 b (.lst [.int x, .int y, .int (z + 1), .ref l])) b (.lst [.int x', .int y, .int (z + 1), .ref l])) b = some (.lst [.int x', .int y, .int (z + 1), .ref l]) := fun _ => upd_same
        have go : ∀ x' H3, H3 b = some (.lst [.int x', .int y, .int (z + 1), .ref l]) → H3 l = some (.lst (ns.map V.int)) → Kp [b] H H3 →
            tSeq (tAsg (tOp (rI0 fun i j => V.int (i + j)) (tOp (rI0 fun i j => V.int (i + j)) (tOp (rI CMul fun i j => V.int (i * j)) (tOp (rIxL K) (tVar 0) (tC (.int 1))) (tC (.int 48271)))
              (tOp (rI (fun _ j => 0 < j) fun i j => V.int (i % j)) (tCB (fun xs H Q => (∃ i, xs = [V.int i] ∧ Q (V.int i) H) ∨ ∃ k, xs = [V.bl k] ∧ Q (V.int (if k then 1 else 0)) H) (tCons (tVar 2) tNil)) (tC (.int 2147483647))))
              (tOp (rI CMul fun i j => V.int (i * j)) (tC (.int 7919)) (tOp (rIxL K) (tVar 0) (tC (.int 2))))) (gName 3))
              (tAsg (tOp (rI (fun _ j => 0 < j) fun i j => V.int (i % j)) (tCB (fun xs H Q => (∃ i, xs = [V.int i] ∧ Q (V.int i) H) ∨ ∃ k, xs = [V.bl k] ∧ Q (V.int (if k then 1 else 0)) H) (tCons (tVar 3) tNil)) (tC (.int 2147483647))) (gSub (tVar 0) (tC (.int 1)) rSetL))
              { nx := fun σ' H' => ∃ x y z v2 v3, σ' = [some (.ref b), some (.int u), v2, v3, none, none, none] ∧ H' b = some (.lst [.int x, .int y, .int z, .ref l]) ∧ H' l = some (.lst (ns.map V.int)) ∧ Kp [b] H H', rt := Q } [some (.ref b), some (.int u), some (.int c), none, none, none, none] H3 := fun x' H3 h3b h3l k3 => by
          refine ⟨_, rfl, b, _, 1, _, rfl, rfl, SqL.of h3b, rfl, _, _, rfl, rfl, .inr ⟨by decide, by decide⟩, ?_⟩
          refine ⟨_, rfl, .inl ⟨_, rfl, _, _, rfl, rfl, (by show (0 : Int) < _; decide), _, _, rfl, rfl, ?_⟩⟩
          refine ⟨_, rfl, b, _, 2, _, rfl, rfl, SqL.of h3b, rfl, _, _, rfl, rfl, .inl ⟨by decide, by decide⟩, _, _, rfl, rfl, ?_⟩
          refine ⟨_, rfl, .inl ⟨_, rfl, _, _, rfl, rfl, (by show (0 : Int) < _; decide), _, rfl, b, _, 1, 1, rfl, rfl, h3b, rfl, ?_⟩⟩
          exact ⟨_, _, _, _, _, rfl, upd_same, by rw [upd_ne nlb.symm]; exact h3l, k3.wr hmem⟩
        refine ite2 (fun hc2 => ?_) (fun hc2 => ?_)
        · refine ⟨_, rfl, _, rfl, b, _, 0, 0, rfl, rfl, upd_same, rfl, ?_⟩
          exact go _ _ upd_same (by rw [upd_ne nlb.symm, upd_ne nlb.symm]; exact hl2) ((k2.wr hmem).wr hmem)
        · exact go _ _ upd_same (by rw [upd_ne nlb.symm]; exact hl2) (k2.wr hmem)
      · exact ⟨x, y, z, none, none, rfl, hb, hl, Kp.refl _ _⟩
    · rintro σ' H' ⟨x, y, z, v2, v3, rfl, hb', hl', k'⟩
      have fin : ∀ v H2, 0 ≤ v → v < u → Kp [b] H H2 → (∃ x y z, H2 b = some (.lst [.int x, .int y, .int z, .ref l])) → H2 l = some (.lst (ns.map V.int)) → Q (.int v) H2 := fun v H2 h0 h1 k2 ⟨x, y, z, e1⟩ e2 => q v H2 h0 h1 k2 ⟨x, y, z, ns, e1, e2, hns⟩
      have hm : ∀ i : Int, 0 ≤ i % u ∧ i % u < u := fun i => ⟨Int.emod_nonneg _ (by omega), Int.emod_lt_of_pos _ hu0⟩
      -- if bag[0] > 0
      refine ⟨_, rfl, b, _, 0, _, rfl, rfl, SqL.of hb', rfl, _, _, rfl, rfl, _, rfl, ?_⟩
      refine ite2 (fun hc => ?_) (fun hc => ?_)
      · refine ⟨_, rfl, b, _, 0, _, rfl, rfl, SqL.of hb', rfl, .inl ⟨_, rfl, _, rfl, _, _, rfl, rfl, hu0, ?_⟩⟩
        refine ⟨_, rfl, b, _, 0, _, rfl, rfl, SqL.of hb', rfl, .inl ⟨_, rfl, _, rfl, _, _, rfl, rfl, ⟨hu0, hu1⟩, _, rfl, b, _, 0, 0, rfl, rfl, hb', rfl, ?_⟩⟩
        exact ⟨_, rfl, fin _ _ (hm _).1 (hm _).2 (k'.wr hmem) ⟨_, _, _, upd_same⟩ (by rw [upd_ne nlb.symm]; exact hl')⟩
      · -- begin, second
        refine ⟨_, rfl, b, _, 1, _, rfl, rfl, SqL.of hb', rfl, _, _, rfl, rfl, _, _, rfl, rfl, .inr ⟨by decide, by decide⟩, .inl ⟨_, rfl, _, _, rfl, rfl, (by show (0 : Int) < _; decide), ?_⟩⟩
        have h1 : ∀ i : Int, -(2 ^ 64) < i % 1000000007 ∧ i % 1000000007 < 2 ^ 64 := fun i => ⟨by omega, by omega⟩
        refine ⟨_, rfl, _, rfl, _, _, rfl, rfl, .inl (h1 _), .inl ⟨_, rfl, _, _, rfl, rfl, (by show (0 : Int) < _; decide), _, _, rfl, rfl, .inr ⟨by decide, by decide⟩, .inl ⟨_, rfl, _, _, rfl, rfl, (by show (0 : Int) < _; decide), ?_⟩⟩⟩
        refine ⟨_, rfl, _, _, rfl, rfl, ⟨by decide, by decide⟩, .inl ⟨_, rfl, _, rfl, _, _, rfl, rfl, hu0, ?_⟩⟩
        exact fin _ _ (hm _).1 (hm _).2 k' ⟨_, _, _, hb'⟩ hl'

/-!  _law_some: N = [(0, '_law_bag_here'), (1, '_law_things_here')] -/
abbrev s_l_some : Stmt := topS 27
abbrev n_l_some : List Str := ["_law_bag_here", "_law_things_here"]
theorem sc_l_some : FnScope n_l_some ["_law_bag_here", "_law_things_here"] (defScope s_l_some) := ⟨rfl, rfl, rfl, by decide +kernel, rfl, by decide +kernel, by decide +kernel⟩
def spSome : Sp := fun vs H Q _ => ∃ (b bl l : Addr) (xs : List V), vs = [.ref b, .ref l] ∧ Bag H b bl ∧ H l = some (.lst xs) ∧ l ≠ b ∧ xs ≠ [] ∧ xs.length ≤ 1000 ∧ ∀ v H', v ∈ xs → Kp [b] H H' → Bag H' b bl → Q v H'
theorem ok_l_some {f : Addr} {fd : FuncData} (F : Fun K "_law_some" "_law_some" s_l_some f fd) (T : Txt K mg C) (c__law_take : Callee P w K mg base "_law_take" 1 ["_law_bag_here", "_law_upto"] spTake) :
    FnOk P w K mg base CX0 2 f fd ["_law_bag_here", "_law_things_here"] spSome := by
  refine F.ok sc_l_some (fun vs H Q E h => ?_) (fun cdv A outer s H vs Q E hr h => ?_)
  · obtain ⟨b, bl, l, xs, rfl, _⟩ := h
    rfl
  · obtain ⟨b, bl, l, xs, rfl, hB, hl, nlb, hne, hlen, q⟩ := h
    refine ⟨_, (pss_one (ps_ret (pe_ix (r := rIxL K) ix_list (pv 1) (pe_own c__law_take (hr.mono (by decide)) (by rfl) (pa_cons (pv 0) (pa_cons (pe_callB call_len_seq (by rfl) T.n_len bt_len (pa_cons (pv 1) pa_nil)) pa_nil))) (fun _ _ => rfl)))), ?_⟩
    have hpos : 0 < xs.length := List.length_pos_iff.mpr hne
    refine ⟨_, rfl, _, rfl, _, rfl, l, xs, rfl, .inl (SqL.of hl), b, bl, _, rfl, hB, by omega, by omega, fun v H' h0 h1 k' B' => ?_⟩
    have hv : v.toNat < xs.length := by omega
    exact ⟨l, xs, v, xs[v.toNat], rfl, rfl, SqL.of (k' _ _ hl (by simpa using nlb)), atI_int h0 hv, q _ H' (List.getElem_mem hv) k' B'⟩

/-!  _law_alike: N = [(0, '_law_found'), (1, '_law_due')] -/
abbrev s_l_alike : Stmt := topS 28
abbrev n_l_alike : List Str := ["_law_found", "_law_due"]
theorem sc_l_alike : FnScope n_l_alike ["_law_found", "_law_due"] (defScope s_l_alike) := ⟨rfl, rfl, rfl, by decide +kernel, rfl, by decide +kernel, by decide +kernel⟩
def spAlike : Sp := fun vs H Q _ => ∃ i : Nat, vs = [.int (i : Nat), .int (i : Nat)] ∧ i ≤ 100000 ∧ Q (.bl true) H
theorem ok_l_alike {f : Addr} {fd : FuncData} (F : Fun K "_law_alike" "_law_alike" s_l_alike f fd) (T : Txt K mg C) : FnOk P w K mg base CX0 1 f fd ["_law_found", "_law_due"] spAlike := by
  refine F.ok sc_l_alike (fun vs H Q E h => ?_) (fun cdv A outer s H vs Q E hr h => ?_)
  · obtain ⟨i, rfl, _⟩ := h
    rfl
  · obtain ⟨i, rfl, hi, q⟩ := h
    refine ⟨_, (pss_one (ps_ret (pe_and (pe_cmpR op_eq (pv 0) (pv 1) (nomark _)) (pe_one (pe_cmpR op_eq (pe_callB SkE.call_repr_int (by rfl) T.n_repr bt_repr (pa_cons (pv 0) pa_nil)) (pe_callB SkE.call_repr_int (by rfl) T.n_repr bt_repr (pa_cons (pv 1) pa_nil)) (nomark _)))))), ?_⟩
    have hl : ((i : Nat) : Int).natAbs.log2 < 1920 := by
      rw [show ((i : Nat) : Int).natAbs = i from Int.natAbs_natCast i]
      by_cases h0 : i = 0
      · subst h0
        decide
      · exact (Nat.log2_lt h0).mpr (Nat.lt_of_le_of_lt hi (Nat.lt_of_lt_of_le (by decide : 100000 < 2 ^ 17) (Nat.pow_le_pow_right (by decide) (by decide))))
    refine ⟨_, rfl, _, rfl, rfl, true, blT rfl, iteT ?_⟩
    refine ⟨_, rfl, _, rfl, hl, _, rfl, _, rfl, hl, rfl, ?_⟩
    exact qT rfl q
end
end Own

namespace Own
open PySem PySem.Spec PyProof.Rows L2
theorem eraseIdx_map {A B : Type} (f : A → B) (l : List A) (j : Nat) : (l.map f).eraseIdx j = (l.eraseIdx j).map f := map_eraseIdx f l j
theorem mem_erase {A : Type} {l : List A} {j : Nat} {x : A} (h : x ∈ l.eraseIdx j) : x ∈ l := (List.eraseIdx_sublist l j).subset h
theorem rg_ints (n : Nat) : rgV 0 ((n : Nat) : Int) = ((List.range n).map fun i : Nat => ((0 : Int) + ((i : Nat) : Int))).map V.int := by
  unfold rgV
  rw [show (((n : Nat) : Int) - 0).toNat = n by omega, List.map_map]
  rfl
section
variable {P : Program} {w : World} {K : PySem.W.Frag} {mg : Str → Option Value} {base : Heap} {C : Addr}

/-!  _law_pick: N = [(0, '_law_bag_here'), (1, '_law_size'), (2, '_law_many'), (3, '_law_left'), (4, '_law_found'), (5, '_law_k')] -/
abbrev s_l_pick : Stmt := topS 29
abbrev n_l_pick : List Str := ["_law_bag_here", "_law_size", "_law_many", "_law_left", "_law_found", "_law_k"]
theorem sc_l_pick : FnScope n_l_pick ["_law_bag_here", "_law_size", "_law_many"] (defScope s_l_pick) := ⟨rfl, rfl, rfl, by decide +kernel, rfl, by decide +kernel, by decide +kernel⟩
def spPick : Sp := fun vs H Q _ => ∃ (b bl : Addr) (s k : Nat), vs = [.ref b, .int (s : Nat), .int (k : Nat)] ∧ Bag H b bl ∧ k ≤ s ∧ s ≤ 30 ∧
  ∀ l H' (ns : List Int), Kp [b] H H' → Bag H' b bl → H l = none → H' l = some (.lst (ns.map V.int)) → ns.length = k → (∀ n ∈ ns, 0 ≤ n ∧ n < (s : Int)) → Q (.ref l) H'
theorem ok_l_pick {f : Addr} {fd : FuncData} (F : Fun K "_law_pick" "_law_pick" s_l_pick f fd) (T : Txt K mg C) (c__law_take : Callee P w K mg base "_law_take" 1 ["_law_bag_here", "_law_upto"] spTake) :
    FnOk P w K mg base CX0 2 f fd ["_law_bag_here", "_law_size", "_law_many"] spPick := by
  refine F.ok sc_l_pick (fun vs H Q E h => ?_) (fun cdv A outer s H vs Q E hr h => ?_)
  · obtain ⟨b, bl, s, k, rfl, _⟩ := h
    rfl
  · obtain ⟨b, bl, sz, k, rfl, hB, hks, hsz, q⟩ := h
    refine ⟨_, (pss_cons (ps_par (i := 3) (j := 4) (by rfl) sc_l_pick.nd rfl rfl (by decide) rfl rfl (pa_cons (pe_listRg rfl (by rfl) T.n_list (prg_1 (by rfl) T.n_range (pv 1))) (pa_cons (pe_lst pa_nil) pa_nil)) (by rfl))
        (pss_cons (ps_for PassesOwn.never rfl (pi_range1 (by rfl) T.n_range (pa_cons (pv 2) pa_nil)) (pg_name (i := 5) sc_l_pick.nd rfl (Or.inl rfl)) (pss_one (ps_expr (pe_bm PySem.F.plainAttrs_list PySem.F.slot_list_append PySem.F.type_list_append mt_append (pv 4) (pa_cons (pe_bm PySem.F.plainAttrs_list PySem.F.slot_list_pop PySem.F.type_list_pop mt_popAt (pv 3) (pa_cons (pe_own c__law_take (hr.mono (by decide)) (by rfl) (pa_cons (pv 0) (pa_cons (pe_callB call_len_seq (by rfl) T.n_len bt_len (pa_cons (pv 3) pa_nil)) pa_nil))) pa_nil)) pa_nil)))))
        (pss_one (ps_ret (pe_callB cr_sorted (by rfl) T.n_sorted bt_sorted (pa_cons (pv 4) pa_nil)))))), ?_⟩
    obtain ⟨xsb, hb⟩ := hB.is
    -- left, found = list(range(size)), []
    refine ⟨_, rfl, _, rfl, RgOk.of_le (by omega) (by omega) (by omega) (by omega), fun le hle => ?_⟩
    rw [rg_ints]
    refine ⟨Nat.zero_le _, fun fo hfo => ?_⟩
    have nlf : le ≠ fo := fun e => by rw [← e, upd_same] at hfo; cases hfo
    have nlb : le ≠ b := Ne.symm (ne_of_none hb hle)
    have s1 := same_new (o := .lst (((List.range sz).map fun i : Nat => ((0 : Int) + ((i : Nat) : Int))).map V.int)) hle
    have s2 := s1.trans (same_new (o := .lst []) hfo)
    have hfo0 : H fo = none := s1.free hfo
    have nfb : fo ≠ b := (hB.fresh hfo0).1
    refine ⟨_, _, rfl, ?_⟩
    -- for k in range(many)
    refine ⟨_, rfl, _, rfl, (by omega), (by omega), for_range (lo := 0) (n := ((k : Nat) : Int).toNat) (fun i σ H' => ∃ (v5 : Option V) (ls fs : List Int), σ = [some (.ref b), some (.int (sz : Nat)), some (.int (k : Nat)), some (.ref le), some (.ref fo), v5] ∧ Kp [b] H H' ∧ Bag H' b bl ∧ H' le = some (.lst (ls.map V.int)) ∧ H' fo = some (.lst (fs.map V.int)) ∧
      ls.length + i = sz ∧ fs.length = i ∧ (∀ n ∈ ls, 0 ≤ n ∧ n < (sz : Int)) ∧ (∀ n ∈ fs, 0 ≤ n ∧ n < (sz : Int)))
      ⟨none, _, [], rfl, Same.kp s2, hB.same s2, by rw [upd_ne nlf, upd_same], upd_same, by simp, rfl, ?_, by simp⟩ ?_ ?_⟩
    · intro n hn
      obtain ⟨i, hi, rfl⟩ := List.mem_map.mp hn
      have := List.mem_range.mp hi
      omega
    · rintro i σ H' hi ⟨v5, ls, fs, rfl, k1, B1, h1, h2, e1, e2, e3, e4⟩
      have hpos : 0 < ls.length := by omega
      -- found.append(left.pop(take(bag, len(left))))
      refine ⟨_, rfl, .inl ⟨rfl, _, SqL.of h2⟩, ?_⟩
      refine ⟨_, rfl, .inl ⟨rfl, _, SqL.of h1⟩, ?_⟩
      refine ⟨_, rfl, _, rfl, le, _, rfl, .inl (SqL.of h1), ?_⟩
      rw [List.length_map]
      refine ⟨b, bl, _, rfl, B1, by omega, by omega, fun v H3 v0 v1 k3 B3 => ?_⟩
      have h13 := k3 _ _ h1 (by simpa using nlb)
      have h23 := k3 _ _ h2 (by simpa using nfb)
      have hv : v.toNat < ls.length := by omega
      have hsi : seqIndex? v (ls.map V.int).length = some v.toNat := seqIndex_of v0 (by rw [List.length_map]; omega)
      refine ⟨le, _, v, v.toNat, V.int ls[v.toNat], rfl, rfl, h13, by omega, by omega, hsi, by rw [List.getElem?_map, List.getElem?_eq_getElem hv]; rfl, ?_⟩
      refine ⟨fo, _, _, rfl, rfl, (by rw [upd_ne nlf.symm]; exact h23), by rw [List.length_map]; exact small5 (by omega), ?_⟩
      have k4 : Kp [b] H (upd (upd H3 le (.lst ((ls.map V.int).eraseIdx v.toNat))) fo (.lst (fs.map V.int ++ [V.int ls[v.toNat]]))) := ((k1.trans k3).nw hle).nw hfo0
      refine ⟨some (.int (0 + (i : Nat))), ls.eraseIdx v.toNat, fs ++ [ls[v.toNat]], rfl, k4, ?_, ?_, ?_, ?_, ?_, fun n hn => e3 n (mem_erase hn), fun n hn => ?_⟩
      · exact (B3.wr nlb (hB.fresh hle).2).wr nfb (hB.fresh hfo0).2
      · rw [upd_ne nlf, upd_same, eraseIdx_map]
      · rw [upd_same, List.map_append]
        rfl
      · rw [List.length_eraseIdx]
        simp [hv]
        omega
      · rw [List.length_append, List.length_singleton]
        omega
      · rcases List.mem_append.mp hn with h | h
        · exact e4 n h
        · rw [List.mem_singleton.mp h]
          exact e3 _ (List.getElem_mem hv)
    · rintro σ H' ⟨v5, ls, fs, rfl, k1, B1, h1, h2, e1, e2, e3, e4⟩
      refine ⟨_, rfl, fo, fs, rfl, SqL.of h2, by omega, fun ns' p pm _ hp => ?_⟩
      have s3 := same_new (o := .lst (ns'.map V.int)) hp
      refine q p _ ns' (k1.trans (Same.kp s3)) (B1.same s3) (k1.free hp B1.has) upd_same ?_ fun n hn => e4 n (pm.mem_iff.mp hn)
      · rw [pm.length_eq]
        omega
end
end Own

namespace Own
open PySem PySem.Spec PyProof.Rows L2
section
variable {P : Program} {w : World} {K : PySem.W.Frag} {mg : Str → Option Value} {base : Heap} {C : Addr}

/-!  _law_taken: N = [(0, '_law_bag_here'), (1, '_law_before'), (2, '_law_behind'), (3, '_law_new')] -/
abbrev s_l_taken : Stmt := topS 30
abbrev n_l_taken : List Str := ["_law_bag_here", "_law_before", "_law_behind", "_law_new"]
theorem sc_l_taken : FnScope n_l_taken ["_law_bag_here", "_law_before", "_law_behind"] (defScope s_l_taken) := ⟨rfl, rfl, rfl, by decide +kernel, rfl, by decide +kernel, by decide +kernel⟩
def TkOk (s k : Nat) (tk : List Int) : Prop := tk.length = k ∧ ∀ n ∈ tk, n = -1 ∨ (0 ≤ n ∧ n < (s : Int))
def spTaken : Sp := fun vs H Q _ => ∃ (b bl : Addr) (s k : Nat), vs = [.ref b, .int (s : Nat), .int (k : Nat)] ∧ Bag H b bl ∧ 1 ≤ s ∧ s ≤ 3 ∧ 1 ≤ k ∧ k ≤ 3 ∧
  (∀ H', Kp [b] H H' → Bag H' b bl → Q .non H') ∧ ∀ a H' tk, Kp [b] H H' → Bag H' b bl → H' a = some (.tup (tk.map V.int)) → TkOk s k tk → Q (.ref a) H'
theorem ok_l_taken {f : Addr} {fd : FuncData} (F : Fun K "_law_taken" "_law_taken" s_l_taken f fd) (T : Txt K mg C) (c__law_take : Callee P w K mg base "_law_take" 1 ["_law_bag_here", "_law_upto"] spTake)
    (c__law_pick : Callee P w K mg base "_law_pick" 2 ["_law_bag_here", "_law_size", "_law_many"] spPick) :
    FnOk P w K mg base CX0 3 f fd ["_law_bag_here", "_law_before", "_law_behind"] spTaken := by
  refine F.ok sc_l_taken (fun vs H Q E h => ?_) (fun cdv A outer s H vs Q E hr h => ?_)
  · obtain ⟨b, bl, s, k, rfl, _⟩ := h
    rfl
  · obtain ⟨b, bl, sz, k, rfl, hB, s1, s3, k1, k3, qn, q⟩ := h
    refine ⟨_, (pss_cons (ps_if (pt_cmpR op_gt (pv 2) (pe_op op_add (pv 1) pe_int) (nomark _)) (pss_one (ps_ret pe_non)) pss_nil) (Evl.pss_cut (ps_set (i := 3) sc_l_taken.nd rfl (Or.inl rfl) (pe_ifExp (pt_cmpR op_gt (pv 2) (pv 1) (nomark _)) pe_int (pe_own c__law_take (hr.mono (by decide)) (by rfl) (pa_cons (pv 0) (pa_cons pe_int pa_nil))))) (pss_one (ps_ret (pe_callTy call_tuple_of (by rfl) T.n_tuple bt_tuple (pa_cons (pe_op op_cat (pe_own c__law_pick (hr.mono (by decide)) (by rfl) (pa_cons (pv 0) (pa_cons (pv 1) (pa_cons (pe_op op_sub (pv 2) (pv 3)) pa_nil)))) (pe_op op_rep (pe_lst (pa_cons (pe_un un_neg pe_int) pa_nil)) (pv 3))) pa_nil)))))), ?_⟩
    refine ⟨_, rfl, _, rfl, _, _, rfl, rfl, _, _, rfl, rfl, _, rfl, ?_⟩
    refine ite2 (fun hc => ?_) (fun hc => ?_)
    · exact qn _ (Kp.refl _ _) hB
    · have hks : k ≤ sz + 1 := Nat.not_lt.mp fun z => hc (decide_eq_true (by omega))
      refine ⟨fun σ H' => ∃ n : Nat, σ = [some (.ref b), some (.int (sz : Nat)), some (.int (k : Nat)), some (.int (n : Nat))] ∧ n ≤ 1 ∧ k - n ≤ sz ∧ Kp [b] H H' ∧ Bag H' b bl, ?_, ?_⟩
      · refine ⟨_, rfl, _, rfl, _, _, rfl, rfl, _, rfl, ?_⟩
        refine ite2 (fun hc2 => ?_) (fun hc2 => ?_)
        · exact ⟨1, rfl, by omega, by omega, Kp.refl _ _, hB⟩
        · have hks2 : k ≤ sz := Nat.not_lt.mp fun z => hc2 (decide_eq_true (by omega))
          refine ⟨_, rfl, b, bl, _, rfl, hB, by decide, by decide, fun v H' h0 h1 k' B' => ?_⟩
          refine ⟨v.toNat, ?_, by omega, by omega, k', B'⟩
          rw [show ((v.toNat : Nat) : Int) = v by omega]
          rfl
      · rintro σ H' ⟨n, rfl, hn, hkn, k', B'⟩
        refine ⟨_, rfl, _, rfl, _, rfl, _, rfl, _, _, rfl, rfl, ?_⟩
        refine ⟨b, bl, sz, k - n, by rw [show ((k - n : Nat) : Int) = ((k : Nat) : Int) - ((n : Nat) : Int) by omega]; rfl, B', by omega, by omega, fun l H2 ns k2 B2 hl0 hl hnl hns => ?_⟩
        refine ⟨_, rfl, by show 1 ≤ sizeLine; decide, fun r hr' => ?_⟩
        refine ⟨_, rfl, r, _, _, rfl, rfl, upd_same, by omega, by omega, ?_, fun t ht => ?_⟩
        · exact Nat.le_of_lt (small5 (by simp; omega))
        have h2 : Same H2 _ := (same_new (o := .lst [V.int (-1)]) hr').trans (same_new (o := .lst (List.replicate n [V.int (-1)]).flatten) ht)
        have hrep : (List.replicate n [V.int (-1)]).flatten = (List.replicate n (-1 : Int)).map V.int := by
          rw [List.map_replicate]
          exact List.flatten_replicate_singleton
        have ntl : l ≠ t := ne_of_none ((same_new (o := .lst [V.int (-1)]) hr') _ _ hl) ht
        refine ⟨l, t, _, _, rfl, rfl, h2 _ _ hl, upd_same, ?_, fun p hp => ?_⟩
        · refine Nat.le_of_lt (small5 (?_ : (ns.map V.int).length + (List.replicate n [V.int (-1)]).flatten.length ≤ _))
          rw [hrep, List.length_map, List.length_map, List.length_replicate]
          omega
        have h3 := h2.trans (same_new (o := .lst (ns.map V.int ++ (List.replicate n [V.int (-1)]).flatten)) hp)
        refine ⟨p, _, rfl, .inl ⟨SqL.of upd_same, fun u hu' => ?_⟩⟩
        have h4 := h3.trans (same_new (o := .tup (ns.map V.int ++ (List.replicate n [V.int (-1)]).flatten)) hu')
        refine q u _ (ns ++ List.replicate n (-1)) ((k'.trans k2).trans (Same.kp h4)) (B2.same h4) (by rw [List.map_append, ← hrep]; exact upd_same) ⟨?_, fun m hm => ?_⟩
        · rw [List.length_append, List.length_replicate]
          omega
        · rcases List.mem_append.mp hm with h | h
          · exact .inr (hns m h)
          · exact .inl (List.eq_of_mem_replicate h)

/-!  _law_move: N = [(0, '_law_bag_here'), (1, '_law_lives'), (2, '_law_point'), (3, '_law_behind'), (4, '_law_take_here')] -/
abbrev s_l_move : Stmt := topS 31
abbrev n_l_move : List Str := ["_law_bag_here", "_law_lives", "_law_point", "_law_behind", "_law_take_here"]
theorem sc_l_move : FnScope n_l_move ["_law_bag_here", "_law_lives", "_law_point"] (defScope s_l_move) := ⟨rfl, rfl, rfl, by decide +kernel, rfl, by decide +kernel, by decide +kernel⟩
def MvOk (lv : List Nat) (p : Nat) : Mv → Prop
  | none => True
  | some (q, tk) => q < lv.length ∧ TkOk (lv.getD p 0) (lv.getD q 0) tk
def spMove : Sp := fun vs H Q _ => ∃ (b bl ll : Addr) (lv : List Nat) (p : Nat), vs = [.ref b, .ref ll, .int (p : Nat)] ∧ Bag H b bl ∧ H ll = some (.lst (lv.map fun n : Nat => V.int (n : Nat))) ∧ ll ≠ b ∧ p < lv.length ∧ lv.length ≤ 4 ∧ (∀ n ∈ lv, 1 ≤ n ∧ n ≤ 3) ∧
  ∀ x H' m, Kp [b] H H' → Bag H' b bl → Im H' x (dMv m) → MvOk lv p m → Q x H'
theorem ok_l_move {f : Addr} {fd : FuncData} (F : Fun K "_law_move" "_law_move" s_l_move f fd) (T : Txt K mg C) (c__law_take : Callee P w K mg base "_law_take" 1 ["_law_bag_here", "_law_upto"] spTake)
    (c__law_taken : Callee P w K mg base "_law_taken" 3 ["_law_bag_here", "_law_before", "_law_behind"] spTaken) :
    FnOk P w K mg base CX0 4 f fd ["_law_bag_here", "_law_lives", "_law_point"] spMove := by
  refine F.ok sc_l_move (fun vs H Q E h => ?_) (fun cdv A outer s H vs Q E hr h => ?_)
  · obtain ⟨b, bl, ll, lv, p, rfl, _⟩ := h
    rfl
  · obtain ⟨b, bl, ll, lv, pt, rfl, hB, hll, nlb, hp, h4, hlv, q⟩ := h
    refine ⟨_, (pss_cons (ps_if (pt_cmpR op_eq (pe_own c__law_take (hr.mono (by decide)) (by rfl) (pa_cons (pv 0) (pa_cons pe_int pa_nil))) pe_int (nomark _)) (pss_one (ps_ret pe_non)) pss_nil)
        (pss_cons (ps_set (i := 3) sc_l_move.nd rfl (Or.inl rfl) (pe_own c__law_take (hr.mono (by decide)) (by rfl) (pa_cons (pv 0) (pa_cons (pe_callB call_len_seq (by rfl) T.n_len bt_len (pa_cons (pv 1) pa_nil)) pa_nil))))
        (pss_cons (ps_set (i := 4) sc_l_move.nd rfl (Or.inl rfl) (pe_own c__law_taken (hr.mono (by decide)) (by rfl) (pa_cons (pv 0) (pa_cons (pe_ix (r := rIxL K) ix_list (pv 1) (pv 2) (fun _ _ => rfl)) (pa_cons (pe_ix (r := rIxL K) ix_list (pv 1) (pv 3) (fun _ _ => rfl)) pa_nil)))))
        (pss_one (ps_ret (pe_ifExp (pt_cmpR op_isN (pv 4) pe_non (nomark _)) pe_non (pe_tup (pa_cons (pv 3) (pa_cons (pv 4) pa_nil))))))))), ?_⟩
    refine ⟨_, rfl, b, bl, _, rfl, hB, by decide, by decide, fun v0 H1 v00 v01 k1 B1 => ?_⟩
    refine ⟨rfl, _, rfl, ?_⟩
    refine ite2 (fun hc => ?_) (fun hc => ?_)
    · exact q _ _ none k1 B1 .non trivial
    · have hl1 := k1 _ _ hll (by simpa using nlb)
      refine ⟨_, rfl, _, rfl, ll, _, rfl, .inl (SqL.of hl1), ?_⟩
      rw [List.length_map]
      refine ⟨b, bl, _, rfl, B1, by omega, by omega, fun v H2 v1 v2 k2 B2 => ?_⟩
      have hl2 := k2 _ _ hl1 (by simpa using nlb)
      have hv : v.toNat < lv.length := by omega
      have hlp := hlv _ (List.getElem_mem hp)
      have hlq := hlv _ (List.getElem_mem hv)
      refine ⟨_, rfl, _, rfl, _, rfl, ll, _, _, V.int (lv[pt] : Nat), rfl, rfl, SqL.of hl2, atI_nat (by rw [List.getElem?_map, List.getElem?_eq_getElem hp]; rfl), ?_⟩
      refine ⟨_, rfl, _, rfl, ll, _, _, V.int (lv[v.toNat] : Nat), rfl, rfl, SqL.of hl2, ?_, ?_⟩
      · exact (atI_int v1 (by rw [List.length_map]; exact hv)).trans (by rw [List.getElem_map])
      have hrv : ((v.toNat : Nat) : Int) = v := by omega
      refine ⟨b, bl, _, _, rfl, B2, hlp.1, hlp.2, hlq.1, hlq.2, ?_, ?_⟩
      · intro H3 k3 B3
        refine ⟨_, rfl, rfl, _, rfl, ?_⟩
        refine iteT ?_
        exact q _ _ none ((k1.trans k2).trans k3) B3 .non trivial
      · intro a H3 tk k3 B3 ha htk
        refine ⟨_, rfl, rfl, _, rfl, ?_⟩
        refine iteNo (decide_eq_false (by simp)) ?_
        refine ⟨_, rfl, _, rfl, by show 2 ≤ sizeLine; decide, fun p hp' => ?_⟩
        have s3 := same_new (o := .tup [.int v, .ref a]) hp'
        refine q _ _ (some (v.toNat, tk)) ((k1.trans k2).trans (k3.trans (Same.kp s3))) (B3.same s3) (im2 (x := .int v) (y := .ref a) upd_same ?_ (im_ns (s3 _ _ ha))) ⟨hv, ?_⟩
        · rw [hrv]
          exact .int v
        · rw [List.getD_eq_getElem?_getD, List.getD_eq_getElem?_getD, List.getElem?_eq_getElem hp, List.getElem?_eq_getElem hv]
          exact htk
end
end Own

namespace Own
open PySem PySem.Spec PyProof.Rows L2
abbrev lvV (l : List Nat) : List V := l.map fun n : Nat => V.int (n : Nat)
abbrev wyV (l : List Bool) : List V := l.map fun c : Bool => V.str (wayStr c)
/-- what the machine's text has made ahead of its points -/
structure Pre (H : Hp) (b ba ll wa : Addr) (wl : List Addr) (bs lv : List Nat) (Ws : List (List Bool)) : Prop where
  hb : H ba = some (.tup (lvV bs))
  nb : ba ≠ b
  hl : H ll = some (.lst (lvV lv))
  nl : ll ≠ b
  hw : H wa = some (.lst (wl.map V.ref))
  nw : wa ≠ b
  hr : ∀ r (h : r < wl.length), H wl[r] = some (.lst (wyV (Ws.getD r []))) ∧ wl[r] ≠ b
theorem Kp.one {H H' : Hp} {b a : Addr} {o : HO} (k : Kp [b] H H') (e : H a = some o) (n : a ≠ b) : H' a = some o := k _ _ e (by simpa using n)
theorem Pre.keep {H H' : Hp} {b ba ll wa : Addr} {wl : List Addr} {bs lv : List Nat} {Ws : List (List Bool)} (h : Pre H b ba ll wa wl bs lv Ws) (k : Kp [b] H H') : Pre H' b ba ll wa wl bs lv Ws :=
  ⟨k.one h.hb h.nb, h.nb, k.one h.hl h.nl, h.nl, k.one h.hw h.nw, h.nw, fun r hr => ⟨k.one (h.hr r hr).1 (h.hr r hr).2, (h.hr r hr).2⟩⟩
structure Wd (kinds rows m : Nat) (bs lv : List Nat) (Ws : List (List Bool)) : Prop where
  m1 : 1 ≤ m
  m4 : m ≤ 4
  bl : bs.length = kinds
  bm : ∀ n ∈ bs, n < m
  ll : lv.length = m
  lb : ∀ n ∈ lv, 1 ≤ n ∧ n ≤ 3
  bo : ∀ n ∈ bs, lv.getD n 0 = 1
  wl : ∀ r, r < rows → (Ws.getD r []).length = m + 2
/-- a point as made -/
def PtOk (W : List Bool) (lvj rows : Nat) (p : Pt) : Prop := p.1.length = rows ∧ p.2 = lvj ∧ ∀ s, p.1[0]? = some s → 0 ≤ s.1 ∧ W[s.1.toNat]? = some s.2.1 ∧ s.2.2 < lvj
theorem mach_ok {kinds rows deeds m : Nat} {bs lv : List Nat} {Ws : List (List Bool)} (k1 : 1 ≤ kinds) (k2 : kinds ≤ 2) (r1 : 1 ≤ rows) (d3 : deeds ≤ 3) (W : Wd kinds rows m bs lv Ws) {ps : List Pt} {ms : List (List Mv)}
    (hp : ps.length = m) (hps : ∀ j p, ps[j]? = some p → PtOk (Ws.getD 0 []) (lv.getD j 0) rows p) (hm : ms.length = m) (hms : ∀ j l, ms[j]? = some l → l.length = deeds ∧ ∀ v ∈ l, MvOk lv j v) :
    Mach.Ok ⟨bs, ps, ms⟩ ∧ deedsOf ⟨bs, ps, ms⟩ = deeds := by
  have pt : ∀ p, p < m → ps[p]? = some (ps.getD p ([], 0)) := fun p h => by
    rw [List.getD_eq_getElem?_getD, List.getElem?_eq_getElem (by omega)]
    rfl
  have lat : ∀ p, p < m → 1 ≤ lv.getD p 0 ∧ lv.getD p 0 ≤ 3 := fun p h => by
    have hp : p < lv.length := by rw [W.ll]; exact h
    rw [List.getD_eq_getElem?_getD, List.getElem?_eq_getElem hp]
    exact W.lb _ (List.getElem_mem hp)
  have lv1 : ∀ p, p < m → liveOf ⟨bs, ps, ms⟩ p = lv.getD p 0 := fun p h => (hps p _ (pt p h)).2.1
  have st0 : ∀ p, p < m → (ps.getD p ([], 0)).1[0]? = some (standOf ⟨bs, ps, ms⟩ p) := fun p h => by
    have h1 := (hps p _ (pt p h)).1
    show _ = some ((ps.getD p ([], 0)).1.getD 0 (0, false, 0))
    generalize ps.getD p ([], 0) = q at *
    rw [List.getD_eq_getElem?_getD, List.getElem?_eq_getElem (show 0 < q.1.length by omega)]
    rfl
  have st1 : ∀ p, (h : p < m) → _ := fun p h => (hps p _ (pt p h)).2.2 _ (st0 p h)
  have mv1 : ∀ p, p < m → ms[p]? = some (ms.getD p []) := fun p h => by
    rw [List.getD_eq_getElem?_getD, List.getElem?_eq_getElem (by omega)]
    rfl
  have dd : deedsOf ⟨bs, ps, ms⟩ = deeds := (hms 0 _ (mv1 0 W.m1)).1
  refine ⟨⟨?_, ?_, ?_, ?_, ?_, ?_, ?_, ?_, ?_, ?_, ?_⟩, dd⟩
  · show 1 ≤ bs.length ∧ bs.length ≤ 2
    have := W.bl
    omega
  · intro n hn
    have h := W.bm n hn
    exact ⟨by show n < ps.length; omega, by rw [lv1 n h]; exact W.bo n hn⟩
  · show 1 ≤ ps.length ∧ ps.length ≤ 4
    have := W.m1
    have := W.m4
    omega
  · intro p h
    have h : p < m := by rw [← hp]; exact h
    rw [lv1 p h]
    exact (lat p h).2
  · intro p h
    have h : p < m := by rw [← hp]; exact h
    have := (hps p _ (pt p h)).1
    show 1 ≤ (ps.getD p ([], 0)).1.length
    omega
  · intro p h
    have h : p < m := by rw [← hp]; exact h
    rw [lv1 p h]
    exact (st1 p h).2.2
  · intro p q h h' e
    have h : p < m := by rw [← hp]; exact h
    have h' : q < m := by rw [← hp]; exact h'
    have e1 := (st1 p h).2.1
    have e2 := (st1 q h').2.1
    rw [e, e2] at e1
    injection e1 with e1
    exact e1.symm
  · exact hm.trans hp.symm
  · intro l hl
    rw [dd]
    obtain ⟨j, hj, rfl⟩ := List.mem_iff_getElem.mp hl
    exact (hms j _ (List.getElem?_eq_getElem hj)).1
  · rw [dd]
    exact d3
  · intro p d q tk h e
    have h : p < m := by rw [← hp]; exact h
    have h1 := hms p _ (mv1 p h)
    have e' : (ms.getD p []).getD d none = some (q, tk) := e
    by_cases hd : d < (ms.getD p []).length
    · have hmem := getD_mem (d := none) hd
      rw [e'] at hmem
      obtain ⟨a1, a2, a3⟩ := h1.2 _ hmem
      have hq : q < m := by rw [← W.ll]; exact a1
      exact ⟨by show q < ps.length; omega, by rw [lv1 q hq]; exact a2, by rw [lv1 p h]; exact a3⟩
    · rw [List.getD_eq_getElem?_getD, List.getElem?_eq_none (by omega)] at e'
      cases e'
theorem lvV_eq (ns : List Nat) : lvV ns = (ns.map fun n : Nat => (n : Int)).map V.int := by
  rw [List.map_map]
  rfl
theorem lvV_at {ns : List Nat} {i : Nat} (h : i < ns.length) : (lvV ns)[i]? = some (V.int ((ns.getD i 0 : Nat) : Int)) := by
  rw [List.getElem?_map, List.getElem?_eq_getElem h, List.getD_eq_getElem?_getD, List.getElem?_eq_getElem h]
  rfl
theorem lvV_snoc (ns : List Nat) (v : Int) (h : 0 ≤ v) : lvV ns ++ [V.int v] = lvV (ns ++ [v.toNat]) := by
  unfold lvV
  rw [List.map_append, List.map_singleton, show ((v.toNat : Nat) : Int) = v by omega]
theorem wyV_at {ns : List Bool} {i : Nat} {c : Bool} (h : ns[i]? = some c) : (wyV ns)[i]? = some (V.str (wayStr c)) := by
  rw [List.getElem?_map, h]
  rfl
theorem lsD_snoc {H : Hp} {a : Addr} {vs : List V} {ds : List PyData} {v : V} {d : PyData} (ha : H a = some (.lst vs)) (r : ImAll H vs ds) (hv : Im H v d) : LsD (upd H a (.lst (vs ++ [v]))) a (ds ++ [d]) :=
  ⟨_, upd_same, (r.snoc hv).tk (tk_upd fun xs e => by rw [ha] at e; cases e)⟩
theorem LsD.wr {H : Hp} {a p : Addr} {ds : List PyData} {vs : List V} {o : HO} (h : LsD H a ds) (n : a ≠ p) (e : H p = some (.lst vs)) : LsD (upd H p o) a ds :=
  h.keep (fun o' e' => by rw [upd_ne n]; exact e') (tk_upd fun xs z => by rw [e] at z; cases z)
theorem LsD.kp {H H' : Hp} {a b l : Addr} {ds : List PyData} (h : LsD H a ds) (B : Bag H b l) (k : Kp [b] H H') (n : a ≠ b) : LsD H' a ds := h.keep (fun _ e => k.one e n) (B.tk k)
end Own

namespace Own
open PySem PySem.Spec PyProof.Rows L2
section
variable {P : Program} {w : World} {K : PySem.W.Frag} {mg : Str → Option Value} {base : Heap} {C : Addr}

/-!  _law_machine: N = [(0, '_law_bag_here'), (1, '_law_kinds'), (2, '_law_most'), (3, '_law_deeds'), (4, '_law_rows'), (5, '_law_wide'), (6, '_law_many'), (7, '_law_begins'), (8, '_law_point'), (9, '_law_lives'), (10, '_law_row_here'), (11, '_law_ways'), (12, '_law_points'), (13, '_law_moves'), (14, '_law_stands'), (15, '_law_rank'), (16, '_law_k')] -/
abbrev s_l_machine : Stmt := topS 32
abbrev n_l_machine : List Str := ["_law_bag_here", "_law_kinds", "_law_most", "_law_deeds", "_law_rows", "_law_wide", "_law_many", "_law_begins", "_law_point", "_law_lives", "_law_row_here", "_law_ways", "_law_points", "_law_moves", "_law_stands", "_law_rank", "_law_k"]
theorem sc_l_machine : FnScope n_l_machine ["_law_bag_here", "_law_kinds", "_law_most", "_law_deeds", "_law_rows", "_law_wide"] (defScope s_l_machine) := ⟨rfl, rfl, rfl, by decide +kernel, rfl, by decide +kernel, by decide +kernel⟩
abbrev lcScope_l_machine : Scope := { kind := .function, names := [(".0", .local), ("_law_row_here", .local), ("range", .globalImplicit), ("_law_bag_here", .cell), ("_law_many", .cell)], isGenerator := false, isCoroutine := false }
def spMachine : Sp := fun vs H Q _ => ∃ (b bl : Addr) (kinds deeds rows : Nat), vs = [.ref b, .int (kinds : Nat), .int 4, .int (deeds : Nat), .int (rows : Nat), .int 3] ∧ Bag H b bl ∧ 1 ≤ kinds ∧ kinds ≤ 2 ∧ deeds ≤ 3 ∧ 1 ≤ rows ∧ rows ≤ 2 ∧
  ∀ x H' (M : Mach), Kp [b] H H' → Bag H' b bl → M.Ok → M.begins.length = kinds → deedsOf M = deeds → Im H' x (dMach M) → Q x H'
theorem ok_l_machine {f : Addr} {fd : FuncData} (F : Fun K "_law_machine" "_law_machine" s_l_machine f fd) (T : Txt K mg C) (c__law_take : Callee P w K mg base "_law_take" 1 ["_law_bag_here", "_law_upto"] spTake)
    (c__law_some : Callee P w K mg base "_law_some" 2 ["_law_bag_here", "_law_things_here"] spSome)
    (c__law_move : Callee P w K mg base "_law_move" 4 ["_law_bag_here", "_law_lives", "_law_point"] spMove) :
    FnOk P w K mg base CX0 5 f fd ["_law_bag_here", "_law_kinds", "_law_most", "_law_deeds", "_law_rows", "_law_wide"] spMachine := by
  refine F.ok sc_l_machine (fun vs H Q E h => ?_) (fun cdv A outer s H vs Q E hr h => ?_)
  · obtain ⟨b, bl, kinds, deeds, rows, rfl, _⟩ := h
    rfl
  · obtain ⟨b, bl, kinds, deeds, rows, rfl, hB, kk1, kk2, dd3, rr1, rr2, q⟩ := h
    refine ⟨_, (Evl.pss_cut (ps_set (i := 6) sc_l_machine.nd rfl (Or.inr rfl) (pe_op op_add pe_int (pe_callB (call_max2 rfl) (by rfl) T.n_max bt_max (pa_cons (pe_own c__law_take (hr.mono (by decide)) (by rfl) (pa_cons (pv 0) (pa_cons (pv 2) pa_nil))) (pa_cons (pe_own c__law_take (hr.mono (by decide)) (by rfl) (pa_cons (pv 0) (pa_cons (pv 2) pa_nil))) pa_nil))))) (Evl.pss_cut (ps_set (i := 7) sc_l_machine.nd rfl (Or.inr rfl) (pe_callTy call_tuple_of (by rfl) T.n_tuple bt_tuple (pa_cons (pe_lc (own := [("_law_k", 16)]) rfl sc_l_machine.nd (pi_range1 (by rfl) T.n_range (pa_cons (pv 1) pa_nil)) (blkOk_by (own := [("_law_k", 16)]) (N := n_l_machine) (sc := defScope s_l_machine) (by decide +kernel)) (fun _ _ _ _ _ => (pg_name (i := 16) sc_l_machine.nd rfl (Or.inl rfl))) (fun _ _ _ _ _ => pts_nil) (fun _ _ _ _ _ => (pe_own c__law_take (hr.mono (by decide)) (by rfl) (pa_cons (pv 0) (pa_cons (pv 6) pa_nil))))) pa_nil))) (Evl.pss_cut (ps_set (i := 9) sc_l_machine.nd rfl (Or.inr rfl) (pe_lc (own := [("_law_point", 8)]) rfl sc_l_machine.nd (pi_range1 (by rfl) T.n_range (pa_cons (pv 6) pa_nil)) (blkOk_by (own := [("_law_point", 8)]) (N := n_l_machine) (sc := defScope s_l_machine) (by decide +kernel)) (fun _ _ _ _ _ => (pg_name (i := 8) sc_l_machine.nd rfl (Or.inl rfl))) (fun _ _ _ _ _ => pts_nil) (fun _ _ _ _ _ => (pe_ifExp (pt_cmpR (r := rIn K false) op_in_seq (pv 8) (pv 7) rfl) pe_int (pe_op op_add pe_int (pe_own c__law_take (hr.mono (by decide)) (by rfl) (pa_cons (pv 0) (pa_cons (pv 5) pa_nil)))))))) (Evl.pss_cut (ps_setLc (i := 11) (own := [("_law_row_here", 10)]) rfl sc_l_machine.nd rfl rfl (sw_true rfl rfl rfl (by decide +kernel)) (pi_range1 (by rfl) T.n_range (pa_cons (pv 4) pa_nil)) (blkOk_by (own := [("_law_row_here", 10)]) (N := n_l_machine) (sc := defScope s_l_machine) (by decide +kernel)) (fun _ _ _ _ _ => (pg_name (i := 10) sc_l_machine.nd rfl (Or.inl rfl))) (fun _ _ _ _ _ => pts_nil) (fun _ _ _ _ _ => (pe_lc (own := [("_law_k", 16)]) rfl sc_l_machine.nd (pi_range1 (by rfl) T.n_range (pa_cons (pe_op op_add (pv 6) pe_int) pa_nil)) (blkOk_by (own := [("_law_k", 16)]) (N := n_l_machine) (sc := lcScope_l_machine) (by decide +kernel)) (fun _ _ _ _ _ => (pg_name (i := 16) sc_l_machine.nd rfl (Or.inl rfl))) (fun _ _ _ _ _ => pts_nil) (fun _ _ _ _ _ => (pe_own c__law_some (hr.mono (by decide)) (by rfl) (pa_cons (pv 0) (pa_cons (pe_lst (pa_cons pe_str (pa_cons pe_str pa_nil))) pa_nil))))))) (Evl.pss_cut (ps_par (i := 12) (j := 13) (by rfl) sc_l_machine.nd rfl rfl (by decide) rfl rfl (pa_cons (pe_lst pa_nil) (pa_cons (pe_lst pa_nil) pa_nil)) (by rfl)) (Evl.pss_cut (ps_for PassesOwn.never rfl (pi_range1 (by rfl) T.n_range (pa_cons (pv 6) pa_nil)) (pg_name (i := 8) sc_l_machine.nd rfl (Or.inr rfl)) (pss_cons (ps_set (i := 14) sc_l_machine.nd rfl (Or.inl rfl) (pe_lst pa_nil))
          (pss_cons (ps_for PassesOwn.never rfl (pi_range1 (by rfl) T.n_range (pa_cons (pv 4) pa_nil)) (pg_name (i := 10) sc_l_machine.nd rfl (Or.inl rfl)) (pss_cons (ps_set (i := 15) sc_l_machine.nd rfl (Or.inl rfl) (pe_own c__law_take (hr.mono (by decide)) (by rfl) (pa_cons (pv 0) (pa_cons (pe_op op_add (pv 6) pe_int) pa_nil))))
            (pss_one (ps_expr (pe_bm PySem.F.plainAttrs_list PySem.F.slot_list_append PySem.F.type_list_append mt_append (pv 14) (pa_cons (pe_tup (pa_cons (pv 15) (pa_cons (pe_ix (r := rIxL K) ix_list (pe_ix (r := rIxL K) ix_list (pv 11) (pv 10) (fun _ _ => rfl)) (pv 15) (fun _ _ => rfl)) (pa_cons (pe_own c__law_take (hr.mono (by decide)) (by rfl) (pa_cons (pv 0) (pa_cons (pe_ix (r := rIxL K) ix_list (pv 9) (pv 8) (fun _ _ => rfl)) pa_nil))) pa_nil)))) pa_nil))))))
          (pss_one (ps_expr (pe_bm PySem.F.plainAttrs_list PySem.F.slot_list_append PySem.F.type_list_append mt_append (pv 12) (pa_cons (pe_tup (pa_cons (pe_callTy call_tuple_of (by rfl) T.n_tuple bt_tuple (pa_cons (pv 14) pa_nil)) (pa_cons (pe_ix (r := rIxL K) ix_list (pv 9) (pv 8) (fun _ _ => rfl)) (pa_cons (pe_tup pa_nil) pa_nil)))) pa_nil))))))) (Evl.pss_cut (ps_for PassesOwn.never rfl (pi_range1 (by rfl) T.n_range (pa_cons (pv 6) pa_nil)) (pg_name (i := 8) sc_l_machine.nd rfl (Or.inr rfl)) (pss_one (ps_expr (pe_bm PySem.F.plainAttrs_list PySem.F.slot_list_append PySem.F.type_list_append mt_append (pv 13) (pa_cons (pe_callTy call_tuple_of (by rfl) T.n_tuple bt_tuple (pa_cons (pe_lc (own := [("_law_k", 16)]) rfl sc_l_machine.nd (pi_range1 (by rfl) T.n_range (pa_cons (pv 3) pa_nil)) (blkOk_by (own := [("_law_k", 16)]) (N := n_l_machine) (sc := defScope s_l_machine) (by decide +kernel)) (fun _ _ _ _ _ => (pg_name (i := 16) sc_l_machine.nd rfl (Or.inl rfl))) (fun _ _ _ _ _ => pts_nil) (fun _ _ _ _ _ => (pe_own c__law_move (hr.mono (by decide)) (by rfl) (pa_cons (pv 0) (pa_cons (pv 9) (pa_cons (pv 8) pa_nil)))))) pa_nil)) pa_nil))))) (pss_one (ps_ret (pe_tup (pa_cons (pv 7) (pa_cons (pe_callTy call_tuple_of (by rfl) T.n_tuple bt_tuple (pa_cons (pv 12) pa_nil)) (pa_cons (pe_callTy call_tuple_of (by rfl) T.n_tuple bt_tuple (pa_cons (pv 13) pa_nil)) pa_nil))))))))))))), ?_⟩
    let st : Option V → Option V → Option V → Option V → Option V → Option V → Option V → Option V → Option V → Option V → Option V → L2.St := fun many begins point lives row ways points moves stands rank k =>
      [some (.ref b), some (.int (kinds : Nat)), some (.int 4), some (.int (deeds : Nat)), some (.int (rows : Nat)), some (.int 3), many, begins, point, lives, row, ways, points, moves, stands, rank, k]
    -- many
    refine ⟨fun σ H' => ∃ m : Nat, σ = st (some (.int (m : Nat))) none none none none none none none none none none ∧ 1 ≤ m ∧ m ≤ 4 ∧ Kp [b] H H' ∧ Bag H' b bl, ?_, ?_⟩
    · refine ⟨_, rfl, _, rfl, b, bl, _, rfl, hB, by decide, by decide, fun v1 H1 v10 v11 k1 B1 => ?_⟩
      refine ⟨_, rfl, _, rfl, b, bl, _, rfl, B1, by decide, by decide, fun v2 H2 v20 v21 k2 B2 => ?_⟩
      refine ⟨_, _, rfl, _, _, rfl, rfl, ?_⟩
      refine ⟨(1 + if v2 > v1 then v2 else v1).toNat, ?_, ?_, ?_, k1.trans k2, B2⟩
      · rw [show (((1 + if v2 > v1 then v2 else v1).toNat : Nat) : Int) = 1 + if v2 > v1 then v2 else v1 by split <;> omega]
        rfl
      · split <;> omega
      · split <;> omega
    rintro σ H0 ⟨m, rfl, m1, m4, k0, B0⟩
    -- begins
    refine ⟨fun σ H' => ∃ (ba : Addr) (bs : List Nat), σ = st (some (.int (m : Nat))) (some (.ref ba)) none none none none none none none none none ∧ H' ba = some (.tup (lvV bs)) ∧ ba ≠ b ∧ bs.length = kinds ∧ (∀ n ∈ bs, n < m) ∧ Kp [b] H H' ∧ Bag H' b bl, ?_, ?_⟩
    · refine ⟨_, rfl, _, rfl, by omega, by omega, fun D hD => ?_⟩
      refine lc_range (lo := 0) (n := ((kinds : Nat) : Int).toNat) (fun i H' => Kp [b] H0 H' ∧ Bag H' b bl ∧ ∃ bs : List Nat, H' D = some (.lst (lvV bs)) ∧ bs.length = i ∧ ∀ n ∈ bs, n < m) ⟨Same.kp (same_new hD), B0.same (same_new hD), [], upd_same, rfl, by simp⟩ ?_ ?_
      · rintro i H' hi ⟨k', B', bs, h1, h2, h3⟩
        refine ⟨rfl, ?_⟩
        refine ⟨_, rfl, _, rfl, b, bl, _, rfl, B', by omega, by omega, fun v H3 v0 v1 k3 B3 => ?_⟩
        refine ⟨_, k3.one h1 (B0.fresh hD).1, ?_, (k'.trans k3).nw hD, B3.wr (B0.fresh hD).1 (B0.fresh hD).2, bs ++ [v.toNat], ?_, ?_, ?_⟩
        · rw [List.length_map]
          exact small5 (by omega)
        · rw [upd_same]
          unfold lvV
          rw [List.map_append, List.map_singleton, show ((v.toNat : Nat) : Int) = v by omega]
        · rw [List.length_append, List.length_singleton, h2]
        · intro n hn
          rcases List.mem_append.mp hn with h | h
          · exact h3 n h
          · rw [List.mem_singleton.mp h]
            omega
      · rintro H' ⟨k', B', bs, h1, h2, h3⟩
        refine ⟨D, _, rfl, .inl ⟨SqL.of h1, fun l hl => ?_⟩⟩
        have s1 := same_new (o := .tup (lvV bs)) hl
        exact ⟨l, bs, rfl, upd_same, (B'.fresh hl).1, by omega, h3, (k0.trans k').trans (Same.kp s1), B'.same s1⟩
    rintro σ H1 ⟨ba, bs, rfl, hba, nba, hbl, hbm, k1, B1⟩
    -- lives
    refine ⟨fun σ H' => ∃ (ll : Addr) (lv : List Nat), σ = st (some (.int (m : Nat))) (some (.ref ba)) none (some (.ref ll)) none none none none none none none ∧ H' ba = some (.tup (lvV bs)) ∧ H' ll = some (.lst (lvV lv)) ∧ ll ≠ b ∧ lv.length = m ∧ (∀ n ∈ lv, 1 ≤ n ∧ n ≤ 3) ∧ (∀ n ∈ bs, lv.getD n 0 = 1) ∧ Kp [b] H H' ∧ Bag H' b bl, ?_, ?_⟩
    · refine ⟨_, rfl, _, rfl, by omega, by omega, fun D hD => ?_⟩
      refine lc_range (lo := 0) (n := ((m : Nat) : Int).toNat) (fun i H' => Kp [b] H1 H' ∧ Bag H' b bl ∧ ∃ lv : List Nat, H' D = some (.lst (lvV lv)) ∧ lv.length = i ∧ (∀ n ∈ lv, 1 ≤ n ∧ n ≤ 3) ∧ (∀ n ∈ bs, n < i → lv.getD n 0 = 1)) ⟨Same.kp (same_new hD), B1.same (same_new hD), [], upd_same, rfl, by simp, fun n _ h => absurd h (Nat.not_lt_zero _)⟩ ?_ ?_
      · rintro i H' hi ⟨k', B', lv, h1, h2, h3, h4⟩
        have fin : ∀ (v : Int) H4, 1 ≤ v → v ≤ 3 → (i ∈ bs → v = 1) → Kp [b] H' H4 → Bag H4 b bl → ∃ acc, H4 D = some (.lst acc) ∧ acc.length < sizeLine ∧ (Kp [b] H1 (upd H4 D (.lst (acc ++ [V.int v]))) ∧ Bag (upd H4 D (.lst (acc ++ [V.int v]))) b bl ∧ ∃ lv : List Nat, (upd H4 D (.lst (acc ++ [V.int v]))) D = some (.lst (lvV lv)) ∧ lv.length = i + 1 ∧ (∀ n ∈ lv, 1 ≤ n ∧ n ≤ 3) ∧ (∀ n ∈ bs, n < i + 1 → lv.getD n 0 = 1)) := fun v H4 v1 v3 vb k4 B4 => by
          refine ⟨_, k4.one h1 (B1.fresh hD).1, ?_, (k'.trans k4).nw hD, B4.wr (B1.fresh hD).1 (B1.fresh hD).2, lv ++ [v.toNat], ?_, ?_, ?_, ?_⟩
          · rw [List.length_map]
            exact small5 (by omega)
          · rw [upd_same, lvV_snoc _ _ (by omega)]
          · rw [List.length_append, List.length_singleton, h2]
          · intro n hn
            rcases List.mem_append.mp hn with h | h
            · exact h3 n h
            · rw [List.mem_singleton.mp h]
              omega
          · intro n hn hni
            by_cases e : n < i
            · rw [List.getD_eq_getElem?_getD, List.getElem?_append_left (by omega), ← List.getD_eq_getElem?_getD]
              exact h4 n hn e
            · have e2 : n = lv.length := by omega
              have := vb (by rw [← h2, ← e2]; exact hn)
              rw [e2, List.getD_eq_getElem?_getD, List.getElem?_concat_length]
              show v.toNat = 1
              omega
        refine ⟨rfl, ?_⟩
        refine ⟨_, rfl, _, rfl, ba, _, rfl, .inr (SqT.of (k'.one hba nba)), rfl, by rw [lvV_eq]; exact flat_ints _, _, rfl, ?_⟩
        have hin : inV (.int (0 + ((i : Nat) : Int))) (lvV bs) = decide (i ∈ bs) := by
          rw [lvV_eq, show (0 : Int) + ((i : Nat) : Int) = ((i : Nat) : Int) by omega]
          exact inV_ints i bs
        by_cases hS : i ∈ bs
        · refine iteYes (hin.trans (decide_eq_true hS)) ?_
          exact fin 1 H' (by omega) (by omega) (fun _ => rfl) (Kp.refl _ _) B'
        · refine iteNo (hin.trans (decide_eq_false hS)) ?_
          refine ⟨_, rfl, _, rfl, b, bl, _, rfl, B', by decide, by decide, fun v H3 v0 v1 k3 B3 => ?_⟩
          refine ⟨_, _, rfl, rfl, ?_⟩
          exact fin (1 + v) H3 (by omega) (by omega) (fun z => absurd z hS) k3 B3
      · rintro H' ⟨k', B', lv, h1, h2, h3, h4⟩
        exact ⟨D, lv, rfl, k'.one hba nba, h1, (B1.fresh hD).1, by omega, h3, fun n hn => h4 n hn (by have := hbm n hn; omega), k1.trans k', B'⟩
    rintro σ H2 ⟨ll, lv, rfl, hba2, hll, nll, hlvl, hlv, hlo, k2, B2⟩
    -- ways
    refine ⟨fun σ H' => ∃ (wa : Addr) (wl : List Addr) (Ws : List (List Bool)), σ = st (some (.int (m : Nat))) (some (.ref ba)) none (some (.ref ll)) none (some (.ref wa)) none none none none none ∧ Pre H' b ba ll wa wl bs lv Ws ∧ wl.length = rows ∧ Wd kinds rows m bs lv Ws ∧ Kp [b] H H' ∧ Bag H' b bl, ?_, ?_⟩
    · refine ⟨_, rfl, _, rfl, by omega, by omega, fun D hD => ?_⟩
      have nDb := (B2.fresh hD).1
      refine lc_range (lo := 0) (n := ((rows : Nat) : Int).toNat) (fun i H' => Kp [b] H2 H' ∧ Bag H' b bl ∧ ∃ (wl : List Addr) (Ws : List (List Bool)), H' D = some (.lst (wl.map V.ref)) ∧ wl.length = i ∧ Ws.length = i ∧ (∀ r (h : r < wl.length), (H' wl[r] = some (.lst (wyV (Ws.getD r []))) ∧ wl[r] ≠ b) ∧ wl[r] ≠ D ∧ (Ws.getD r []).length = m + 2)) ⟨Same.kp (same_new hD), B2.same (same_new hD), [], [], upd_same, rfl, rfl, fun r h => absurd h (Nat.not_lt_zero _)⟩ ?_ ?_
      · rintro i H' hi ⟨k', B', wl, Ws, h1, h2, h2', h3⟩
        refine ⟨rfl, ?_⟩
        refine ⟨_, rfl, _, _, rfl, rfl, _, rfl, by omega, by omega, fun D2 hD2 => ?_⟩
        have nD2b := (B'.fresh hD2).1
        have nDD2 : D ≠ D2 := ne_of_none h1 hD2
        refine lc_range (lo := 0) (n := (((m : Nat) : Int) + 2).toNat) (fun j H2' => Kp [b] H' H2' ∧ Bag H2' b bl ∧ ∃ Wr : List Bool, H2' D2 = some (.lst (wyV Wr)) ∧ Wr.length = j) ⟨Same.kp (same_new hD2), B'.same (same_new hD2), [], upd_same, rfl⟩ ?_ ?_
        · rintro j H2' hj ⟨k2', B2', Wr, g1, g2⟩
          refine ⟨rfl, ?_⟩
          refine ⟨_, rfl, by show 2 ≤ sizeLine; decide, fun r hr' => ?_⟩
          have s3 := same_new (o := .lst [V.str "later", V.str "earlier"]) hr'
          refine ⟨b, bl, r, _, rfl, B2'.same s3, upd_same, (B2'.fresh hr').1, by simp, by simp, fun v H3 hv k3 B3 => ?_⟩
          obtain ⟨c, rfl⟩ : ∃ c, v = V.str (wayStr c) := by
            rcases List.mem_cons.mp hv with h | h
            · exact ⟨true, h⟩
            · exact ⟨false, List.mem_singleton.mp h⟩
          have k4 : Kp [b] H' H3 := k2'.trans ((Same.kp s3).trans k3)
          refine ⟨_, k3.one (s3 _ _ g1) nD2b, ?_, k4.nw hD2, B3.wr nD2b (B'.fresh hD2).2, Wr ++ [c], ?_, ?_⟩
          · rw [List.length_map]
            exact small5 (by omega)
          · rw [upd_same]
            unfold wyV
            rw [List.map_append]
            rfl
          · rw [List.length_append, List.length_singleton, g2]
        · rintro H2' ⟨k2', B2', Wr, g1, g2⟩
          have hD2' := k2'.one h1 nDb
          refine ⟨_, hD2', ?_, (k'.trans k2').nw hD, B2'.wr nDb (B2.fresh hD).2, wl ++ [D2], Ws ++ [Wr], ?_, ?_, ?_, ?_⟩
          · rw [List.length_map]
            exact small5 (by omega)
          · rw [upd_same, List.map_append]
            rfl
          · rw [List.length_append, List.length_singleton, h2]
          · rw [List.length_append, List.length_singleton, h2']
          · intro r hr'
            rw [List.length_append, List.length_singleton] at hr'
            by_cases e : r < wl.length
            · obtain ⟨⟨a1, a2⟩, a3, a4⟩ := h3 r e
              rw [List.getElem_append_left e, List.getD_eq_getElem?_getD, List.getElem?_append_left (by omega), ← List.getD_eq_getElem?_getD]
              exact ⟨⟨by rw [upd_ne a3]; exact k2'.one a1 a2, a2⟩, a3, a4⟩
            · have e2 : r = wl.length := by omega
              subst e2
              have e3 : wl.length = Ws.length := by omega
              rw [List.getElem_concat_length rfl, e3, List.getD_eq_getElem?_getD, List.getElem?_concat_length]
              exact ⟨⟨by rw [upd_ne nDD2.symm]; exact g1, nD2b⟩, nDD2.symm, by show Wr.length = m + 2; omega⟩
      · rintro H' ⟨k', B', wl, Ws, h1, h2, h2', h3⟩
        exact ⟨D, wl, Ws, rfl, ⟨k'.one hba2 nba, nba, k'.one hll nll, nll, h1, nDb, fun r h => (h3 r h).1⟩, by omega, ⟨m1, m4, hbl, hbm, hlvl, hlv, hlo, fun r h => (h3 r (by omega)).2.2⟩, k2.trans k', B'⟩
    rintro σ H3 ⟨wa, wl, Ws, rfl, pre, hwl, wd, k3, B3⟩
    -- points, moves = [], []
    refine ⟨fun σ H' => ∃ (pa ma : Addr), σ = st (some (.int (m : Nat))) (some (.ref ba)) none (some (.ref ll)) none (some (.ref wa)) (some (.ref pa)) (some (.ref ma)) none none none ∧ H3 pa = none ∧ H3 ma = none ∧ pa ≠ ma ∧ H' pa = some (.lst []) ∧ H' ma = some (.lst []) ∧ Kp [b] H3 H' ∧ Bag H' b bl, ?_, ?_⟩
    · refine ⟨Nat.zero_le _, fun pa hpa => ⟨Nat.zero_le _, fun ma hma => ?_⟩⟩
      have npm : pa ≠ ma := fun e => by rw [← e, upd_same] at hma; cases hma
      have s1 := same_new (o := .lst []) hpa
      have s2 := s1.trans (same_new (o := .lst []) hma)
      exact ⟨_, _, rfl, pa, ma, rfl, hpa, s1.free hma, npm, by rw [upd_ne npm]; exact upd_same, upd_same, Same.kp s2, B3.same s2⟩
    rintro σ H4 ⟨pa, ma, rfl, hpa, hma, npm, hpa4, hma4, k4, B4⟩
    -- the points
    refine ⟨fun σ H' => ∃ (v8 v10 v14 v15 : Option V) (ps : List Pt), σ = st (some (.int (m : Nat))) (some (.ref ba)) v8 (some (.ref ll)) v10 (some (.ref wa)) (some (.ref pa)) (some (.ref ma)) v14 v15 none ∧ LsD H' pa (ps.map dPt) ∧ ps.length = m ∧ (∀ j p, ps[j]? = some p → PtOk (Ws.getD 0 []) (lv.getD j 0) rows p) ∧ H' ma = some (.lst []) ∧ Kp [b] H3 H' ∧ Bag H' b bl, ?_, ?_⟩
    · refine ⟨_, rfl, _, rfl, (by omega), (by omega), for_range (lo := 0) (n := ((m : Nat) : Int).toNat) (fun i σ H' => ∃ (v8 v10 v14 v15 : Option V) (ps : List Pt), σ = st (some (.int (m : Nat))) (some (.ref ba)) v8 (some (.ref ll)) v10 (some (.ref wa)) (some (.ref pa)) (some (.ref ma)) v14 v15 none ∧ LsD H' pa (ps.map dPt) ∧ ps.length = i ∧ (∀ j p, ps[j]? = some p → PtOk (Ws.getD 0 []) (lv.getD j 0) rows p) ∧ H' ma = some (.lst []) ∧ Kp [b] H3 H' ∧ Bag H' b bl)
        ⟨none, none, none, none, [], rfl, ⟨_, hpa4, .nil⟩, rfl, (fun j p h => by cases h), hma4, k4, B4⟩ ?_ fun σ H' ⟨v8, v10, v14, v15, ps, a1, a2, a3, a4, a5, a6, a7⟩ => ⟨v8, v10, v14, v15, ps, a1, a2, by omega, a4, a5, a6, a7⟩⟩
      rintro i σ H' hi ⟨v8, v10, v14, v15, ps, rfl, hps, psl, psok, hma', k', B'⟩
      have npb := (B3.fresh hpa).1
      have npl := (B3.fresh hpa).2
      have nmb := (B3.fresh hma).1
      have him : i < m := by omega
      -- stands = []
      refine ⟨Nat.zero_le _, fun sl hsl => ?_⟩
      have nsb := (B'.fresh hsl).1
      have nsl := (B'.fresh hsl).2
      have nms : ma ≠ sl := ne_of_none hma' hsl
      obtain ⟨pvs, hpvs, hpim⟩ := id hps
      have nps : pa ≠ sl := ne_of_none hpvs hsl
      have s0 := same_new (o := .lst []) hsl
      refine ⟨_, rfl, _, rfl, (by omega), (by omega), for_range (lo := 0) (n := ((rows : Nat) : Int).toNat) (fun j σ H'' => ∃ (v10 v15 : Option V) (ss : List Stand), σ = st (some (.int (m : Nat))) (some (.ref ba)) (some (.int (0 + (i : Nat)))) (some (.ref ll)) v10 (some (.ref wa)) (some (.ref pa)) (some (.ref ma)) (some (.ref sl)) v15 none ∧ LsD H'' sl (ss.map dStand) ∧ ss.length = j ∧ (∀ s, ss[0]? = some s → 0 ≤ s.1 ∧ (Ws.getD 0 [])[s.1.toNat]? = some s.2.1 ∧ s.2.2 < lv.getD i 0) ∧ Kp [b] H' H'' ∧ Bag H'' b bl)
        ⟨v10, v15, [], rfl, ⟨_, upd_same, .nil⟩, rfl, (fun s h => by cases h), Same.kp s0, B'.same s0⟩ ?_ ?_⟩
      · rintro j σ H6 hj ⟨v10, v15, ss, rfl, hss, ssl, ssok, k6, B6⟩
        have hjr : j < rows := by omega
        -- rank
        refine ⟨_, rfl, _, rfl, _, _, rfl, rfl, b, bl, _, rfl, B6, by omega, by omega, fun rk H7 rk0 rk1 k7 B7 => ?_⟩
        have pre7 := pre.keep (k'.trans (k6.trans k7))
        obtain ⟨svs, hsv, hsim⟩ := hss.kp B6 k7 nsb
        have hjw : j < wl.length := by omega
        have hWl := wd.wl j hjr
        obtain ⟨hwj, nwj⟩ := pre7.hr j hjw
        have hrkl : rk.toNat < (Ws.getD j []).length := by omega
        obtain ⟨c, hc⟩ : ∃ c, (Ws.getD j [])[rk.toNat]? = some c := ⟨_, List.getElem?_eq_getElem hrkl⟩
        have hij : ((0 : Int) + ((j : Nat) : Int)) = ((j : Nat) : Int) := by omega
        have hii : ((0 : Int) + ((i : Nat) : Int)) = ((i : Nat) : Int) := by omega
        have hil : i < lv.length := by omega
        have hlvi : 1 ≤ lv.getD i 0 ∧ lv.getD i 0 ≤ 3 := hlv _ (getD_mem hil)
        refine ⟨_, rfl, .inl ⟨rfl, _, SqL.of hsv⟩, ?_⟩
        refine ⟨_, rfl, _, rfl, _, rfl, wa, _, _, V.ref wl[j], rfl, rfl, SqL.of pre7.hw, ?_, ?_⟩
        · rw [hij]
          exact atI_nat (by rw [List.getElem?_map, List.getElem?_eq_getElem hjw]; rfl)
        refine ⟨_, rfl, wl[j], _, _, V.str (wayStr c), rfl, rfl, SqL.of hwj, ?_, ?_⟩
        · rw [show rk = ((rk.toNat : Nat) : Int) by omega]
          exact atI_nat (wyV_at hc)
        refine ⟨_, rfl, _, rfl, _, rfl, ll, _, _, V.int ((lv.getD i 0 : Nat) : Int), rfl, rfl, SqL.of pre7.hl, ?_, ?_⟩
        · rw [hii]
          exact atI_nat (lvV_at hil)
        refine ⟨b, bl, _, rfl, B7, by omega, by omega, fun at' H8 at0 at1 k8 B8 => ?_⟩
        refine ⟨by show 3 ≤ sizeLine; decide, fun t ht => ?_⟩
        have s9 := same_new (o := .tup [V.int rk, V.str (wayStr c), V.int at']) ht
        have hs8 := k8.one hsv nsb
        refine ⟨sl, _, _, rfl, rfl, s9 _ _ hs8, ?_, ?_⟩
        · rw [hsim.len, List.length_map]
          exact small5 (by omega)
        have hss0 : H' sl = none := hsl
        refine ⟨some (.int (0 + (j : Nat))), some (.int rk), ss ++ [(rk, c, at'.toNat)], rfl, ?_, ?_, ?_, ((k6.trans k7).trans (k8.trans (Same.kp s9))).nw hsl, (B8.same s9).wr nsb nsl⟩
        · rw [List.map_append, List.map_singleton]
          refine lsD_snoc (s9 _ _ hs8) (hsim.tk ((B7.tk k8).trans (Same.tk s9))) ?_
          refine im3 upd_same (.int _) (.str _) ?_
          show Im _ _ (.int ((at'.toNat : Nat) : Int))
          rw [show ((at'.toNat : Nat) : Int) = at' by omega]
          exact .int _
        · rw [List.length_append, List.length_singleton, ssl]
        · intro s hs
          by_cases e : 0 < ss.length
          · rw [List.getElem?_append_left e] at hs
            exact ssok s hs
          · have e0 : ss = [] := List.length_eq_zero_iff.mp (by omega)
            subst e0
            have ej : j = 0 := by rw [← ssl]; rfl
            subst ej
            injection hs with hs
            subst hs
            exact ⟨rk0, hc, by show at'.toNat < _; omega⟩
      · rintro σ H6 ⟨v10, v15, ss, rfl, hss, ssl, ssok, k6, B6⟩
        have pre6 := pre.keep (k'.trans k6)
        obtain ⟨svs, hsv, hsim⟩ := hss
        have hpv6 := k6.one hpvs npb
        have hpim6 := hpim.tk (B'.tk k6)
        have hil : i < lv.length := by omega
        refine ⟨_, rfl, .inl ⟨rfl, _, SqL.of hpv6⟩, ?_⟩
        refine ⟨_, rfl, sl, _, rfl, .inl ⟨SqL.of hsv, fun t ht => ?_⟩⟩
        have s7 := same_new (o := .tup svs) ht
        refine ⟨_, rfl, _, rfl, ll, _, _, V.int ((lv.getD i 0 : Nat) : Int), rfl, rfl, SqL.of (s7 _ _ pre6.hl), ?_, ?_⟩
        · rw [show ((0 : Int) + ((i : Nat) : Int)) = ((i : Nat) : Int) by omega]
          exact atI_nat (lvV_at hil)
        refine ⟨by show 0 ≤ sizeLine; decide, fun t2 ht2 => ?_⟩
        have s8 := s7.trans (same_new (o := .tup []) ht2)
        refine ⟨by show 3 ≤ sizeLine; decide, fun t3 ht3 => ?_⟩
        have s3' := same_new (o := .tup [V.ref t, V.int ((lv.getD i 0 : Nat) : Int), V.ref t2]) ht3
        have s9 := s8.trans s3'
        have n12 : t ≠ t2 := fun e => by rw [← e, upd_same] at ht2; cases ht2
        refine ⟨pa, _, _, rfl, rfl, s9 _ _ hpv6, ?_, ?_⟩
        · rw [hpim.len, List.length_map]
          exact small5 (by omega)
        refine ⟨some (.int (0 + (i : Nat))), v10, some (.ref sl), v15, ps ++ [(ss, lv.getD i 0)], rfl, ?_, ?_, ?_, ?_, ((k'.trans k6).trans (Same.kp s9)).nw hpa, (B6.same s9).wr npb npl⟩
        · rw [List.map_append, List.map_singleton]
          refine lsD_snoc (s9 _ _ hpv6) (hpim6.tk (Same.tk s9)) ?_
          refine im3 upd_same ?_ (.int _) ?_
          · exact .tup (s3' _ _ (by rw [upd_ne n12]; exact upd_same)) (hsim.tk (Same.tk s9))
          · exact .tup (s3' _ _ upd_same) .nil
        · rw [List.length_append, List.length_singleton, psl]
        · intro j p hp
          by_cases e : j < ps.length
          · rw [List.getElem?_append_left e] at hp
            exact psok j p hp
          · rw [List.getElem?_append_right (by omega)] at hp
            have e0 : j - ps.length = 0 := by
              cases h : j - ps.length with
              | zero => rfl
              | succ k => rw [h] at hp; cases hp
            rw [e0] at hp
            injection hp with hp
            subst hp
            have ej : j = i := by omega
            subst ej
            exact ⟨by show ss.length = rows; omega, rfl, ssok⟩
        · rw [upd_ne npm.symm]
          exact s9 _ _ (k6.one hma' nmb)
    rintro σ H5 ⟨v8, v10, v14, v15, ps, rfl, hps, psl, psok, hma5, k5, B5⟩
    -- the moves
    refine ⟨fun σ H' => ∃ (v8 v10 v14 v15 : Option V) (ms : List (List Mv)), σ = st (some (.int (m : Nat))) (some (.ref ba)) v8 (some (.ref ll)) v10 (some (.ref wa)) (some (.ref pa)) (some (.ref ma)) v14 v15 none ∧ LsD H' pa (ps.map dPt) ∧ LsD H' ma (ms.map dMvs) ∧ ms.length = m ∧ (∀ j l, ms[j]? = some l → l.length = deeds ∧ ∀ v ∈ l, MvOk lv j v) ∧ Kp [b] H3 H' ∧ Bag H' b bl, ?_, ?_⟩
    · have npb := (B3.fresh hpa).1
      have nmb := (B3.fresh hma).1
      have nml := (B3.fresh hma).2
      refine ⟨_, rfl, _, rfl, (by omega), (by omega), for_range (lo := 0) (n := ((m : Nat) : Int).toNat) (fun i σ H' => ∃ (v8 v10 v14 v15 : Option V) (ms : List (List Mv)), σ = st (some (.int (m : Nat))) (some (.ref ba)) v8 (some (.ref ll)) v10 (some (.ref wa)) (some (.ref pa)) (some (.ref ma)) v14 v15 none ∧ LsD H' pa (ps.map dPt) ∧ LsD H' ma (ms.map dMvs) ∧ ms.length = i ∧ (∀ j l, ms[j]? = some l → l.length = deeds ∧ ∀ v ∈ l, MvOk lv j v) ∧ Kp [b] H3 H' ∧ Bag H' b bl)
        ⟨v8, v10, v14, v15, [], rfl, hps, ⟨_, hma5, .nil⟩, rfl, (fun j p h => by cases h), k5, B5⟩ ?_ fun σ H' ⟨v8, v10, v14, v15, ms, a1, a2, a3, a4, a5, a6, a7⟩ => ⟨v8, v10, v14, v15, ms, a1, a2, a3, by omega, a5, a6, a7⟩⟩
      rintro i σ H' hi ⟨v8, v10, v14, v15, ms, rfl, hps', ⟨mvs, hmv, hmim⟩, msl, msok, k', B'⟩
      have hil : i < lv.length := by omega
      refine ⟨_, rfl, .inl ⟨rfl, _, SqL.of hmv⟩, ?_⟩
      refine ⟨_, rfl, _, rfl, by omega, by omega, fun D hD => ?_⟩
      have nDb := (B'.fresh hD).1
      refine lc_range (lo := 0) (n := ((deeds : Nat) : Int).toNat) (fun j H'' => Kp [b] H' H'' ∧ Bag H'' b bl ∧ ∃ l : List Mv, LsD H'' D (l.map dMv) ∧ l.length = j ∧ ∀ v ∈ l, MvOk lv i v) ⟨Same.kp (same_new hD), B'.same (same_new hD), [], ⟨_, upd_same, .nil⟩, rfl, by simp⟩ ?_ ?_
      · rintro j H7 hj ⟨k7, B7, l, hl, hll', hlo'⟩
        refine ⟨rfl, ?_⟩
        have pre7 := pre.keep (k'.trans k7)
        refine ⟨_, rfl, _, rfl, _, rfl, b, bl, ll, lv, i, by rw [show ((0 : Int) + ((i : Nat) : Int)) = ((i : Nat) : Int) by omega]; rfl, B7, pre7.hl, nll, hil, by omega, hlv, fun x H8 mv k8 B8 hx hok => ?_⟩
        obtain ⟨lvs, hlv8, hlim⟩ := hl.kp B7 k8 nDb
        refine ⟨_, hlv8, ?_, (k7.trans k8).nw hD, B8.wr nDb (B'.fresh hD).2, l ++ [mv], ?_, ?_, ?_⟩
        · rw [hlim.len, List.length_map]
          exact small5 (by omega)
        · rw [List.map_append, List.map_singleton]
          exact lsD_snoc hlv8 hlim hx
        · rw [List.length_append, List.length_singleton, hll']
        · intro v hv
          rcases List.mem_append.mp hv with h | h
          · exact hlo' v h
          · rw [List.mem_singleton.mp h]
            exact hok
      · rintro H7 ⟨k7, B7, l, ⟨lvs, hlv7, hlim⟩, hll', hlo'⟩
        refine ⟨D, _, rfl, .inl ⟨SqL.of hlv7, fun t ht => ?_⟩⟩
        have s8 := same_new (o := .tup lvs) ht
        have hmv8 := s8 _ _ (k7.one hmv nmb)
        refine ⟨ma, _, _, rfl, rfl, hmv8, ?_, ?_⟩
        · rw [hmim.len, List.length_map]
          exact small5 (by omega)
        refine ⟨some (.int (0 + (i : Nat))), v10, v14, v15, ms ++ [l], rfl, ?_, ?_, ?_, ?_, ((k'.trans k7).trans (Same.kp s8)).nw hma, (B7.same s8).wr nmb nml⟩
        · exact ((hps'.kp B' k7 npb).same s8).wr npm hmv8
        · rw [List.map_append, List.map_singleton]
          refine lsD_snoc hmv8 ((hmim.tk (B'.tk k7)).tk (Same.tk s8)) ?_
          exact .tup upd_same (hlim.tk (Same.tk s8))
        · rw [List.length_append, List.length_singleton, msl]
        · intro j p hp
          by_cases e : j < ms.length
          · rw [List.getElem?_append_left e] at hp
            exact msok j p hp
          · rw [List.getElem?_append_right (by omega)] at hp
            have e0 : j - ms.length = 0 := by
              cases h : j - ms.length with
              | zero => rfl
              | succ k => rw [h] at hp; cases hp
            rw [e0] at hp
            injection hp with hp
            subst hp
            have ej : j = i := by omega
            subst ej
            exact ⟨by omega, hlo'⟩
    rintro σ H6 ⟨v8, v10, v14, v15, ms, rfl, hps6, hms, msl, msok, k6, B6⟩
    have pre6 := pre.keep k6
    obtain ⟨pvs, hpv, hpim⟩ := hps6
    obtain ⟨mvs, hmv, hmim⟩ := hms
    refine ⟨_, rfl, _, rfl, pa, _, rfl, .inl ⟨SqL.of hpv, fun t ht => ?_⟩⟩
    have s1 := same_new (o := .tup pvs) ht
    refine ⟨_, rfl, ma, _, rfl, .inl ⟨SqL.of (s1 _ _ hmv), fun t2 ht2 => ?_⟩⟩
    have s2 := same_new (o := .tup mvs) ht2
    refine ⟨by show 3 ≤ sizeLine; decide, fun t3 ht3 => ?_⟩
    have s3 := same_new (o := .tup [V.ref ba, V.ref t, V.ref t2]) ht3
    have s123 := (s1.trans s2).trans s3
    obtain ⟨ok, od⟩ := mach_ok kk1 kk2 rr1 dd3 wd psl psok msl msok
    refine q _ _ _ ((k3.trans k6).trans (Same.kp s123)) (B6.same s123) ok wd.bl od ?_
    refine im3 upd_same ?_ ?_ ?_
    · exact im_ns (by rw [← lvV_eq]; exact s123 _ _ pre6.hb)
    · exact .tup ((s2.trans s3) _ _ upd_same) (hpim.tk (Same.tk s123))
    · exact .tup (s3 _ _ upd_same) (hmim.tk (Same.tk s123))
end
end Own

namespace Own
open PySem PySem.Spec PyProof.Rows L2
section
variable {P : Program} {w : World} {K : PySem.W.Frag} {mg : Str → Option Value} {base : Heap} {C : Addr}

/-!  _law_things: N = [(0, '_law_bag_here'), (1, '_law_kinds'), (2, '_law_many'), (3, '_law_found'), (4, '_law_base'), (5, '_law_k'), (6, '_law_number'), (7, '_law_thing')] -/
abbrev s_l_things : Stmt := topS 36
abbrev n_l_things : List Str := ["_law_bag_here", "_law_kinds", "_law_many", "_law_found", "_law_base", "_law_k", "_law_number", "_law_thing"]
theorem sc_l_things : FnScope n_l_things ["_law_bag_here", "_law_kinds", "_law_many"] (defScope s_l_things) := ⟨rfl, rfl, rfl, by decide +kernel, rfl, by decide +kernel, by decide +kernel⟩
def ThK (kinds : Nat) (t : Thing) : Prop := 0 ≤ t.1 ∧ t.1 < (kinds : Int) ∧ 0 ≤ t.2 ∧ t.2 ≤ 9999
def spThings : Sp := fun vs H Q _ => ∃ (b bl : Addr) (kinds many : Nat), vs = [.ref b, .int (kinds : Nat), .int (many : Nat)] ∧ Bag H b bl ∧ 1 ≤ kinds ∧ kinds ≤ 2 ∧ 2 ≤ many ∧ many ≤ 6 ∧
  ∀ l H' (ts : List Thing), Kp [b] H H' → Bag H' b bl → LsD H' l (ts.map dTh) → l ≠ b → ts ≠ [] → ts.length ≤ 6 → (∀ t ∈ ts, ThK kinds t) → Q (.ref l) H'
theorem ok_l_things {f : Addr} {fd : FuncData} (F : Fun K "_law_things" "_law_things" s_l_things f fd) (T : Txt K mg C) (c__law_take : Callee P w K mg base "_law_take" 1 ["_law_bag_here", "_law_upto"] spTake)
    (c__law_some : Callee P w K mg base "_law_some" 2 ["_law_bag_here", "_law_things_here"] spSome) :
    FnOk P w K mg base CX0 3 f fd ["_law_bag_here", "_law_kinds", "_law_many"] spThings := by
  refine F.ok sc_l_things (fun vs H Q E h => ?_) (fun cdv A outer s H vs Q E hr h => ?_)
  · obtain ⟨b, bl, kinds, many, rfl, _⟩ := h
    rfl
  · obtain ⟨b, bl, kinds, many, rfl, hB, kk1, kk2, m2, m6, q⟩ := h
    refine ⟨_, (pss_cons (ps_set (i := 3) sc_l_things.nd rfl (Or.inl rfl) (pe_lst pa_nil))
        (pss_cons (ps_set (i := 4) sc_l_things.nd rfl (Or.inl rfl) (pe_own c__law_some (hr.mono (by decide)) (by rfl) (pa_cons (pv 0) (pa_cons (pe_lst (pa_cons pe_int (pa_cons pe_int (pa_cons pe_int (pa_cons pe_int (pa_cons (pe_own c__law_take (hr.mono (by decide)) (by rfl) (pa_cons (pv 0) (pa_cons pe_int pa_nil))) pa_nil)))))) pa_nil))))
        (pss_cons (ps_for PassesOwn.never rfl (pi_range1 (by rfl) T.n_range (pa_cons (pv 2) pa_nil)) (pg_name (i := 5) sc_l_things.nd rfl (Or.inl rfl)) (pss_cons (ps_set (i := 6) sc_l_things.nd rfl (Or.inl rfl) (pe_own c__law_some (hr.mono (by decide)) (by rfl) (pa_cons (pv 0) (pa_cons (pe_lst (pa_cons (pe_op op_add (pv 4) (pv 5)) (pa_cons (pe_op op_sub pe_int (pv 5)) (pa_cons (pe_op op_add (pe_op op_mul pe_int (pv 5)) (pe_own c__law_take (hr.mono (by decide)) (by rfl) (pa_cons (pv 0) (pa_cons pe_int pa_nil)))) (pa_cons (pe_op op_add pe_int (pv 5)) pa_nil))))) pa_nil))))
          (pss_cons (ps_set (i := 7) sc_l_things.nd rfl (Or.inl rfl) (pe_tup (pa_cons (pe_own c__law_take (hr.mono (by decide)) (by rfl) (pa_cons (pv 0) (pa_cons (pv 1) pa_nil))) (pa_cons (pe_callB (call_min2 rfl) (by rfl) T.n_min bt_min (pa_cons (pv 6) (pa_cons pe_int pa_nil))) pa_nil))))
          (pss_one (ps_if (pt_cmpR (r := rNotInD K) (op_notInD (units65 hr)) (pv 7) (pv 3) rfl) (pss_one (ps_expr (pe_bm PySem.F.plainAttrs_list PySem.F.slot_list_append PySem.F.type_list_append mt_append (pv 3) (pa_cons (pv 7) pa_nil)))) pss_nil)))))
        (pss_one (ps_ret (pv 3)))))), ?_⟩
    refine ⟨Nat.zero_le _, fun fo hfo => ?_⟩
    have nfb := (hB.fresh hfo).1
    have nfl := (hB.fresh hfo).2
    have s0 := same_new (o := .lst []) hfo
    have B0 := hB.same s0
    refine ⟨_, rfl, _, rfl, b, bl, _, rfl, B0, by decide, by decide, fun v1 H1 v10 v11 k1 B1 => ?_⟩
    refine ⟨by show 5 ≤ sizeLine; decide, fun r hr' => ?_⟩
    have s1 := same_new (o := .lst [V.int 0, V.int 9, V.int 98, V.int 9990, V.int v1]) hr'
    refine ⟨b, bl, r, _, rfl, B1.same s1, upd_same, (B1.fresh hr').1, by simp, by simp, fun v H2 hv k2 B2 => ?_⟩
    obtain ⟨bs, rfl, bs0⟩ : ∃ bs, v = V.int bs ∧ 0 ≤ bs := by
      simp only [List.mem_cons, List.not_mem_nil, or_false] at hv
      rcases hv with h | h | h | h | h
      · exact ⟨_, h, by decide⟩
      · exact ⟨_, h, by decide⟩
      · exact ⟨_, h, by decide⟩
      · exact ⟨_, h, by decide⟩
      · exact ⟨_, h, v10⟩
    have k02 : Kp [b] H H2 := (Same.kp s0).trans (k1.trans ((Same.kp s1).trans k2))
    have hf2 := k2.one (s1 _ _ (k1.one (upd_same (H := H) (a := fo) (o := .lst [])) nfb)) nfb
    refine ⟨_, rfl, _, rfl, (by omega), (by omega), for_range (lo := 0) (n := ((many : Nat) : Int).toNat) (fun i σ H' => ∃ (v5 v6 v7 : Option V) (ts : List Thing), σ = [some (.ref b), some (.int (kinds : Nat)), some (.int (many : Nat)), some (.ref fo), some (.int bs), v5, v6, v7] ∧ Kp [b] H H' ∧ Bag H' b bl ∧ LsD H' fo (ts.map dTh) ∧ (1 ≤ i → ts ≠ []) ∧ ts.length ≤ i ∧ (∀ t ∈ ts, ThK kinds t))
      ⟨none, none, none, [], rfl, k02, B2, ⟨_, hf2, .nil⟩, (fun h => absurd h (by decide)), Nat.zero_le _, by simp⟩ ?_ ?_⟩
    · rintro i σ H3 hi ⟨v5, v6, v7, ts, rfl, k3, B3, hts, hne, hlen, hok⟩
      -- number
      refine ⟨_, rfl, _, rfl, _, rfl, _, _, rfl, rfl, ?_⟩
      refine ⟨_, rfl, _, _, rfl, rfl, ?_⟩
      refine ⟨_, rfl, _, _, rfl, rfl, .inl ⟨by decide, by decide⟩, ?_⟩
      refine ⟨_, rfl, b, bl, _, rfl, B3, by decide, by decide, fun v2 H4 v20 v21 k4 B4 => ?_⟩
      refine ⟨_, _, rfl, rfl, ?_⟩
      refine ⟨_, rfl, _, _, rfl, rfl, ?_⟩
      refine ⟨by show 4 ≤ sizeLine; decide, fun r2 hr2 => ?_⟩
      have s5 := same_new (o := .lst [V.int (bs + (0 + (i : Nat))), V.int (9999 - (0 + (i : Nat))), V.int (10 * (0 + (i : Nat)) + v2), V.int (5000 + (0 + (i : Nat)))]) hr2
      refine ⟨b, bl, r2, _, rfl, B4.same s5, upd_same, (B4.fresh hr2).1, by simp, by simp, fun v H5 hv k5 B5 => ?_⟩
      obtain ⟨n, rfl, n0⟩ : ∃ n, v = V.int n ∧ 0 ≤ n := by
        simp only [List.mem_cons, List.not_mem_nil, or_false] at hv
        rcases hv with h | h | h | h
        · exact ⟨_, h, by omega⟩
        · exact ⟨_, h, by omega⟩
        · exact ⟨_, h, by omega⟩
        · exact ⟨_, h, by omega⟩
      -- thing
      refine ⟨_, rfl, _, rfl, b, bl, _, rfl, B5, by omega, by omega, fun kd H6 kd0 kd1 k6 B6 => ?_⟩
      refine ⟨_, rfl, _, _, rfl, ?_⟩
      refine ⟨by show 2 ≤ sizeLine; decide, fun t ht => ?_⟩
      have s7 := same_new (o := .tup [V.int kd, V.int (if (9999 : Int) < n then 9999 else n)]) ht
      have k37 : Kp [b] H3 _ := (k4.trans ((Same.kp s5).trans (k5.trans k6))).trans (Same.kp s7)
      have B7 := B6.same s7
      have it : Im _ (.ref t) (dTh (kd, if (9999 : Int) < n then 9999 else n)) := im_th (H := upd H6 t (.tup [V.int kd, V.int (if (9999 : Int) < n then 9999 else n)])) upd_same
      have hts7 := hts.kp B3 k37 nfb
      have tok : ThK kinds (kd, if (9999 : Int) < n then 9999 else n) := ⟨kd0, kd1, by show (0 : Int) ≤ if (9999 : Int) < n then 9999 else n; split <;> omega, by show (if (9999 : Int) < n then (9999 : Int) else n) ≤ 9999; split <;> omega⟩
      have k7 : Kp [b] H _ := k3.trans k37
      -- if thing not in found
      obtain ⟨tvs, htv, htim⟩ := id hts7
      refine ⟨_, rfl, _, rfl, _, _, it.dp, .lst (SqL.of htv) htim.dp, shaped_th _, shaped_ths ts, _, rfl, ?_⟩
      refine ite2 (fun hc => ?_) (fun hc => ?_)
      · refine ⟨_, rfl, .inl ⟨rfl, _, SqL.of htv⟩, ?_⟩
        refine ⟨_, rfl, fo, _, _, rfl, rfl, htv, ?_, ?_⟩
        · rw [htim.len, List.length_map]
          exact small5 (by omega)
        refine ⟨_, _, _, ts ++ [(kd, if (9999 : Int) < n then 9999 else n)], rfl, k7.nw hfo, B7.wr nfb nfl, ?_, fun _ => by simp, ?_, ?_⟩
        · rw [List.map_append, List.map_singleton]
          exact lsD_snoc htv htim it
        · rw [List.length_append, List.length_singleton]
          omega
        · intro u hu
          rcases List.mem_append.mp hu with h | h
          · exact hok u h
          · rw [List.mem_singleton.mp h]
            exact tok
      · refine ⟨_, _, _, ts, rfl, k7, B7, hts7, fun _ e => ?_, by omega, hok⟩
        subst e
        exact hc rfl
    · rintro σ H3 ⟨v5, v6, v7, ts, rfl, k3, B3, hts, hne, hlen, hok⟩
      exact ⟨_, rfl, q _ _ ts k3 B3 hts nfb (hne (by omega)) (by omega) hok⟩
end
end Own

namespace Own
open PySem PySem.Spec PyProof.Rows L2
theorem lay_ints : ∀ o : List Int, PyData.canLayAll0 (o.map PyData.int) = true
  | [] => by simp [PyData.canLayAll0]
  | t :: o => by
    rw [List.map_cons, PyData.canLayAll0, lay_ints o]
    simp [PyData.canLay0]
theorem depth_ints : ∀ o : List Int, PyData.depthAll (o.map PyData.int) = 0
  | [] => by simp [PyData.depthAll]
  | t :: o => by
    rw [List.map_cons, PyData.depthAll, depth_ints o]
    simp [PyData.depth]
theorem shaped_ints (o : List Int) : SeqAt.shaped (.list (o.map PyData.int)) = true := by
  have := depth_ints o
  have e : (PyData.list (o.map PyData.int)).depth = PyData.depthAll (o.map PyData.int) + 1 := by simp [PyData.depth]
  simp only [SeqAt.shaped, PyData.canLay0, lay_ints, Bool.true_and, decide_eq_true_eq]
  omega
theorem eqv_nil (o : List Int) : PyData.eqv (.list (o.map PyData.int)) (.list []) = o.isEmpty := by
  cases o with
  | nil => simp [PyData.eqv, PyData.eqvAll]
  | cons t o => simp [PyData.eqv, PyData.eqvAll]
section
variable {P : Program} {w : World} {K : PySem.W.Frag} {mg : Str → Option Value} {base : Heap} {C : Addr}

/-!  _law_onward: N = [(0, '_law_bag_here'), (1, '_law_machine_here'), (2, '_law_there'), (3, '_law_things_here'), (4, '_law_thing'), (5, '_law_entries'), (6, '_law_let'), (7, '_law_deed')] -/
abbrev s_l_onward : Stmt := topS 37
abbrev n_l_onward : List Str := ["_law_bag_here", "_law_machine_here", "_law_there", "_law_things_here", "_law_thing", "_law_entries", "_law_let", "_law_deed"]
theorem sc_l_onward : FnScope n_l_onward ["_law_bag_here", "_law_machine_here", "_law_there", "_law_things_here"] (defScope s_l_onward) := ⟨rfl, rfl, rfl, by decide +kernel, rfl, by decide +kernel, by decide +kernel⟩
def spOnward : Sp := fun vs H Q _ => ∃ (b bl a l : Addr) (m : V) (M : Mach) (th : Figs) (n : Nat) (ts : List Thing), vs = [.ref b, m, .ref a, .ref l] ∧ Bag H b bl ∧ M.Ok ∧ Im H m (dMach M) ∧ DcT H a th n ∧ a ≠ b ∧ LsD H l (ts.map dTh) ∧ l ≠ b ∧ ts ≠ [] ∧ ts.length ≤ 6 ∧ (∀ t ∈ ts, InKinds M t) ∧ (∀ t f, th t = some f → FigW M f) ∧
  ∀ p y H' d t, Kp [b] H H' → Bag H' b bl → H' p = some (.tup [.int d, y]) → Im H' y (dTh t) → Lets M th d t → Q (.ref p) H'
theorem ok_l_onward {f : Addr} {fd : FuncData} (F : Fun K "_law_onward" "_law_onward" s_l_onward f fd) (T : Txt K mg C) (c__law_take : Callee P w K mg base "_law_take" 1 ["_law_bag_here", "_law_upto"] spTake)
    (c__law_some : Callee P w K mg base "_law_some" 2 ["_law_bag_here", "_law_things_here"] spSome) :
    FnOk P w K mg base CX0 3 f fd ["_law_bag_here", "_law_machine_here", "_law_there", "_law_things_here"] spOnward := by
  refine F.ok sc_l_onward (fun vs H Q E h => ?_) (fun cdv A outer s H vs Q E hr h => ?_)
  · obtain ⟨b, bl, a, l, m, M, th, n, ts, rfl, _⟩ := h
    rfl
  · obtain ⟨b, bl, a, l, m, M, th, n, ts, rfl, hB, ok, hm, hd, nab, hts, nlb, hne, hlen, hin, fw, q⟩ := h
    have hu := hu_of hr
    refine ⟨_, (pss_cons (ps_set (i := 4) sc_l_onward.nd rfl (Or.inl rfl) (pe_own c__law_some (hr.mono (by decide)) (by rfl) (pa_cons (pv 0) (pa_cons (pv 3) pa_nil))))
        (pss_cons (ps_if (pt_cmp (pc_dnotin hu (pv 4) (pv 2))) (pss_one (ps_ret (pe_tup (pa_cons pe_int (pa_cons (pv 4) pa_nil))))) pss_nil)
        (pss_cons (ps_set (i := 5) sc_l_onward.nd rfl (Or.inr rfl) (pe_ix (r := rIxT K) ix_tup (pe_ix (r := rIxT K) ix_tup (pv 1) pe_int (fun _ _ => rfl)) (pe_ix (r := rIxT K) ix_tup (pe_dget hu (pv 2) (pv 4) (fun _ _ => rfl)) pe_int (fun _ _ => rfl)) (fun _ _ => rfl)))
        (pss_cons (ps_setLc (i := 6) (own := [("_law_deed", 7)]) rfl sc_l_onward.nd rfl rfl (sw_true rfl rfl rfl (by decide +kernel)) (pi_range1 (by rfl) T.n_range (pa_cons (pe_callB call_len_seq (by rfl) T.n_len bt_len (pa_cons (pv 5) pa_nil)) pa_nil)) (blkOk_by (own := [("_law_deed", 7)]) (N := n_l_onward) (sc := defScope s_l_onward) (by decide +kernel)) (fun _ _ _ _ _ => (pg_name (i := 7) sc_l_onward.nd rfl (Or.inl rfl))) (fun _ _ _ _ _ => (pts_one (pt_cmpR op_notN (pe_ix (r := rIxT K) ix_tup (pv 5) (pv 7) (fun _ _ => rfl)) pe_non (nomark _)))) (fun _ _ _ _ _ => (pe_op op_add (pv 7) pe_int)))
        (pss_cons (ps_if (PW.pt (pw_or (pt_cmpR (r := rEqD K) (op_eqD hr.units) (pv 6) (pe_lst pa_nil) (nomark _)) (pw_or1 (pt_cmpR op_eq (pe_own c__law_take (hr.mono (by decide)) (by rfl) (pa_cons (pv 0) (pa_cons pe_int pa_nil))) pe_int (nomark _))))) (pss_one (ps_ret (pe_tup (pa_cons (pe_un un_neg pe_int) (pa_cons (pv 4) pa_nil))))) pss_nil)
        (pss_one (ps_ret (pe_tup (pa_cons (pe_own c__law_some (hr.mono (by decide)) (by rfl) (pa_cons (pv 0) (pa_cons (pv 6) pa_nil))) (pa_cons (pv 4) pa_nil)))))))))), ?_⟩
    obtain ⟨tvs, htv, htim⟩ := id hts
    have hvl : tvs.length = ts.length := by rw [htim.len, List.length_map]
    refine ⟨_, rfl, _, rfl, b, bl, l, tvs, rfl, hB, htv, nlb, ?_, by omega, fun v H1 hv k1 B1 => ?_⟩
    · intro e
      rw [e] at hvl
      exact hne (List.length_eq_zero_iff.mp hvl.symm)
    obtain ⟨dd, hdd, hx0⟩ := htim.mem hv
    obtain ⟨t, ht, rfl⟩ := List.mem_map.mp hdd
    have hx := hx0.tk (hB.tk k1)
    have hd1 := hd.keep (fun o e => k1.one e nab) (hB.tk k1)
    have hm1 := hm.tk (hB.tk k1)
    have kd := hin t ht
    cases hf : th t with
    | none =>
      refine ⟨_, rfl, _, rfl, a, none, rfl, hd1.not hx hf, _, rfl, iteT ?_⟩
      refine ⟨_, rfl, by show 2 ≤ sizeLine; decide, fun p hp => ?_⟩
      have s1 := same_new (o := .tup [V.int 0, v]) hp
      exact q p v _ 0 t (k1.trans (Same.kp s1)) (B1.same s1) upd_same (hx.tk (Same.tk s1)) ⟨kd, by omega, by omega, fun _ => hf, fun h => absurd rfl h, fun h => absurd h (by decide)⟩
    | some g =>
      obtain ⟨y, hy1, hy2⟩ := hd1.got hx hf
      have w' := fw t g hf
      obtain ⟨g1, g2⟩ := mvs_at ok w'.1
      have hdd3 := ok.dd
      refine ⟨_, rfl, _, rfl, a, some y, rfl, hy1, _, rfl, iteF ?_⟩
      -- entries
      refine ⟨_, rfl, ixC 2 (by rfl) hm1 rfl fun v2 e2 => ?_⟩
      refine ⟨_, rfl, _, rfl, a, y, rfl, hy1, ixC 0 (by rfl) hy2 rfl fun v3 e3 => ?_⟩
      cases e3.int_eq
      refine ixT g.1 (by rfl) e2 g1 fun v4 e4 => ?_
      obtain ⟨ea, evs, rfl, hea, her⟩ := id e4.inv
      have hel : evs.length = deedsOf M := by rw [her.len, List.length_map, g2]
      -- let
      refine ⟨_, rfl, ea, evs, rfl, .inr (SqT.of hea), _, rfl, by omega, by omega, fun D hD => ?_⟩
      have nDb := (B1.fresh hD).1
      let lt_ : Nat → List Int := fun i => ((List.range i).filter fun j => (mvAt M g.1 j).isSome).map fun j : Nat => ((j : Nat) : Int) + 1
      refine lc_range (lo := 0) (n := ((evs.length : Nat) : Int).toNat) (fun i H' => Same H1 H' ∧ H' D = some (.lst ((lt_ i).map V.int))) ⟨same_new hD, upd_same⟩ ?_ ?_
      · rintro i H' hi ⟨s1, h1⟩
        refine ⟨rfl, ?_⟩
        have hii : i < (M.moves.getD g.1 []).length := by omega
        refine ⟨_, rfl, _, rfl, ixT i (by omega) (e4.tk (Same.tk s1)) (mv_at hii) fun v6 e6 => ?_⟩
        cases hmv : mvAt M g.1 i with
        | none =>
          rw [hmv] at e6
          cases e6.non_eq
          refine ⟨rfl, _, rfl, ?_⟩
          refine iteNo (by simp) ?_
          refine ⟨s1, ?_⟩
          show H' D = some (.lst ((((List.range (i + 1)).filter fun j => (mvAt M g.1 j).isSome).map fun j : Nat => ((j : Nat) : Int) + 1).map V.int))
          rw [List.range_succ, List.filter_append, List.filter_cons_of_neg (by rw [hmv]; decide), List.filter_nil, List.append_nil]
          exact h1
        | some mv =>
          rw [hmv] at e6
          obtain ⟨a6, xs6, rfl, _, _⟩ := e6.inv
          refine ⟨rfl, _, rfl, ?_⟩
          refine iteYes (by simp) ?_
          refine ⟨_, rfl, _, _, rfl, rfl, _, h1, ?_, fun c o e => ?_, ?_⟩
          · rw [List.length_map, List.length_map]
            have := List.length_filter_le (fun j => (mvAt M g.1 j).isSome) (List.range i)
            rw [List.length_range] at this
            exact small5 (by omega)
          · rw [upd_ne (ne_of_none e hD)]
            exact s1 _ _ e
          · show _ = some (HO.lst ((((List.range (i + 1)).filter fun j => (mvAt M g.1 j).isSome).map fun j : Nat => ((j : Nat) : Int) + 1).map V.int))
            rw [upd_same, List.range_succ, List.filter_append, List.filter_cons_of_pos (by rw [hmv]; rfl), List.filter_nil, List.map_append, List.map_append]
            show some (HO.lst (_ ++ [V.int ((0 : Int) + ((i : Nat) : Int) + 1)])) = some (HO.lst (_ ++ [V.int (((i : Nat) : Int) + 1)]))
            rw [show (0 : Int) + ((i : Nat) : Int) = ((i : Nat) : Int) by omega]
      · rintro H' ⟨s1, h1⟩
        have hls : ∀ d ∈ lt_ ((evs.length : Nat) : Int).toNat, 1 ≤ d ∧ d ≤ deedsOf M ∧ ∃ mv, mvAt M g.1 (d - 1).toNat = some mv := fun d hd' => by
          obtain ⟨j, hj, rfl⟩ := List.mem_map.mp hd'
          obtain ⟨j1, j2⟩ := List.mem_filter.mp hj
          have j3 := List.mem_range.mp j1
          refine ⟨by omega, by omega, ?_⟩
          rw [show (((j : Nat) : Int) + 1 - 1).toNat = j by omega]
          exact Option.isSome_iff_exists.mp j2
        have hll : (lt_ ((evs.length : Nat) : Int).toNat).length ≤ 3 := by
          show (((List.range _).filter fun j => (mvAt M g.1 j).isSome).map fun j : Nat => ((j : Nat) : Int) + 1).length ≤ 3
          rw [List.length_map]
          have := List.length_filter_le (fun j => (mvAt M g.1 j).isSome) (List.range ((evs.length : Nat) : Int).toNat)
          rw [List.length_range] at this
          omega
        generalize lt_ ((evs.length : Nat) : Int).toNat = ls at h1 hls hll
        have B2 := B1.same s1
        have hx2 := hx.tk (Same.tk s1)
        have retm : ∀ H3, Kp [b] H' H3 → Bag H3 b bl → Im H3 v (dTh t) → (2 : Nat) ≤ sizeLine ∧ ∀ p, H3 p = none → Q (.ref p) (upd H3 p (.tup [V.int (-1), v])) := fun H3 k3 B3 hx3 => by
          refine ⟨by decide, fun p hp => ?_⟩
          have s4 := same_new (o := .tup [V.int (-1), v]) hp
          exact q p v _ (-1) t (k1.trans ((Same.kp s1).trans (k3.trans (Same.kp s4)))) (B3.same s4) upd_same (hx3.tk (Same.tk s4)) ⟨kd, by omega, by omega, fun h => absurd h (by decide), fun _ => ⟨g, hf⟩, fun h => absurd h (by decide)⟩
        -- if let == [] or take(bag, 9) == 0
        refine ⟨_, rfl, Nat.zero_le _, fun z hz => ?_⟩
        have s3 := same_new (o := .lst []) hz
        have h3 := s3 _ _ h1
        refine ⟨_, _, .lst (SqL.of h3) (ImAll.ints ls).dp, .lst (SqL.of upd_same) .nil, shaped_ints ls, shaped_ints [], _, rfl, ?_⟩
        by_cases hle : ls = []
        · refine iteYes (by rw [eqv_nil, hle]; rfl) ?_
          refine iteT ?_
          exact ⟨_, rfl, _, rfl, retm _ (Same.kp s3) (B2.same s3) (hx2.tk (Same.tk s3))⟩
        · refine iteNo (by rw [eqv_nil]; cases ls with | nil => exact absurd rfl hle | cons _ _ => rfl) ?_
          refine ⟨_, rfl, b, bl, _, rfl, B2.same s3, by decide, by decide, fun v9 H4 v90 v91 k4 B4 => ?_⟩
          have kt : Kp [b] H' H4 := (Same.kp s3).trans k4
          have hx4 := hx2.tk (B2.tk kt)
          refine ⟨rfl, _, rfl, ?_⟩
          refine ite2 (fun hc => ?_) (fun hc => ?_)
          · exact ⟨_, rfl, _, rfl, retm _ kt B4 hx4⟩
          · have h4 := kt.one h1 nDb
            refine ⟨_, rfl, _, rfl, b, bl, D, _, rfl, B4, h4, nDb, by simp [hle], by rw [List.length_map]; omega, fun v5 H5 hv5 k5 B5 => ?_⟩
            obtain ⟨d, hdl, rfl⟩ := List.mem_map.mp hv5
            obtain ⟨d1, d2, mv, d3⟩ := hls d hdl
            refine ⟨_, rfl, by show 2 ≤ sizeLine; decide, fun p hp => ?_⟩
            have s6 := same_new (o := .tup [V.int d, v]) hp
            exact q p v _ d t (k1.trans ((Same.kp s1).trans (kt.trans (k5.trans (Same.kp s6))))) (B5.same s6) upd_same ((hx4.tk (B4.tk k5)).tk (Same.tk s6)) ⟨kd, by omega, d2, fun h => by omega, fun _ => ⟨g, hf⟩, fun _ => ⟨g, mv, hf, d3⟩⟩
end
end Own

namespace Own
open PySem PySem.Spec PyProof.Rows L2
theorem thAt_app {M : Mach} {run x : Run} : ∀ j, j ≤ run.length → thAt M (run ++ x) j = thAt M run j
  | 0, _ => rfl
  | j + 1, h => by
    have ih := thAt_app (M := M) (run := run) (x := x) j (by omega)
    show (match (run ++ x)[j]? with | none => thAt M (run ++ x) j | some (d, t) => putT (thAt M (run ++ x) j) t (nxt M (thAt M (run ++ x) j) (j : Nat) d t)) = (match run[j]? with | none => thAt M run j | some (d, t) => putT (thAt M run j) t (nxt M (thAt M run j) (j : Nat) d t))
    rw [List.getElem?_append_left (by omega), ih]
theorem Valid.snoc {M : Mach} {run : Run} {d : Int} {t : Thing} (v : Valid M run) (l : Lets M (thAt M run run.length) d t) : Valid M (run ++ [(d, t)]) := by
  intro i d' t' h
  by_cases e : i < run.length
  · rw [List.getElem?_append_left e] at h
    rw [thAt_app i (by omega)]
    exact v i d' t' h
  · rw [List.getElem?_append_right (by omega)] at h
    have e0 : i - run.length = 0 := by
      cases q : i - run.length with
      | zero => rfl
      | succ k => rw [q] at h; cases h
    rw [e0] at h
    injection h with h
    cases h
    have ei : i = run.length := by omega
    subst ei
    rw [thAt_app _ (Nat.le_refl _)]
    exact l
theorem thAt_snoc {M : Mach} {run : Run} {d : Int} {t : Thing} : thAt M (run ++ [(d, t)]) (run.length + 1) = putT (thAt M run run.length) t (nxt M (thAt M run run.length) (run.length : Nat) d t) := by
  have h : (run ++ [(d, t)])[run.length]? = some (d, t) := List.getElem?_concat_length
  rw [thAt_succ h, thAt_app _ (Nat.le_refl _)]
theorem Kp.aft {S : List Addr} {H H1 H2 : Hp} {a : Addr} (k : Kp S H H1) (k2 : Kp [a] H1 H2) (ha : H a = none) : Kp S H H2 := fun c o e n => k2 _ _ (k c o e n) (by
  rw [List.mem_singleton]
  exact ne_of_none e ha)
section
variable {P : Program} {w : World} {K : PySem.W.Frag} {mg : Str → Option Value} {base : Heap} {C : Addr}

/-!  _law_run: N = [(0, '_law_bag_here'), (1, '_law_machine_here'), (2, '_law_things_here'), (3, '_law_many'), (4, '_law_there'), (5, '_law_run_here'), (6, '_law_now'), (7, '_law_deed'), (8, '_law_thing')] -/
abbrev s_l_run : Stmt := topS 38
abbrev n_l_run : List Str := ["_law_bag_here", "_law_machine_here", "_law_things_here", "_law_many", "_law_there", "_law_run_here", "_law_now", "_law_deed", "_law_thing"]
theorem sc_l_run : FnScope n_l_run ["_law_bag_here", "_law_machine_here", "_law_things_here", "_law_many"] (defScope s_l_run) := ⟨rfl, rfl, rfl, by decide +kernel, rfl, by decide +kernel, by decide +kernel⟩
def spRun : Sp := fun vs H Q _ => ∃ (b bl l : Addr) (m : V) (M : Mach) (ts : List Thing) (many : Nat), vs = [.ref b, m, .ref l, .int (many : Nat)] ∧ Bag H b bl ∧ M.Ok ∧ Im H m (dMach M) ∧ LsD H l (ts.map dTh) ∧ l ≠ b ∧ ts ≠ [] ∧ ts.length ≤ 6 ∧ (∀ t ∈ ts, InKinds M t) ∧ many ≤ 20 ∧
  ∀ r H' run, Kp [b] H H' → Bag H' b bl → LsD H' r (run.map dRn) → r ≠ b → Valid M run → run.length ≤ 20 → Q (.ref r) H'
theorem ok_l_run {f : Addr} {fd : FuncData} (F : Fun K "_law_run" "_law_run" s_l_run f fd) (T : Txt K mg C) (c__law_step : Callee P w K mg base "_law_step" 1 ["_law_machine_here", "_law_there", "_law_now", "_law_deed", "_law_thing"] spStep)
    (c__law_onward : Callee P w K mg base "_law_onward" 3 ["_law_bag_here", "_law_machine_here", "_law_there", "_law_things_here"] spOnward) :
    FnOk P w K mg base CX0 4 f fd ["_law_bag_here", "_law_machine_here", "_law_things_here", "_law_many"] spRun := by
  refine F.ok sc_l_run (fun vs H Q E h => ?_) (fun cdv A outer s H vs Q E hr h => ?_)
  · obtain ⟨b, bl, l, m, M, ts, many, rfl, _⟩ := h
    rfl
  · obtain ⟨b, bl, l, m, M, ts, many, rfl, hB, ok, hm, hts, nlb, hne, hlen, hin, hmany, q⟩ := h
    refine ⟨_, (pss_cons (ps_par (i := 4) (j := 5) (by rfl) sc_l_run.nd rfl rfl (by decide) rfl rfl (pa_cons pe_dnewT (pa_cons (pe_lst pa_nil) pa_nil)) (by rfl))
        (pss_cons (ps_for PassesOwn.never rfl (pi_range1 (by rfl) T.n_range (pa_cons (pv 3) pa_nil)) (pg_name (i := 6) sc_l_run.nd rfl (Or.inl rfl)) (pss_cons (ps_asg (pe_own c__law_onward (hr.mono (by decide)) (by rfl) (pa_cons (pv 0) (pa_cons (pv 1) (pa_cons (pv 4) (pa_cons (pv 2) pa_nil))))) (pg_tup rfl (pgs_cons (pg_name (i := 7) sc_l_run.nd rfl (Or.inl rfl)) (pgs_cons (pg_name (i := 8) sc_l_run.nd rfl (Or.inl rfl)) pgs_nil))))
          (pss_cons (ps_expr (pe_own c__law_step (hr.mono (by decide)) (by rfl) (pa_cons (pv 1) (pa_cons (pv 4) (pa_cons (pv 6) (pa_cons (pv 7) (pa_cons (pv 8) pa_nil)))))))
          (pss_one (ps_expr (pe_bm PySem.F.plainAttrs_list PySem.F.slot_list_append PySem.F.type_list_append mt_append (pv 5) (pa_cons (pe_tup (pa_cons (pv 7) (pa_cons (pv 8) pa_nil))) pa_nil)))))))
        (pss_one (ps_ret (pv 5))))), ?_⟩
    -- there, run = {}, []
    refine fun a ha => ⟨Nat.zero_le _, fun r hr' => ⟨_, _, rfl, ?_⟩⟩
    have s1 : Same H (upd (upd H a (.dT [])) r (.lst [])) := (same_new ha).trans (same_new hr')
    have nar : a ≠ r := fun e => by rw [← e, upd_same] at hr'; cases hr'
    have hr0 : H r = none := (same_new (o := .dT []) ha).free hr'
    obtain ⟨nab, nal⟩ := hB.fresh ha
    obtain ⟨nrb, nrl⟩ := hB.fresh hr0
    refine ⟨_, rfl, _, rfl, (by omega), (by omega), for_range (lo := 0) (n := ((many : Nat) : Int).toNat) (fun i σ H' => ∃ (v6 v7 v8 : Option V) (run : Run), σ = [some (.ref b), some m, some (.ref l), some (.int (many : Nat)), some (.ref a), some (.ref r), v6, v7, v8] ∧ Kp [b] H H' ∧ Bag H' b bl ∧
      DcT H' a (thAt M run i) i ∧ LsD H' r (run.map dRn) ∧ run.length = i ∧ Valid M run) ⟨none, none, none, [], rfl, Same.kp s1, hB.same s1, DcT.nil (by rw [upd_ne nar, upd_same]) 0, ⟨[], upd_same, .nil⟩, rfl, fun i d t h => by cases h⟩ ?_ ?_⟩
    · rintro i σ H' hi ⟨v6, v7, v8, run, rfl, k', B', dT, lR, hrl, v⟩
      have t' := hB.tk k'
      have hm' := hm.tk t'
      have fw : ∀ t f, thAt M run i t = some f → FigW M f := fit_at ok v i
      refine ⟨_, rfl, _, rfl, _, rfl, _, rfl, b, bl, a, l, m, M, _, i, ts, rfl, B', ok, hm', dT, nab, hts.kp hB k' nlb, nlb, hne, hlen, hin, fw, fun p y H3 d t k3 B3 hp hy L => ?_⟩
      refine ⟨p, _, rfl, SqT.of hp, rfl, _, _, rfl, _, _, rfl, rfl, ?_⟩
      have dT3 := dT.keep (fun o e => k3.one e nab) (B'.tk k3)
      refine ⟨_, rfl, _, rfl, _, rfl, _, rfl, _, rfl, m, y, a, d, 0 + ((i : Nat) : Int), M, t, _, i, rfl, ok, hm'.tk (B'.tk k3), hy, dT3, by omega, L, fw t, fun H4 k4 t4 d4 => ?_⟩
      rw [show (0 : Int) + ((i : Nat) : Int) = ((run.length : Nat) : Int) by omega, ← hrl, ← thAt_snoc, hrl] at d4
      have B4 : Bag H4 b bl := B3.keep (fun o e => k4 _ _ e (by simpa using nab.symm)) (fun o e => k4 _ _ e (by simpa using nal.symm))
      have lR3 := lR.kp B' k3 nrb
      obtain ⟨rvs, hrv, hrim⟩ := lR3.keep (fun o e => k4 _ _ e (by simpa using nar.symm)) t4
      refine ⟨_, rfl, .inl ⟨rfl, _, SqL.of hrv⟩, ?_⟩
      refine ⟨_, rfl, _, rfl, by show 2 ≤ sizeLine; decide, fun p2 hp2 => ?_⟩
      have s5 := same_new (o := .tup [V.int d, y]) hp2
      have h5 := s5 _ _ hrv
      refine ⟨r, _, _, rfl, rfl, h5, ?_, ?_⟩
      · rw [hrim.len, List.length_map]
        exact small5 (by omega)
      refine ⟨some (.int (0 + (i : Nat))), some (.int d), some y, run ++ [(d, t)], rfl, ?_, (B4.same s5).wr nrb nrl, ?_, ?_, ?_, v.snoc (by rw [hrl]; exact L)⟩
      · exact (((k'.trans k3).aft k4 ha).trans (Same.kp s5)).nw hr0
      · refine (d4.keep (fun o e => s5 _ _ e) (Same.tk s5)).keep (fun o e => by rw [upd_ne nar]; exact e) (tk_upd fun xs e => by rw [h5] at e; cases e)
      · rw [List.map_append, List.map_singleton]
        exact lsD_snoc h5 (hrim.tk (Same.tk s5)) (im2 (x := .int d) (y := y) upd_same (.int _) (hy.tk (t4.trans (Same.tk s5))))
      · rw [List.length_append, List.length_singleton, hrl]
    · rintro σ H' ⟨v6, v7, v8, run, rfl, k', B', dT, lR, hrl, v⟩
      exact ⟨_, rfl, q _ _ run k' B' lR nrb v (by omega)⟩
end
end Own

namespace Own
open PySem PySem.Spec PyProof.Rows L2
theorem lay_run : ∀ o : Run, PyData.canLayAll0 (o.map dRn) = true
  | [] => by simp [PyData.canLayAll0]
  | t :: o => by
    rw [List.map_cons, PyData.canLayAll0, lay_run o]
    unfold dRn dTh
    simp [PyData.canLay0, PyData.canLayAll0]
theorem depth_run : ∀ o : Run, PyData.depthAll (o.map dRn) ≤ 2
  | [] => by simp [PyData.depthAll]
  | t :: o => by
    rw [List.map_cons, PyData.depthAll]
    have := depth_run o
    have e : (dRn t).depth = 2 := by
      unfold dRn dTh
      simp [PyData.depth, PyData.depthAll]
    omega
theorem shaped_run (o : Run) : SeqAt.shaped (.list (o.map dRn)) = true := by
  have := depth_run o
  have e : (PyData.list (o.map dRn)).depth = PyData.depthAll (o.map dRn) + 1 := by simp [PyData.depth]
  simp only [SeqAt.shaped, PyData.canLay0, lay_run, Bool.true_and, decide_eq_true_eq]
  omega
theorem eqv_run (o : Run) : PyData.eqv (.list (o.map dRn)) (.list (o.map dRn)) = true := SeqAt.eqv_refl _ (SeqAt.canLay_of_shaped (shaped_run o))
theorem im_beg {H : Hp} {a : Addr} {ns : List Nat} (h : H a = some (.tup (lvV ns))) : Im H (.ref a) (dBeg ns) := im_ns (by rw [← lvV_eq]; exact h)
theorem rgV_lv (n : Nat) : rgV 0 ((n : Nat) : Int) = lvV (List.range n) := by
  rw [rg_ints, List.map_map]
  apply List.map_congr_left
  intro i _
  show V.int ((0 : Int) + ((i : Nat) : Int)) = V.int ((i : Nat) : Int)
  rw [show (0 : Int) + ((i : Nat) : Int) = ((i : Nat) : Int) by omega]
/-- a run as drawn, its machine, and the bag -/
structure Dr (H : Hp) (b bl r : Addr) (m : V) (M : Mach) (run : Run) : Prop where
  B : Bag H b bl
  ok : M.Ok
  hm : Im H m (dMach M)
  lR : LsD H r (run.map dRn)
  nr : r ≠ b
  v : Valid M run
  len : run.length ≤ 20
theorem Dr.keep {H H' : Hp} {b bl r : Addr} {m : V} {M : Mach} {run : Run} (D : Dr H b bl r m M run) (k : Kp [b] H H') (B' : Bag H' b bl) : Dr H' b bl r m M run :=
  ⟨B', D.ok, D.hm.tk (D.B.tk k), D.lR.kp D.B k D.nr, D.nr, D.v, D.len⟩
section
variable {P : Program} {w : World} {K : PySem.W.Frag} {mg : Str → Option Value} {base : Heap} {C : Addr}

/-!  law: N = [(0, '_law_script'), (1, '_law_bag_here'), (2, '_law_machine_here'), (3, '_law_run_here'), (4, '_law_said'), (5, '_law_some_here'), (6, '_law_more'), (7, '_law_rows'), (8, '_law_found'), (9, '_law_stops'), (10, '_law_many'), (11, '_law_k'), (12, '_law_now')] -/
abbrev s_law : Stmt := topS 43
abbrev n_law : List Str := ["_law_script", "_law_bag_here", "_law_machine_here", "_law_run_here", "_law_said", "_law_some_here", "_law_more", "_law_rows", "_law_found", "_law_stops", "_law_many", "_law_k", "_law_now"]
theorem sc_law : FnScope n_law ["_law_script"] (defScope s_law) := ⟨rfl, rfl, rfl, by decide +kernel, rfl, by decide +kernel, by decide +kernel⟩
def spLaw (K : PySem.W.Frag) : Sp := fun vs H Q _ => ∃ (a : Addr) (ns : List Int), vs = [.ref a] ∧ SqL K H a (ns.map V.int) ∧ ns.length ≤ 63 ∧ ∀ H', Q (.bl true) H'
theorem ok_law {f : Addr} {fd : FuncData} (F : Fun K "law" "law" s_law f fd) (T : Txt K mg C)
    (c__law_bag : Callee P w K mg base "_law_bag" 1 ["_law_script"] (spBag K))
    (c__law_take : Callee P w K mg base "_law_take" 1 ["_law_bag_here", "_law_upto"] spTake)
    (c__law_machine : Callee P w K mg base "_law_machine" 5 ["_law_bag_here", "_law_kinds", "_law_most", "_law_deeds", "_law_rows", "_law_wide"] spMachine)
    (c__law_things : Callee P w K mg base "_law_things" 3 ["_law_bag_here", "_law_kinds", "_law_many"] spThings)
    (c__law_run : Callee P w K mg base "_law_run" 4 ["_law_bag_here", "_law_machine_here", "_law_things_here", "_law_many"] spRun)
    (c_turns_by : Callee P w K mg base "turns_by" 6 ["machine", "run", "stops"] spTurns)
    (c__law_turns : Callee P w K mg base "_law_turns" 3 ["_law_machine_here", "_law_run_here", "_law_stops"] spTurns)
    (c__law_by_hand : Callee P w K mg base "_law_by_hand" 6 ["_law_machine_here", "_law_run_here", "_law_stops"] spTurns)
    (c__law_alike : Callee P w K mg base "_law_alike" 1 ["_law_found", "_law_due"] spAlike) :
    FnOk P w K mg base CX0 7 f fd ["_law_script"] (spLaw K) := by
  refine F.ok sc_law (fun vs H Q E h => ?_) (fun cdv A outer s H vs Q E hr h => ?_)
  · obtain ⟨a, ns, rfl, _⟩ := h
    rfl
  · obtain ⟨a, ns, rfl, hS, hlen, q⟩ := h
    refine ⟨_, (pss_cons (ps_set (i := 1) sc_law.nd rfl (Or.inr rfl) (pe_own c__law_bag (hr.mono (by decide)) (by rfl) (pa_cons (pv 0) pa_nil))) (pss_cons (ps_set (i := 2) sc_law.nd rfl (Or.inl rfl) (pe_own c__law_machine (hr.mono (by decide)) (by rfl) (pa_cons (pv 1) (pa_cons (pe_op op_add pe_int (pe_own c__law_take (hr.mono (by decide)) (by rfl) (pa_cons (pv 1) (pa_cons pe_int pa_nil)))) (pa_cons pe_int (pa_cons (pe_own c__law_take (hr.mono (by decide)) (by rfl) (pa_cons (pv 1) (pa_cons pe_int pa_nil))) (pa_cons (pe_op op_add pe_int (pe_own c__law_take (hr.mono (by decide)) (by rfl) (pa_cons (pv 1) (pa_cons pe_int pa_nil)))) (pa_cons pe_int pa_nil)))))))) (Evl.pss_cut (ps_set (i := 3) sc_law.nd rfl (Or.inl rfl) (pe_own c__law_run (hr.mono (by decide)) (by rfl) (pa_cons (pv 1) (pa_cons (pv 2) (pa_cons (pe_own c__law_things (hr.mono (by decide)) (by rfl) (pa_cons (pv 1) (pa_cons (pe_callB call_len_seq (by rfl) T.n_len bt_len (pa_cons (pe_ix (r := rIxT K) ix_tup (pv 2) pe_int (fun _ _ => rfl)) pa_nil)) (pa_cons (pe_op op_add pe_int (pe_own c__law_take (hr.mono (by decide)) (by rfl) (pa_cons (pv 1) (pa_cons pe_int pa_nil)))) pa_nil)))) (pa_cons (pe_own c__law_take (hr.mono (by decide)) (by rfl) (pa_cons (pv 1) (pa_cons pe_int pa_nil))) pa_nil)))))) (pss_cons (ps_set (i := 4) sc_law.nd rfl (Or.inl rfl) (pe_callTy call_list_of (by rfl) T.n_list bt_list (pa_cons (pv 3) pa_nil))) (Evl.pss_cut (ps_set (i := 5) sc_law.nd rfl (Or.inr rfl) (pe_lc (own := [("_law_now", 12)]) rfl sc_law.nd (pi_range1 (by rfl) T.n_range (pa_cons (pe_callB call_len_seq (by rfl) T.n_len bt_len (pa_cons (pv 3) pa_nil)) pa_nil)) (blkOk_by (own := [("_law_now", 12)]) (N := n_law) (sc := defScope s_law) (by decide +kernel)) (fun _ _ _ _ _ => (pg_name (i := 12) sc_law.nd rfl (Or.inl rfl))) (fun _ _ _ _ _ => (pts_one (pt_cmpR op_eq (pe_own c__law_take (hr.mono (by decide)) (by rfl) (pa_cons (pv 1) (pa_cons pe_int pa_nil))) pe_int (nomark _)))) (fun _ _ _ _ _ => (pv 12)))) (Evl.pss_cut (ps_setLc (i := 6) (own := [("_law_now", 12)]) rfl sc_law.nd rfl rfl (sw_true rfl rfl rfl (by decide +kernel)) (pi_range1 (by rfl) T.n_range (pa_cons (pe_callB call_len_seq (by rfl) T.n_len bt_len (pa_cons (pv 3) pa_nil)) pa_nil)) (blkOk_by (own := [("_law_now", 12)]) (N := n_law) (sc := defScope s_law) (by decide +kernel)) (fun _ _ _ _ _ => (pg_name (i := 12) sc_law.nd rfl (Or.inl rfl))) (fun _ _ _ _ _ => (pts_one (PW.pt (pw_or (pt_cmpR (r := rIn K false) op_in_seq (pv 12) (pv 5) rfl) (pw_or1 (pt_cmpR op_eq (pe_own c__law_take (hr.mono (by decide)) (by rfl) (pa_cons (pv 1) (pa_cons pe_int pa_nil))) pe_int (nomark _))))))) (fun _ _ _ _ _ => (pv 12))) (pss_cons (ps_set (i := 7) sc_law.nd rfl (Or.inl rfl) (pe_lst (pa_cons (pe_tup pa_nil) (pa_cons (pe_callTy call_tuple_of (by rfl) T.n_tuple bt_tuple (pa_cons (pv 5) pa_nil)) (pa_cons (pe_callTy call_tuple_of (by rfl) T.n_tuple bt_tuple (pa_cons (pv 6) pa_nil)) (pa_cons (pe_tupRg rfl (by rfl) T.n_tuple (prg_1 (by rfl) T.n_range (pe_callB call_len_seq (by rfl) T.n_len bt_len (pa_cons (pv 3) pa_nil)))) pa_nil)))))) (Evl.pss_cut (ps_set (i := 8) sc_law.nd rfl (Or.inl rfl) (pe_lst pa_nil)) (Evl.pss_cut (ps_for PassesOwn.never rfl (pi_list (pv 7)) (pg_name (i := 9) sc_law.nd rfl (Or.inl rfl)) (pss_cons (ps_set (i := 10) sc_law.nd rfl (Or.inl rfl) (pe_own c_turns_by (hr.mono (by decide)) (by rfl) (pa_cons (pv 2) (pa_cons (pv 3) (pa_cons (pv 9) pa_nil)))))
          (pss_cons (ps_if (PW.pt (pw_or (pt_not (pt_val (pe_own c__law_alike (hr.mono (by decide)) (by rfl) (pa_cons (pv 10) (pa_cons (pe_own c__law_turns (hr.mono (by decide)) (by rfl) (pa_cons (pv 2) (pa_cons (pv 3) (pa_cons (pv 9) pa_nil)))) pa_nil))))) (pw_or1 (pt_cmpR (r := rNeD K) (op_neD hr.units) (pv 3) (pv 4) (nomark _))))) (pss_one (ps_ret pe_bl)) pss_nil)
          (pss_cons (ps_if (pt_not (pt_val (pe_own c__law_alike (hr.mono (by decide)) (by rfl) (pa_cons (pe_own c__law_by_hand (hr.mono (by decide)) (by rfl) (pa_cons (pv 2) (pa_cons (pv 3) (pa_cons (pv 9) pa_nil)))) (pa_cons (pv 10) pa_nil))))) (pss_one (ps_ret pe_bl)) pss_nil)
          (pss_one (ps_expr (pe_bm PySem.F.plainAttrs_list PySem.F.slot_list_append PySem.F.type_list_append mt_append (pv 8) (pa_cons (pv 10) pa_nil)))))))) (Evl.pss_cut (ps_for PassesOwn.never rfl (pi_range1 (by rfl) T.n_range (pa_cons pe_int pa_nil)) (pg_name (i := 11) sc_law.nd rfl (Or.inl rfl)) (pss_one (ps_if (pt_cmpR op_gt (pe_ix (r := rIxL K) ix_list (pv 8) (pv 11) (fun _ _ => rfl)) (pe_ix (r := rIxL K) ix_list (pv 8) (pe_op op_add (pv 11) pe_int) (fun _ _ => rfl)) (nomark _)) (pss_one (ps_ret pe_bl)) pss_nil))) (Evl.pss_cut (ps_for PassesOwn.never rfl (pi_tup (pe_tup (pa_cons pe_int (pa_cons pe_int (pa_cons pe_int (pa_cons pe_int pa_nil)))))) (pg_name (i := 11) sc_law.nd rfl (Or.inl rfl)) (pss_one (ps_if (pt_not (pt_val (pe_own c__law_alike (hr.mono (by decide)) (by rfl) (pa_cons (pe_own c_turns_by (hr.mono (by decide)) (by rfl) (pa_cons (pv 2) (pa_cons (pv 3) (pa_cons (pe_ix (r := rIxL K) ix_list (pv 7) (pv 11) (fun _ _ => rfl)) pa_nil)))) (pa_cons (pe_ix (r := rIxL K) ix_list (pv 8) (pv 11) (fun _ _ => rfl)) pa_nil))))) (pss_one (ps_ret pe_bl)) pss_nil))) (pss_one (ps_ret (pe_own c__law_alike (hr.mono (by decide)) (by rfl) (pa_cons (pe_own c_turns_by (hr.mono (by decide)) (by rfl) (pa_cons (pv 2) (pa_cons (pe_lst pa_nil) (pa_cons (pe_tup pa_nil) pa_nil)))) (pa_cons pe_int pa_nil)))))))))))))))), ?_⟩
    -- the draws
    refine ⟨_, rfl, a, ns, rfl, hS, hlen, fun b bl H1 s1 hb0 hbl0 B1 => ?_⟩
    refine ⟨_, rfl, _, rfl, b, bl, _, rfl, B1, by decide, by decide, fun v1 H2 v10 v11 k2 B2 => ?_⟩
    refine ⟨_, _, rfl, rfl, _, rfl, b, bl, _, rfl, B2, by decide, by decide, fun v2 H3 v20 v21 k3 B3 => ?_⟩
    refine ⟨_, rfl, b, bl, _, rfl, B3, by decide, by decide, fun v3 H4 v30 v31 k4 B4 => ?_⟩
    refine ⟨_, _, rfl, rfl, ?_⟩
    refine ⟨b, bl, (1 + v1).toNat, v2.toNat, (1 + v3).toNat, ?_, B4, by omega, by omega, by omega, by omega, by omega, fun m H5 M k5 B5 ok hk hd hm => ?_⟩
    · rw [show (((1 + v1).toNat : Nat) : Int) = 1 + v1 by omega, show ((v2.toNat : Nat) : Int) = v2 by omega, show (((1 + v3).toNat : Nat) : Int) = 1 + v3 by omega]
      rfl
    refine ⟨fun σ H' => ∃ (b bl r : Addr) (m : V) (M : Mach) (run : Run), σ = [some (.ref a), some (.ref b), some m, some (.ref r), none, none, none, none, none, none, none, none, none] ∧ Dr H' b bl r m M run, ?_, ?_⟩
    · refine ⟨_, rfl, _, rfl, _, rfl, _, rfl, ixC 0 (by rfl) hm rfl fun v e => ?_⟩
      obtain ⟨ba, rfl, hba⟩ := e.ns
      refine ⟨ba, _, rfl, .inr (SqT.of hba), ?_⟩
      rw [List.length_map, List.length_map, hk]
      refine ⟨_, rfl, b, bl, _, rfl, B5, by decide, by decide, fun v4 H6 v40 v41 k6 B6 => ?_⟩
      refine ⟨_, _, rfl, rfl, ?_⟩
      refine ⟨b, bl, (1 + v1).toNat, (2 + v4).toNat, ?_, B6, by omega, by omega, by omega, by omega, fun l H7 ts k7 B7 hts nlb hne hlen7 hok => ?_⟩
      · rw [show (((2 + v4).toNat : Nat) : Int) = 2 + v4 by omega]
        rfl
      refine ⟨_, rfl, b, bl, _, rfl, B7, by decide, by decide, fun v5 H8 v50 v51 k8 B8 => ?_⟩
      refine ⟨b, bl, l, m, M, ts, v5.toNat, ?_, B8, ok, ?_, hts.kp B7 k8 nlb, nlb, hne, hlen7, ?_, by omega, fun r H9 run k9 B9 lR nrb v hrl => ?_⟩
      · rw [show ((v5.toNat : Nat) : Int) = v5 by omega]
        rfl
      · exact ((hm.tk (B5.tk k6)).tk (B6.tk k7)).tk (B7.tk k8)
      · intro t ht
        obtain ⟨a1, a2, a3, a4⟩ := hok t ht
        exact ⟨a1, by omega, a3, a4⟩
      exact ⟨b, bl, r, m, M, run, rfl, B9, ok, (((hm.tk (B5.tk k6)).tk (B6.tk k7)).tk (B7.tk k8)).tk (B8.tk k9), lR, nrb, v, hrl⟩
    rintro σ H0 ⟨b, bl, r, m, M, run, rfl, D0⟩
    -- said, some, more
    obtain ⟨rvs, hrv, hrim⟩ := id D0.lR
    have hrl : rvs.length = run.length := by rw [hrim.len, List.length_map]
    have hr20 := D0.len
    refine ⟨_, rfl, r, _, rfl, .inl (SqL.of hrv), fun sa hsa0 => ?_⟩
    have s1 := same_new (o := .lst rvs) hsa0
    obtain ⟨nsb, nsl⟩ := D0.B.fresh hsa0
    have lS1 : LsD (upd H0 sa (.lst rvs)) sa (run.map dRn) := ⟨_, upd_same, hrim.tk (Same.tk s1)⟩
    have D1 := D0.keep (Same.kp s1) (D0.B.same s1)
    generalize upd H0 sa (.lst rvs) = H1 at lS1 D1
    refine ⟨fun σ H' => ∃ (da : Addr) (ss : List Nat), σ = [some (.ref a), some (.ref b), some m, some (.ref r), some (.ref sa), some (.ref da), none, none, none, none, none, none, none] ∧ Kp [b] H1 H' ∧ Dr H' b bl r m M run ∧
      H' da = some (.lst (lvV ss)) ∧ da ≠ b ∧ ss.length ≤ 20 ∧ (∀ n ∈ ss, n < run.length), ?_, ?_⟩
    · obtain ⟨rvs1, hrv1, hrim1⟩ := id D1.lR
      have hrl1 : rvs1.length = run.length := by rw [hrim1.len, List.length_map]
      refine ⟨_, rfl, r, _, rfl, .inl (SqL.of hrv1), _, rfl, by omega, by omega, fun D hD => ?_⟩
      obtain ⟨nDb, nDl⟩ := D1.B.fresh hD
      refine lc_range (lo := 0) (n := ((rvs1.length : Nat) : Int).toNat) (fun i H' => Kp [b] H1 H' ∧ Bag H' b bl ∧ ∃ ss : List Nat, H' D = some (.lst (lvV ss)) ∧ ss.length ≤ i ∧ ∀ n ∈ ss, n < i) ⟨Same.kp (same_new hD), D1.B.same (same_new hD), [], upd_same, Nat.le_refl _, by simp⟩ ?_ ?_
      · rintro i H' hi ⟨k', B', ss, h1, h2, h3⟩
        refine ⟨rfl, ?_⟩
        refine ⟨_, rfl, b, bl, _, rfl, B', by decide, by decide, fun v H3 v0 v1 k3 B3 => ?_⟩
        refine ⟨rfl, _, rfl, ?_⟩
        refine ite2 (fun hc => ?_) (fun hc => ?_)
        · refine ⟨_, rfl, _, k3.one h1 nDb, ?_, (k'.trans k3).nw hD, B3.wr nDb nDl, ss ++ [i], ?_, ?_, ?_⟩
          · rw [List.length_map]
            exact small5 (by omega)
          · rw [upd_same]
            unfold lvV
            rw [List.map_append, List.map_singleton, show (0 : Int) + ((i : Nat) : Int) = ((i : Nat) : Int) by omega]
          · rw [List.length_append, List.length_singleton]
            omega
          · intro n hn
            rcases List.mem_append.mp hn with h | h
            · have := h3 n h
              omega
            · rw [List.mem_singleton.mp h]
              omega
        · exact ⟨k'.trans k3, B3, ss, k3.one h1 nDb, by omega, fun n hn => by have := h3 n hn; omega⟩
      · rintro H' ⟨k', B', ss, h1, h2, h3⟩
        exact ⟨D, ss, rfl, k', D1.keep k' B', h1, nDb, by omega, fun n hn => by have := h3 n hn; omega⟩
    rintro σ H2 ⟨da, ss, rfl, k2, D2, hda, ndb, ssl, ssr⟩
    refine ⟨fun σ H' => ∃ (ma : Addr) (ms : List Nat), σ = [some (.ref a), some (.ref b), some m, some (.ref r), some (.ref sa), some (.ref da), some (.ref ma), none, none, none, none, none, none] ∧ Dr H' b bl r m M run ∧ LsD H' sa (run.map dRn) ∧
      H' da = some (.lst (lvV ss)) ∧ H' ma = some (.lst (lvV ms)) ∧ ms.length ≤ 20 ∧ (∀ n ∈ ss, n ∈ ms) ∧ (∀ n ∈ ms, n < run.length), ?_, ?_⟩
    · obtain ⟨rvs1, hrv1, hrim1⟩ := id D2.lR
      have hrl1 : rvs1.length = run.length := by rw [hrim1.len, List.length_map]
      refine ⟨_, rfl, r, _, rfl, .inl (SqL.of hrv1), _, rfl, by omega, by omega, fun D hD => ?_⟩
      obtain ⟨nDb, nDl⟩ := D2.B.fresh hD
      refine lc_range (lo := 0) (n := ((rvs1.length : Nat) : Int).toNat) (fun i H' => Kp [b] H2 H' ∧ Bag H' b bl ∧ ∃ ms : List Nat, H' D = some (.lst (lvV ms)) ∧ ms.length ≤ i ∧ (∀ n ∈ ms, n < i) ∧ (∀ n ∈ ss, n < i → n ∈ ms)) ⟨Same.kp (same_new hD), D2.B.same (same_new hD), [], upd_same, Nat.le_refl _, by simp, fun n _ h => absurd h (Nat.not_lt_zero _)⟩ ?_ ?_
      · rintro i H' hi ⟨k', B', ms, h1, h2, h3, h4⟩
        have yes : ∀ H3, Kp [b] H' H3 → Bag H3 b bl → ∃ acc, H3 D = some (.lst acc) ∧ acc.length < sizeLine ∧ (Kp [b] H2 (upd H3 D (.lst (acc ++ [V.int (0 + (i : Nat))]))) ∧ Bag (upd H3 D (.lst (acc ++ [V.int (0 + (i : Nat))]))) b bl ∧ ∃ ms : List Nat, (upd H3 D (.lst (acc ++ [V.int (0 + (i : Nat))]))) D = some (.lst (lvV ms)) ∧ ms.length ≤ i + 1 ∧ (∀ n ∈ ms, n < i + 1) ∧ (∀ n ∈ ss, n < i + 1 → n ∈ ms)) := fun H3 k3 B3 => by
          refine ⟨_, k3.one h1 nDb, ?_, (k'.trans k3).nw hD, B3.wr nDb nDl, ms ++ [i], ?_, ?_, ?_, ?_⟩
          · rw [List.length_map]
            exact small5 (by omega)
          · rw [upd_same]
            unfold lvV
            rw [List.map_append, List.map_singleton, show (0 : Int) + ((i : Nat) : Int) = ((i : Nat) : Int) by omega]
          · rw [List.length_append, List.length_singleton]
            omega
          · intro n hn
            rcases List.mem_append.mp hn with h | h
            · have := h3 n h
              omega
            · rw [List.mem_singleton.mp h]
              omega
          · intro n hn hni
            by_cases e : n < i
            · exact List.mem_append.mpr (.inl (h4 n hn e))
            · exact List.mem_append.mpr (.inr (List.mem_singleton.mpr (by omega)))
        refine ⟨rfl, ?_⟩
        refine ⟨_, rfl, _, rfl, da, _, rfl, .inl (SqL.of (k'.one hda ndb)), rfl, by rw [lvV_eq]; exact flat_ints _, _, rfl, ?_⟩
        have hin : inV (.int (0 + ((i : Nat) : Int))) (lvV ss) = decide (i ∈ ss) := by
          rw [lvV_eq, show (0 : Int) + ((i : Nat) : Int) = ((i : Nat) : Int) by omega]
          exact inV_ints i ss
        by_cases hS' : i ∈ ss
        · refine iteYes (hin.trans (decide_eq_true hS')) ?_
          refine iteT ?_
          exact ⟨_, rfl, yes H' (Kp.refl _ _) B'⟩
        · refine iteNo (hin.trans (decide_eq_false hS')) ?_
          refine ⟨_, rfl, b, bl, _, rfl, B', by decide, by decide, fun v H3 v0 v1 k3 B3 => ?_⟩
          refine ⟨rfl, _, rfl, ?_⟩
          refine ite2 (fun hc => ?_) (fun hc => ?_)
          · exact ⟨_, rfl, yes H3 k3 B3⟩
          · refine ⟨k'.trans k3, B3, ms, k3.one h1 nDb, by omega, fun n hn => by have := h3 n hn; omega, fun n hn hni => ?_⟩
            by_cases e : n < i
            · exact h4 n hn e
            · have e2 : n = i := by omega
              subst e2
              exact absurd hn hS'
      · rintro H' ⟨k', B', ms, h1, h2, h3, h4⟩
        exact ⟨D, ms, rfl, D2.keep k' B', (lS1.kp D1.B k2 nsb).kp D2.B k' nsb, k'.one hda ndb, h1, by omega, fun n hn => h4 n hn (by have := ssr n hn; omega), fun n hn => by have := h3 n hn; omega⟩
    clear D1 lS1 k2 hda D2
    rintro σ H1 ⟨ma, ms, rfl, D1, hsa, hda, hma, msl, sms, msr⟩
    -- rows, found
    -- rows
    obtain ⟨rvs1, hrv1, hrim1⟩ := id D1.lR
    have hrl1 : rvs1.length = run.length := by rw [hrim1.len, List.length_map]
    refine ⟨by show 0 ≤ sizeLine; decide, fun t0 ht0 => ?_⟩
    have s2 := same_new (o := .tup []) ht0
    refine ⟨_, rfl, da, _, rfl, .inl ⟨SqL.of (s2 _ _ hda), fun t1 ht1 => ?_⟩⟩
    have s3 := same_new (o := .tup (lvV ss)) ht1
    refine ⟨_, rfl, ma, _, rfl, .inl ⟨SqL.of (s3 _ _ (s2 _ _ hma)), fun t2 ht2 => ?_⟩⟩
    have s4 := same_new (o := .tup (lvV ms)) ht2
    refine ⟨_, rfl, r, _, rfl, .inl (SqL.of (s4 _ _ (s3 _ _ (s2 _ _ hrv1)))), _, rfl, RgOk.of_le (by omega) (by omega) (by omega) (by omega), fun t3 ht3 => ?_⟩
    rw [hrl1, rgV_lv]
    have s5 := same_new (o := .tup (lvV (List.range run.length))) ht3
    refine ⟨by show 4 ≤ sizeLine; decide, fun ra hra => ?_⟩
    have s6 := same_new (o := .lst [V.ref t0, V.ref t1, V.ref t2, V.ref t3]) hra
    have lW : LsD _ ra (([[], ss, ms, List.range run.length] : List (List Nat)).map dBeg) := ⟨_, upd_same (H := upd (upd (upd (upd H1 t0 (.tup [])) t1 (.tup (lvV ss))) t2 (.tup (lvV ms))) t3 (.tup (lvV (List.range run.length)))) (a := ra) (o := .lst [V.ref t0, V.ref t1, V.ref t2, V.ref t3]),
      .cons (im_beg (s6 _ _ (s5 _ _ (s4 _ _ (s3 _ _ upd_same))))) (.cons (im_beg (s6 _ _ (s5 _ _ (s4 _ _ upd_same)))) (.cons (im_beg (s6 _ _ (s5 _ _ upd_same))) (.cons (im_beg (s6 _ _ upd_same)) .nil)))⟩
    have sAll := (s2.trans (s3.trans (s4.trans s5))).trans s6
    have lR2 := D1.lR.same sAll
    have lS2 := hsa.same sAll
    have hm2 := D1.hm.tk (Same.tk sAll)
    have v := D1.v
    have ok := D1.ok
    have hlr := D1.len
    generalize upd (upd (upd (upd (upd H1 t0 (.tup [])) t1 (.tup (lvV ss))) t2 (.tup (lvV ms))) t3 (.tup (lvV (List.range run.length)))) ra (.lst [V.ref t0, V.ref t1, V.ref t2, V.ref t3]) = H2 at lW lR2 lS2 hm2
    -- found = []
    refine ⟨fun σ H' => ∃ (fa : Addr), σ = [some (.ref a), some (.ref b), some m, some (.ref r), some (.ref sa), some (.ref da), some (.ref ma), some (.ref ra), some (.ref fa), none, none, none, none] ∧ Same H2 H' ∧ H2 fa = none ∧ H' fa = some (.lst []), ?_, ?_⟩
    · exact ⟨Nat.zero_le _, fun fa hfa => ⟨fa, rfl, same_new hfa, hfa, upd_same⟩⟩
    rintro σ H3 ⟨fa, rfl, s23, hfa2, hfa3⟩
    -- the rows one by one
    generalize hrw : ([[], ss, ms, List.range run.length] : List (List Nat)) = rws at lW
    have hrwl : rws.length = 4 := by rw [← hrw]; rfl
    have Tle : ∀ s : List Nat, turns M run (stopAt s) ≤ 100000 := fun s => Nat.le_trans (turns_le hlr) (by decide)
    refine ⟨fun σ H' => ∃ (v9 v10 : Option V), σ = [some (.ref a), some (.ref b), some m, some (.ref r), some (.ref sa), some (.ref da), some (.ref ma), some (.ref ra), some (.ref fa), v9, v10, none, none] ∧ Same H2 H' ∧ H' fa = some (.lst (lvV (rws.map fun s => turns M run (stopAt s)))), ?_, ?_⟩
    · obtain ⟨wvs, hwv, hwim⟩ := id lW
      have hwl : wvs.length = rws.length := by rw [hwim.len, List.length_map]
      refine ⟨_, rfl, ra, rfl, ⟨_, SqL.of (s23 _ _ hwv)⟩, for_list (K := K) (a := ra) (xs := wvs) (fun i σ H' => ∃ (v9 v10 : Option V), σ = [some (.ref a), some (.ref b), some m, some (.ref r), some (.ref sa), some (.ref da), some (.ref ma), some (.ref ra), some (.ref fa), v9, v10, none, none] ∧ Same H2 H' ∧ H' fa = some (.lst (lvV ((rws.take i).map fun s => turns M run (stopAt s)))))
        ⟨none, none, rfl, s23, hfa3⟩ (fun i σ H' _ ⟨_, _, _, s', _⟩ => SqL.of (s' _ _ hwv)) ?_ ?_⟩
      · rintro i x σ H' hi ⟨v9, v10, rfl, s', hfa'⟩
        obtain ⟨d, hd, hx⟩ := hwim.get' hi
        rw [List.getElem?_map] at hd
        obtain ⟨st, hst, rfl⟩ := Option.map_eq_some_iff.mp hd
        refine ⟨_, rfl, _, rfl, _, rfl, m, x, r, M, run, st, rfl, ok, hm2.tk (Same.tk s'), lR2.same s', v, hlr, hx.tk (Same.tk s'), fun H5 s5 => ?_⟩
        have s25 := s'.trans s5
        refine ⟨_, rfl, _, rfl, _, rfl, _, rfl, m, x, r, M, run, st, rfl, ok, hm2.tk (Same.tk s25), lR2.same s25, v, hlr, hx.tk (Same.tk s25), fun H6 s6 => ?_⟩
        have s26 := s25.trans s6
        refine ⟨turns M run (stopAt st), rfl, Tle st, true, rfl, iteNo rfl ?_⟩
        obtain ⟨rv6, hrv6, hrim6⟩ := lR2.same s26
        obtain ⟨sv6, hsv6, hsim6⟩ := lS2.same s26
        refine ⟨_, rfl, _, rfl, _, _, .lst (SqL.of hrv6) hrim6.dp, .lst (SqL.of hsv6) hsim6.dp, shaped_run run, shaped_run run, _, rfl, ?_⟩
        refine iteNo (by rw [eqv_run]; rfl) ?_
        refine ⟨_, rfl, _, rfl, _, rfl, m, x, r, M, run, st, rfl, ok, hm2.tk (Same.tk s26), lR2.same s26, v, hlr, hx.tk (Same.tk s26), fun H7 s7 => ?_⟩
        have s27 := s26.trans s7
        refine ⟨_, rfl, turns M run (stopAt st), rfl, Tle st, true, rfl, iteNo rfl ?_⟩
        have hfa7 := s7 _ _ (s6 _ _ (s5 _ _ hfa'))
        refine ⟨_, rfl, .inl ⟨rfl, _, SqL.of hfa7⟩, ?_⟩
        refine ⟨_, rfl, fa, _, _, rfl, rfl, hfa7, ?_, ?_⟩
        · rw [List.length_map, List.length_map]
          have := List.length_take_le i rws
          exact small5 (by have := (List.getElem?_eq_some_iff.mp hi).1; omega)
        refine ⟨_, _, rfl, fun c o e => ?_, ?_⟩
        · rw [upd_ne (ne_of_none e hfa2)]
          exact s27 _ _ e
        · rw [upd_same, List.take_succ, hst]
          unfold lvV
          rw [List.map_append, List.map_append]
          rfl
      · rintro σ H' ⟨v9, v10, rfl, s', hfa'⟩
        rw [List.take_of_length_le (by omega)] at hfa'
        exact ⟨v9, v10, rfl, s', hfa'⟩
    rintro σ H4 ⟨v9, v10, rfl, s24, hfa4⟩
    -- no fewer with more stops
    refine ⟨fun σ H' => H4 = H' ∧ ∃ (v11 : Option V), σ = [some (.ref a), some (.ref b), some m, some (.ref r), some (.ref sa), some (.ref da), some (.ref ma), some (.ref ra), some (.ref fa), v9, v10, v11, none], ?_, ?_⟩
    · have mono : ∀ j, j < 3 → turns M run (stopAt (rws.getD j [])) ≤ turns M run (stopAt (rws.getD (j + 1) [])) := fun j hj => by
        refine turns_more ok v fun i hi => ?_
        have hi := of_decide_eq_true hi
        refine decide_eq_true ?_
        rw [← hrw] at hi ⊢
        match j, hj with
        | 0, _ => cases hi
        | 1, _ => exact sms _ hi
        | 2, _ => exact List.mem_range.mpr (msr _ hi)
      have fat : ∀ j, j < 4 → (lvV (rws.map fun s => turns M run (stopAt s)))[j]? = some (V.int ((turns M run (stopAt (rws.getD j [])) : Nat) : Int)) := fun j hj => by
        rw [List.getElem?_map, List.getElem?_map, List.getD_eq_getElem?_getD, List.getElem?_eq_getElem (by omega)]
        rfl
      refine ⟨_, rfl, (by omega), (by omega), for_range (lo := 0) (n := (3 : Int).toNat) (fun i σ H' => H4 = H' ∧ ∃ (v11 : Option V), σ = [some (.ref a), some (.ref b), some m, some (.ref r), some (.ref sa), some (.ref da), some (.ref ma), some (.ref ra), some (.ref fa), v9, v10, v11, none])
        ⟨rfl, none, rfl⟩ ?_ fun σ H' h => h⟩
      rintro i σ H' hi ⟨rfl, v11, rfl⟩
      have hi3 : i < 3 := hi
      refine ⟨_, rfl, _, rfl, fa, _, _, V.int ((turns M run (stopAt (rws.getD i [])) : Nat) : Int), rfl, rfl, SqL.of hfa4, ?_, ?_⟩
      · rw [show (0 : Int) + ((i : Nat) : Int) = ((i : Nat) : Int) by omega]
        exact atI_nat (fat i (by omega))
      refine ⟨_, rfl, _, rfl, _, _, rfl, rfl, fa, _, _, V.int ((turns M run (stopAt (rws.getD (i + 1) [])) : Nat) : Int), rfl, rfl, SqL.of hfa4, ?_, ?_⟩
      · rw [show (0 : Int) + ((i : Nat) : Int) + 1 = ((i + 1 : Nat) : Int) by omega]
        exact atI_nat (fat (i + 1) (by omega))
      refine ⟨_, _, rfl, rfl, _, rfl, ?_⟩
      have := mono i hi3
      refine iteNo (decide_eq_false (by omega)) ?_
      exact ⟨rfl, _, rfl⟩
    rintro σ H' ⟨rfl, v11, rfl⟩
    -- in another order
    refine ⟨fun σ H' => Im H' m (dMach M) ∧ ∃ (v11 : Option V), σ = [some (.ref a), some (.ref b), some m, some (.ref r), some (.ref sa), some (.ref da), some (.ref ma), some (.ref ra), some (.ref fa), v9, v10, v11, none], ?_, ?_⟩
    · have fat : ∀ j, j < 4 → (lvV (rws.map fun s => turns M run (stopAt s)))[j]? = some (V.int ((turns M run (stopAt (rws.getD j [])) : Nat) : Int)) := fun j hj => by
        rw [List.getElem?_map, List.getElem?_map, List.getD_eq_getElem?_getD, List.getElem?_eq_getElem (by omega)]
        rfl
      have wat : ∀ j, j < 4 → (rws.map dBeg)[j]? = some (dBeg (rws.getD j [])) := fun j hj => by
        rw [List.getElem?_map, List.getD_eq_getElem?_getD, List.getElem?_eq_getElem (by omega)]
        rfl
      refine ⟨by show 4 ≤ sizeLine; decide, fun p hp => ?_⟩
      have s5 := same_new (o := .tup [V.int 3, V.int 1, V.int 0, V.int 2]) hp
      refine ⟨p, rfl, ⟨_, SqT.of upd_same⟩, for_tup (K := K) (a := p) (xs := [V.int 3, V.int 1, V.int 0, V.int 2]) (fun i σ H' => Same (upd H4 p (.tup [V.int 3, V.int 1, V.int 0, V.int 2])) H' ∧ ∃ (v11 : Option V), σ = [some (.ref a), some (.ref b), some m, some (.ref r), some (.ref sa), some (.ref da), some (.ref ma), some (.ref ra), some (.ref fa), v9, v10, v11, none])
        ⟨fun _ _ e => e, v11, rfl⟩ (fun i σ H' _ ⟨s', _⟩ => SqT.of (s' _ _ upd_same)) ?_ ?_⟩
      · rintro i x σ H' hi ⟨s', v11, rfl⟩
        obtain ⟨j, hj, rfl⟩ : ∃ j : Nat, j < 4 ∧ x = V.int (j : Nat) := by
          have hx := List.mem_of_getElem? hi
          simp only [List.mem_cons, List.not_mem_nil, or_false] at hx
          rcases hx with h | h | h | h
          · exact ⟨3, by decide, h⟩
          · exact ⟨1, by decide, h⟩
          · exact ⟨0, by decide, h⟩
          · exact ⟨2, by decide, h⟩
        have s2' := s24.trans (s5.trans s')
        refine ⟨_, rfl, _, rfl, _, rfl, _, rfl, ixL j rfl (lW.same s2') (wat j hj) fun y ey => ?_⟩
        refine ⟨m, y, r, M, run, _, rfl, ok, hm2.tk (Same.tk s2'), lR2.same s2', v, hlr, ey, fun H6 s6 => ?_⟩
        refine ⟨_, rfl, _, rfl, fa, _, _, _, rfl, rfl, SqL.of (s6 _ _ (s' _ _ (s5 _ _ hfa4))), atI_nat (fat j hj), ?_⟩
        refine ⟨_, rfl, Tle _, true, rfl, iteNo rfl ?_⟩
        exact ⟨s'.trans s6, _, rfl⟩
      · rintro σ H' ⟨s', v11, rfl⟩
        exact ⟨hm2.tk (Same.tk (s24.trans (s5.trans s'))), v11, rfl⟩
    rintro σ H5 ⟨hm5, v11, rfl⟩
    -- the empty run
    refine ⟨_, rfl, Nat.zero_le _, fun l hl => ⟨by show 0 ≤ sizeLine; decide, fun t ht => ?_⟩⟩
    have s6 := same_new (o := .lst []) hl
    have s7 := same_new (o := .tup []) ht
    refine ⟨m, .ref t, l, M, [], [], rfl, ok, hm5.tk (Same.tk (s6.trans s7)), ⟨_, s7 _ _ upd_same, .nil⟩, (fun i d t h => by cases h), Nat.zero_le _, im_beg upd_same, fun H' s' => ?_⟩
    exact ⟨0, rfl, Nat.zero_le _, q _⟩
end
end Own

namespace Own
open PySem PySem.Spec PyProof.Rows L2
/-! ### 40. what the top has written, the head -/
theorem all_mk {l : PySem.W.OpenLaw} {w : World} {K : PySem.W.Frag} {h : Heap} {mg : Str → Option Value} {fa C f1 f2 f3 f4 f5 f6 f7 f8 f9 f10 f11 f12 f13 f14 f15 f16 f17 f18 f19 f20 f21 f22 f23 f24 f25 f26 f27 f28 f29 f30 f31 f32 f33 f34 f35 f36 : Addr} {tmost : Tok} (X : K.In h) (G : h.Ns mainGlobals mg) (hfa : mg "law" = some (.ref fa))
    {od1 an1 od2 an2 od3 an3 od4 an4 od5 an5 od6 an6 od7 an7 od8 an8 od9 an9 od10 an10 od11 an11 od12 an12 od13 an13 od14 an14 od15 an15 od16 an16 od17 an17 od18 an18 od19 an19 od20 an20 od21 an21 od22 an22 od23 an23 od24 an24 od25 an25 od26 an26 od27 an27 od28 an28 od29 an29 od30 an30 od31 an31 od32 an32 od33 an33 od34 an34 od35 an35 od36 an36 : Option Addr} {sl1 sl2 sl3 sl4 sl5 sl6 sl7 sl8 sl9 sl10 sl11 sl12 sl13 sl14 sl15 sl16 sl17 sl18 sl19 sl20 sl21 sl22 sl23 sl24 sl25 sl26 sl27 sl28 sl29 sl30 sl31 sl32 sl33 sl34 sl35 sl36 : Array (Option Value)} {oc1 kV1 dc1 pm1 cd1 ct1 oc2 kV2 dc2 pm2 cd2 ct2 oc3 kV3 dc3 pm3 cd3 ct3 oc4 kV4 dc4 pm4 cd4 ct4 oc5 kV5 dc5 pm5 cd5 ct5 oc6 kV6 dc6 pm6 cd6 ct6 oc7 kV7 dc7 pm7 cd7 ct7 oc8 kV8 dc8 pm8 cd8 ct8 oc9 kV9 dc9 pm9 cd9 ct9 oc10 kV10 dc10 pm10 cd10 ct10 oc11 kV11 dc11 pm11 cd11 ct11 oc12 kV12 dc12 pm12 cd12 ct12 oc13 kV13 dc13 pm13 cd13 ct13 oc14 kV14 dc14 pm14 cd14 ct14 oc15 kV15 dc15 pm15 cd15 ct15 oc16 kV16 dc16 pm16 cd16 ct16 oc17 kV17 dc17 pm17 cd17 ct17 oc18 kV18 dc18 pm18 cd18 ct18 oc19 kV19 dc19 pm19 cd19 ct19 oc20 kV20 dc20 pm20 cd20 ct20 oc21 kV21 dc21 pm21 cd21 ct21 oc22 kV22 dc22 pm22 cd22 ct22 oc23 kV23 dc23 pm23 cd23 ct23 oc24 kV24 dc24 pm24 cd24 ct24 oc25 kV25 dc25 pm25 cd25 ct25 oc26 kV26 dc26 pm26 cd26 ct26 oc27 kV27 dc27 pm27 cd27 ct27 oc28 kV28 dc28 pm28 cd28 ct28 oc29 kV29 dc29 pm29 cd29 ct29 oc30 kV30 dc30 pm30 cd30 ct30 oc31 kV31 dc31 pm31 cd31 ct31 oc32 kV32 dc32 pm32 cd32 ct32 oc33 kV33 dc33 pm33 cd33 ct33 oc34 kV34 dc34 pm34 cd34 ct34 oc35 kV35 dc35 pm35 cd35 ct35 oc36 kV36 dc36 pm36 cd36 ct36 : Value}
    (aC : PySem.W.nsIn K mainGlobals "Lane" = some (some (.ref C))) (aM : PySem.W.nsIn K mainGlobals "MOST_NUMBER" = some (some (.int 9999 tmost)))
    (a1 : PySem.W.nsIn K mainGlobals "is_integer" = some (some (.ref f1))) (l1 : K.lookup f1 = some ⟨oc1, od1, .func (PySem.W.fnOf "is_integer" "is_integer" (defArgs s_is_integer) (defBody s_is_integer) (defScope s_is_integer) .none kV1 dc1 pm1 an1 cd1 ct1), sl1⟩) (c1 : PySem.W.codeIn K cd1 "is_integer" = true) (k1 : PySem.W.keepIn K (.ref f1) = true)
    (a2 : PySem.W.nsIn K mainGlobals "is_between" = some (some (.ref f2))) (l2 : K.lookup f2 = some ⟨oc2, od2, .func (PySem.W.fnOf "is_between" "is_between" (defArgs s_is_between) (defBody s_is_between) (defScope s_is_between) .none kV2 dc2 pm2 an2 cd2 ct2), sl2⟩) (c2 : PySem.W.codeIn K cd2 "is_between" = true) (k2 : PySem.W.keepIn K (.ref f2) = true)
    (a3 : PySem.W.nsIn K mainGlobals "is_thing" = some (some (.ref f3))) (l3 : K.lookup f3 = some ⟨oc3, od3, .func (PySem.W.fnOf "is_thing" "is_thing" (defArgs s_is_thing) (defBody s_is_thing) (defScope s_is_thing) .none kV3 dc3 pm3 an3 cd3 ct3), sl3⟩) (c3 : PySem.W.codeIn K cd3 "is_thing" = true) (k3 : PySem.W.keepIn K (.ref f3) = true)
    (a4 : PySem.W.nsIn K mainGlobals "machine_kinds" = some (some (.ref f4))) (l4 : K.lookup f4 = some ⟨oc4, od4, .func (PySem.W.fnOf "machine_kinds" "machine_kinds" (defArgs s_machine_kinds) (defBody s_machine_kinds) (defScope s_machine_kinds) .none kV4 dc4 pm4 an4 cd4 ct4), sl4⟩) (c4 : PySem.W.codeIn K cd4 "machine_kinds" = true) (k4 : PySem.W.keepIn K (.ref f4) = true)
    (a5 : PySem.W.nsIn K mainGlobals "machine_deeds" = some (some (.ref f5))) (l5 : K.lookup f5 = some ⟨oc5, od5, .func (PySem.W.fnOf "machine_deeds" "machine_deeds" (defArgs s_machine_deeds) (defBody s_machine_deeds) (defScope s_machine_deeds) .none kV5 dc5 pm5 an5 cd5 ct5), sl5⟩) (c5 : PySem.W.codeIn K cd5 "machine_deeds" = true) (k5 : PySem.W.keepIn K (.ref f5) = true)
    (a6 : PySem.W.nsIn K mainGlobals "place_by" = some (some (.ref f6))) (l6 : K.lookup f6 = some ⟨oc6, od6, .func (PySem.W.fnOf "place_by" "place_by" (defArgs s_place_by) (defBody s_place_by) (defScope s_place_by) .none kV6 dc6 pm6 an6 cd6 ct6), sl6⟩) (c6 : PySem.W.codeIn K cd6 "place_by" = true) (k6 : PySem.W.keepIn K (.ref f6) = true)
    (a7 : PySem.W.nsIn K mainGlobals "is_ahead_by" = some (some (.ref f7))) (l7 : K.lookup f7 = some ⟨oc7, od7, .func (PySem.W.fnOf "is_ahead_by" "is_ahead_by" (defArgs s_is_ahead_by) (defBody s_is_ahead_by) (defScope s_is_ahead_by) .none kV7 dc7 pm7 an7 cd7 ct7), sl7⟩) (c7 : PySem.W.codeIn K cd7 "is_ahead_by" = true) (k7 : PySem.W.keepIn K (.ref f7) = true)
    (a8 : PySem.W.nsIn K mainGlobals "figure_behind" = some (some (.ref f8))) (l8 : K.lookup f8 = some ⟨oc8, od8, .func (PySem.W.fnOf "figure_behind" "figure_behind" (defArgs s_figure_behind) (defBody s_figure_behind) (defScope s_figure_behind) .none kV8 dc8 pm8 an8 cd8 ct8), sl8⟩) (c8 : PySem.W.codeIn K cd8 "figure_behind" = true) (k8 : PySem.W.keepIn K (.ref f8) = true)
    (a9 : PySem.W.nsIn K mainGlobals "check_tuple" = some (some (.ref f9))) (l9 : K.lookup f9 = some ⟨oc9, od9, .func (PySem.W.fnOf "check_tuple" "check_tuple" (defArgs s_check_tuple) (defBody s_check_tuple) (defScope s_check_tuple) .none kV9 dc9 pm9 an9 cd9 ct9), sl9⟩) (c9 : PySem.W.codeIn K cd9 "check_tuple" = true) (k9 : PySem.W.keepIn K (.ref f9) = true)
    (a10 : PySem.W.nsIn K mainGlobals "changed_figure" = some (some (.ref f10))) (l10 : K.lookup f10 = some ⟨oc10, od10, .func (PySem.W.fnOf "changed_figure" "changed_figure" (defArgs s_changed_figure) (defBody s_changed_figure) (defScope s_changed_figure) .none kV10 dc10 pm10 an10 cd10 ct10), sl10⟩) (c10 : PySem.W.codeIn K cd10 "changed_figure" = true) (k10 : PySem.W.keepIn K (.ref f10) = true)
    (a11 : PySem.W.findIn K (.ref C) "__init__" = some (some (.ref f11))) (i11 : PySem.W.isFn K (.ref f11) = true) (l11 : K.lookup f11 = some ⟨oc11, od11, .func (PySem.W.fnOf "__init__" "Lane.__init__" (defArgs s_init) (defBody s_init) (defScope s_init) .none kV11 dc11 pm11 an11 cd11 ct11), sl11⟩) (c11 : PySem.W.codeIn K cd11 "Lane.__init__" = true) (k11 : PySem.W.keepIn K (.ref f11) = true)
    (a12 : PySem.W.findIn K (.ref C) "is_wrong" = some (some (.ref f12))) (i12 : PySem.W.isFn K (.ref f12) = true) (l12 : K.lookup f12 = some ⟨oc12, od12, .func (PySem.W.fnOf "is_wrong" "Lane.is_wrong" (defArgs s_is_wrong) (defBody s_is_wrong) (defScope s_is_wrong) .none kV12 dc12 pm12 an12 cd12 ct12), sl12⟩) (c12 : PySem.W.codeIn K cd12 "Lane.is_wrong" = true) (k12 : PySem.W.keepIn K (.ref f12) = true)
    (a13 : PySem.W.findIn K (.ref C) "wrong_at" = some (some (.ref f13))) (i13 : PySem.W.isFn K (.ref f13) = true) (l13 : K.lookup f13 = some ⟨oc13, od13, .func (PySem.W.fnOf "wrong_at" "Lane.wrong_at" (defArgs s_wrong_at) (defBody s_wrong_at) (defScope s_wrong_at) .none kV13 dc13 pm13 an13 cd13 ct13), sl13⟩) (c13 : PySem.W.codeIn K cd13 "Lane.wrong_at" = true) (k13 : PySem.W.keepIn K (.ref f13) = true)
    (a14 : PySem.W.findIn K (.ref C) "change_places" = some (some (.ref f14))) (i14 : PySem.W.isFn K (.ref f14) = true) (l14 : K.lookup f14 = some ⟨oc14, od14, .func (PySem.W.fnOf "change_places" "Lane.change_places" (defArgs s_change_places) (defBody s_change_places) (defScope s_change_places) .none kV14 dc14 pm14 an14 cd14 ct14), sl14⟩) (c14 : PySem.W.codeIn K cd14 "Lane.change_places" = true) (k14 : PySem.W.keepIn K (.ref f14) = true)
    (a15 : PySem.W.findIn K (.ref C) "settle" = some (some (.ref f15))) (i15 : PySem.W.isFn K (.ref f15) = true) (l15 : K.lookup f15 = some ⟨oc15, od15, .func (PySem.W.fnOf "settle" "Lane.settle" (defArgs s_settle) (defBody s_settle) (defScope s_settle) .none kV15 dc15 pm15 an15 cd15 ct15), sl15⟩) (c15 : PySem.W.codeIn K cd15 "Lane.settle" = true) (k15 : PySem.W.keepIn K (.ref f15) = true)
    (a16 : PySem.W.findIn K (.ref C) "do" = some (some (.ref f16))) (i16 : PySem.W.isFn K (.ref f16) = true) (l16 : K.lookup f16 = some ⟨oc16, od16, .func (PySem.W.fnOf "do" "Lane.do" (defArgs s_do) (defBody s_do) (defScope s_do) .none kV16 dc16 pm16 an16 cd16 ct16), sl16⟩) (c16 : PySem.W.codeIn K cd16 "Lane.do" = true) (k16 : PySem.W.keepIn K (.ref f16) = true)
    (a17 : PySem.W.nsIn K mainGlobals "turns_by" = some (some (.ref f17))) (l17 : K.lookup f17 = some ⟨oc17, od17, .func (PySem.W.fnOf "turns_by" "turns_by" (defArgs s_turns_by) (defBody s_turns_by) (defScope s_turns_by) .none kV17 dc17 pm17 an17 cd17 ct17), sl17⟩) (c17 : PySem.W.codeIn K cd17 "turns_by" = true) (k17 : PySem.W.keepIn K (.ref f17) = true)
    (a18 : PySem.W.nsIn K mainGlobals "_law_by_hand" = some (some (.ref f18))) (l18 : K.lookup f18 = some ⟨oc18, od18, .func (PySem.W.fnOf "_law_by_hand" "_law_by_hand" (defArgs s_l_by_hand) (defBody s_l_by_hand) (defScope s_l_by_hand) .none kV18 dc18 pm18 an18 cd18 ct18), sl18⟩) (c18 : PySem.W.codeIn K cd18 "_law_by_hand" = true) (k18 : PySem.W.keepIn K (.ref f18) = true)
    (a19 : PySem.W.nsIn K mainGlobals "_law_step" = some (some (.ref f19))) (l19 : K.lookup f19 = some ⟨oc19, od19, .func (PySem.W.fnOf "_law_step" "_law_step" (defArgs s_l_step) (defBody s_l_step) (defScope s_l_step) .none kV19 dc19 pm19 an19 cd19 ct19), sl19⟩) (c19 : PySem.W.codeIn K cd19 "_law_step" = true) (k19 : PySem.W.keepIn K (.ref f19) = true)
    (a20 : PySem.W.nsIn K mainGlobals "_law_is_ahead" = some (some (.ref f20))) (l20 : K.lookup f20 = some ⟨oc20, od20, .func (PySem.W.fnOf "_law_is_ahead" "_law_is_ahead" (defArgs s_l_is_ahead) (defBody s_l_is_ahead) (defScope s_l_is_ahead) .none kV20 dc20 pm20 an20 cd20 ct20), sl20⟩) (c20 : PySem.W.codeIn K cd20 "_law_is_ahead" = true) (k20 : PySem.W.keepIn K (.ref f20) = true)
    (a21 : PySem.W.nsIn K mainGlobals "_law_wrong_pairs" = some (some (.ref f21))) (l21 : K.lookup f21 = some ⟨oc21, od21, .func (PySem.W.fnOf "_law_wrong_pairs" "_law_wrong_pairs" (defArgs s_l_wrong_pairs) (defBody s_l_wrong_pairs) (defScope s_l_wrong_pairs) .none kV21 dc21 pm21 an21 cd21 ct21), sl21⟩) (c21 : PySem.W.codeIn K cd21 "_law_wrong_pairs" = true) (k21 : PySem.W.keepIn K (.ref f21) = true)
    (a22 : PySem.W.nsIn K mainGlobals "_law_lane_done" = some (some (.ref f22))) (l22 : K.lookup f22 = some ⟨oc22, od22, .func (PySem.W.fnOf "_law_lane_done" "_law_lane_done" (defArgs s_l_lane_done) (defBody s_l_lane_done) (defScope s_l_lane_done) .none kV22 dc22 pm22 an22 cd22 ct22), sl22⟩) (c22 : PySem.W.codeIn K cd22 "_law_lane_done" = true) (k22 : PySem.W.keepIn K (.ref f22) = true)
    (a23 : PySem.W.nsIn K mainGlobals "_law_row" = some (some (.ref f23))) (l23 : K.lookup f23 = some ⟨oc23, od23, .func (PySem.W.fnOf "_law_row" "_law_row" (defArgs s_l_row) (defBody s_l_row) (defScope s_l_row) .none kV23 dc23 pm23 an23 cd23 ct23), sl23⟩) (c23 : PySem.W.codeIn K cd23 "_law_row" = true) (k23 : PySem.W.keepIn K (.ref f23) = true)
    (a24 : PySem.W.nsIn K mainGlobals "_law_turns" = some (some (.ref f24))) (l24 : K.lookup f24 = some ⟨oc24, od24, .func (PySem.W.fnOf "_law_turns" "_law_turns" (defArgs s_l_turns) (defBody s_l_turns) (defScope s_l_turns) .none kV24 dc24 pm24 an24 cd24 ct24), sl24⟩) (c24 : PySem.W.codeIn K cd24 "_law_turns" = true) (k24 : PySem.W.keepIn K (.ref f24) = true)
    (a25 : PySem.W.nsIn K mainGlobals "_law_bag" = some (some (.ref f25))) (l25 : K.lookup f25 = some ⟨oc25, od25, .func (PySem.W.fnOf "_law_bag" "_law_bag" (defArgs s_l_bag) (defBody s_l_bag) (defScope s_l_bag) .none kV25 dc25 pm25 an25 cd25 ct25), sl25⟩) (c25 : PySem.W.codeIn K cd25 "_law_bag" = true) (k25 : PySem.W.keepIn K (.ref f25) = true)
    (a26 : PySem.W.nsIn K mainGlobals "_law_take" = some (some (.ref f26))) (l26 : K.lookup f26 = some ⟨oc26, od26, .func (PySem.W.fnOf "_law_take" "_law_take" (defArgs s_l_take) (defBody s_l_take) (defScope s_l_take) .none kV26 dc26 pm26 an26 cd26 ct26), sl26⟩) (c26 : PySem.W.codeIn K cd26 "_law_take" = true) (k26 : PySem.W.keepIn K (.ref f26) = true)
    (a27 : PySem.W.nsIn K mainGlobals "_law_some" = some (some (.ref f27))) (l27 : K.lookup f27 = some ⟨oc27, od27, .func (PySem.W.fnOf "_law_some" "_law_some" (defArgs s_l_some) (defBody s_l_some) (defScope s_l_some) .none kV27 dc27 pm27 an27 cd27 ct27), sl27⟩) (c27 : PySem.W.codeIn K cd27 "_law_some" = true) (k27 : PySem.W.keepIn K (.ref f27) = true)
    (a28 : PySem.W.nsIn K mainGlobals "_law_alike" = some (some (.ref f28))) (l28 : K.lookup f28 = some ⟨oc28, od28, .func (PySem.W.fnOf "_law_alike" "_law_alike" (defArgs s_l_alike) (defBody s_l_alike) (defScope s_l_alike) .none kV28 dc28 pm28 an28 cd28 ct28), sl28⟩) (c28 : PySem.W.codeIn K cd28 "_law_alike" = true) (k28 : PySem.W.keepIn K (.ref f28) = true)
    (a29 : PySem.W.nsIn K mainGlobals "_law_pick" = some (some (.ref f29))) (l29 : K.lookup f29 = some ⟨oc29, od29, .func (PySem.W.fnOf "_law_pick" "_law_pick" (defArgs s_l_pick) (defBody s_l_pick) (defScope s_l_pick) .none kV29 dc29 pm29 an29 cd29 ct29), sl29⟩) (c29 : PySem.W.codeIn K cd29 "_law_pick" = true) (k29 : PySem.W.keepIn K (.ref f29) = true)
    (a30 : PySem.W.nsIn K mainGlobals "_law_taken" = some (some (.ref f30))) (l30 : K.lookup f30 = some ⟨oc30, od30, .func (PySem.W.fnOf "_law_taken" "_law_taken" (defArgs s_l_taken) (defBody s_l_taken) (defScope s_l_taken) .none kV30 dc30 pm30 an30 cd30 ct30), sl30⟩) (c30 : PySem.W.codeIn K cd30 "_law_taken" = true) (k30 : PySem.W.keepIn K (.ref f30) = true)
    (a31 : PySem.W.nsIn K mainGlobals "_law_move" = some (some (.ref f31))) (l31 : K.lookup f31 = some ⟨oc31, od31, .func (PySem.W.fnOf "_law_move" "_law_move" (defArgs s_l_move) (defBody s_l_move) (defScope s_l_move) .none kV31 dc31 pm31 an31 cd31 ct31), sl31⟩) (c31 : PySem.W.codeIn K cd31 "_law_move" = true) (k31 : PySem.W.keepIn K (.ref f31) = true)
    (a32 : PySem.W.nsIn K mainGlobals "_law_machine" = some (some (.ref f32))) (l32 : K.lookup f32 = some ⟨oc32, od32, .func (PySem.W.fnOf "_law_machine" "_law_machine" (defArgs s_l_machine) (defBody s_l_machine) (defScope s_l_machine) .none kV32 dc32 pm32 an32 cd32 ct32), sl32⟩) (c32 : PySem.W.codeIn K cd32 "_law_machine" = true) (k32 : PySem.W.keepIn K (.ref f32) = true)
    (a33 : PySem.W.nsIn K mainGlobals "_law_things" = some (some (.ref f33))) (l33 : K.lookup f33 = some ⟨oc33, od33, .func (PySem.W.fnOf "_law_things" "_law_things" (defArgs s_l_things) (defBody s_l_things) (defScope s_l_things) .none kV33 dc33 pm33 an33 cd33 ct33), sl33⟩) (c33 : PySem.W.codeIn K cd33 "_law_things" = true) (k33 : PySem.W.keepIn K (.ref f33) = true)
    (a34 : PySem.W.nsIn K mainGlobals "_law_onward" = some (some (.ref f34))) (l34 : K.lookup f34 = some ⟨oc34, od34, .func (PySem.W.fnOf "_law_onward" "_law_onward" (defArgs s_l_onward) (defBody s_l_onward) (defScope s_l_onward) .none kV34 dc34 pm34 an34 cd34 ct34), sl34⟩) (c34 : PySem.W.codeIn K cd34 "_law_onward" = true) (k34 : PySem.W.keepIn K (.ref f34) = true)
    (a35 : PySem.W.nsIn K mainGlobals "_law_run" = some (some (.ref f35))) (l35 : K.lookup f35 = some ⟨oc35, od35, .func (PySem.W.fnOf "_law_run" "_law_run" (defArgs s_l_run) (defBody s_l_run) (defScope s_l_run) .none kV35 dc35 pm35 an35 cd35 ct35), sl35⟩) (c35 : PySem.W.codeIn K cd35 "_law_run" = true) (k35 : PySem.W.keepIn K (.ref f35) = true)
    (a36 : PySem.W.nsIn K mainGlobals "law" = some (some (.ref f36))) (l36 : K.lookup f36 = some ⟨oc36, od36, .func (PySem.W.fnOf "law" "law" (defArgs s_law) (defBody s_law) (defScope s_law) .none kV36 dc36 pm36 an36 cd36 ct36), sl36⟩) (c36 : PySem.W.codeIn K cd36 "law" = true) (k36 : PySem.W.keepIn K (.ref f36) = true)
    (pg : PySem.W.plainGet K C Str.empty = true) (hd : PySem.W.hasDictIn K C = true) (po : PySem.W.plainOver K C = true) (sa : PySem.W.findIn K (.ref C) "__setattr__" = some (some (.builtin "object.__setattr__"))) (mk : PySem.W.makesIn K C = true) (kc : PySem.W.keepIn K (.ref C) = true)
    (n_m : PySem.W.findIn K (.ref C) "lane_machine" = some none)
    (n_f : PySem.W.findIn K (.ref C) "lane_figures" = some none)
    (n_o : PySem.W.findIn K (.ref C) "lane_order" = some none)
    (n_n : PySem.W.findIn K (.ref C) "lane_now" = some none)
    (z_len : PySem.W.nsIn K mainGlobals "len" = some none)
    (z_abs : PySem.W.nsIn K mainGlobals "abs" = some none)
    (z_max : PySem.W.nsIn K mainGlobals "max" = some none)
    (z_min : PySem.W.nsIn K mainGlobals "min" = some none)
    (z_repr : PySem.W.nsIn K mainGlobals "repr" = some none)
    (z_sorted : PySem.W.nsIn K mainGlobals "sorted" = some none)
    (z_isinstance : PySem.W.nsIn K mainGlobals "isinstance" = some none)
    (z_int : PySem.W.nsIn K mainGlobals "int" = some none)
    (z_bool : PySem.W.nsIn K mainGlobals "bool" = some none)
    (z_tuple : PySem.W.nsIn K mainGlobals "tuple" = some none)
    (z_list : PySem.W.nsIn K mainGlobals "list" = some none)
    (z_dict : PySem.W.nsIn K mainGlobals "dict" = some none)
    (z_range : PySem.W.nsIn K mainGlobals "range" = some none)
    (z_enumerate : PySem.W.nsIn K mainGlobals "enumerate" = some none)
    : ∃ fd : FuncData, (∀ (s : Shared) (v : Value), BindsTo s fd ⟨[v], []⟩ [("_law_script", v)]) ∧ ∀ base : Heap, K.In base → base.Ns mainGlobals mg → FnOk l.prog w K mg base CX0 7 fa fd ["_law_script"] (spLaw K) := by
  have e := hfa.symm.trans (PySem.W.mg_of X G a36)
  cases e
  have T : Txt K mg C := ⟨⟨pg, hd, po, sa⟩, PySem.W.mg_of X G aC, n_m, n_f, n_o, n_n, PySem.W.mg_none_of X G z_len, PySem.W.mg_none_of X G z_abs, PySem.W.mg_none_of X G z_max, PySem.W.mg_none_of X G z_min, PySem.W.mg_none_of X G z_repr, PySem.W.mg_none_of X G z_sorted, PySem.W.mg_none_of X G z_isinstance, PySem.W.mg_none_of X G z_int, PySem.W.mg_none_of X G z_bool, PySem.W.mg_none_of X G z_tuple, PySem.W.mg_none_of X G z_list, PySem.W.mg_none_of X G z_dict, PySem.W.mg_none_of X G z_range, PySem.W.mg_none_of X G z_enumerate⟩
  have mmost := PySem.W.mg_of X G aM
  have F1 := fun_mk (st := s_is_integer) l1 c1 k1
  have b1 := F1.binds (ps := ["thing"]) fun _ _ _ _ _ _ us hl => match us, hl with | [_], _ => rfl
  have F2 := fun_mk (st := s_is_between) l2 c2 k2
  have b2 := F2.binds (ps := ["thing", "low", "high"]) fun _ _ _ _ _ _ us hl => match us, hl with | [_, _, _], _ => rfl
  have F3 := fun_mk (st := s_is_thing) l3 c3 k3
  have b3 := F3.binds (ps := ["thing"]) fun _ _ _ _ _ _ us hl => match us, hl with | [_], _ => rfl
  have F4 := fun_mk (st := s_machine_kinds) l4 c4 k4
  have b4 := F4.binds (ps := ["machine"]) fun _ _ _ _ _ _ us hl => match us, hl with | [_], _ => rfl
  have F5 := fun_mk (st := s_machine_deeds) l5 c5 k5
  have b5 := F5.binds (ps := ["machine"]) fun _ _ _ _ _ _ us hl => match us, hl with | [_], _ => rfl
  have F6 := fun_mk (st := s_place_by) l6 c6 k6
  have b6 := F6.binds (ps := ["machine", "row", "figure"]) fun _ _ _ _ _ _ us hl => match us, hl with | [_, _, _], _ => rfl
  have F7 := fun_mk (st := s_is_ahead_by) l7 c7 k7
  have b7 := F7.binds (ps := ["machine", "row", "one", "other"]) fun _ _ _ _ _ _ us hl => match us, hl with | [_, _, _, _], _ => rfl
  have F8 := fun_mk (st := s_figure_behind) l8 c8 k8
  have b8 := F8.binds (ps := ["machine", "figure", "deed", "moment"]) fun _ _ _ _ _ _ us hl => match us, hl with | [_, _, _, _], _ => rfl
  have F9 := fun_mk (st := s_check_tuple) l9 c9 k9
  have b9 := F9.binds (ps := ["machine", "deed", "thing", "place"]) fun _ _ _ _ _ _ us hl => match us, hl with | [_, _, _, _], _ => rfl
  have F10 := fun_mk (st := s_changed_figure) l10 c10 k10
  have b10 := F10.binds (ps := ["machine", "figures", "deed", "thing", "now"]) fun _ _ _ _ _ _ us hl => match us, hl with | [_, _, _, _, _], _ => rfl
  have F11 := fun_mk (st := s_init) l11 c11 k11
  have b11 := F11.binds (ps := ["self", "machine", "figures", "order"]) fun _ _ _ _ _ _ us hl => match us, hl with | [_, _, _, _], _ => rfl
  have F12 := fun_mk (st := s_is_wrong) l12 c12 k12
  have b12 := F12.binds (ps := ["self", "first", "second"]) fun _ _ _ _ _ _ us hl => match us, hl with | [_, _, _], _ => rfl
  have F13 := fun_mk (st := s_wrong_at) l13 c13 k13
  have b13 := F13.binds (ps := ["self"]) fun _ _ _ _ _ _ us hl => match us, hl with | [_], _ => rfl
  have F14 := fun_mk (st := s_change_places) l14 c14 k14
  have b14 := F14.binds (ps := ["self", "index"]) fun _ _ _ _ _ _ us hl => match us, hl with | [_, _], _ => rfl
  have F15 := fun_mk (st := s_settle) l15 c15 k15
  have b15 := F15.binds (ps := ["self"]) fun _ _ _ _ _ _ us hl => match us, hl with | [_], _ => rfl
  have F16 := fun_mk (st := s_do) l16 c16 k16
  have b16 := F16.binds (ps := ["self", "deed", "thing"]) fun _ _ _ _ _ _ us hl => match us, hl with | [_, _, _], _ => rfl
  have F17 := fun_mk (st := s_turns_by) l17 c17 k17
  have b17 := F17.binds (ps := ["machine", "run", "stops"]) fun _ _ _ _ _ _ us hl => match us, hl with | [_, _, _], _ => rfl
  have F18 := fun_mk (st := s_l_by_hand) l18 c18 k18
  have b18 := F18.binds (ps := ["_law_machine_here", "_law_run_here", "_law_stops"]) fun _ _ _ _ _ _ us hl => match us, hl with | [_, _, _], _ => rfl
  have F19 := fun_mk (st := s_l_step) l19 c19 k19
  have b19 := F19.binds (ps := ["_law_machine_here", "_law_there", "_law_now", "_law_deed", "_law_thing"]) fun _ _ _ _ _ _ us hl => match us, hl with | [_, _, _, _, _], _ => rfl
  have F20 := fun_mk (st := s_l_is_ahead) l20 c20 k20
  have b20 := F20.binds (ps := ["_law_machine_here", "_law_row_here", "_law_one", "_law_other"]) fun _ _ _ _ _ _ us hl => match us, hl with | [_, _, _, _], _ => rfl
  have F21 := fun_mk (st := s_l_wrong_pairs) l21 c21 k21
  have b21 := F21.binds (ps := ["_law_machine_here", "_law_there", "_law_order"]) fun _ _ _ _ _ _ us hl => match us, hl with | [_, _, _], _ => rfl
  have F22 := fun_mk (st := s_l_lane_done) l22 c22 k22
  have b22 := F22.binds (ps := ["_law_order", "_law_deed", "_law_thing"]) fun _ _ _ _ _ _ us hl => match us, hl with | [_, _, _], _ => rfl
  have F23 := fun_mk (st := s_l_row) l23 c23 k23
  have b23 := F23.binds (ps := ["_law_machine_here", "_law_row_here", "_law_there"]) fun _ _ _ _ _ _ us hl => match us, hl with | [_, _, _], _ => rfl
  have F24 := fun_mk (st := s_l_turns) l24 c24 k24
  have b24 := F24.binds (ps := ["_law_machine_here", "_law_run_here", "_law_stops"]) fun _ _ _ _ _ _ us hl => match us, hl with | [_, _, _], _ => rfl
  have F25 := fun_mk (st := s_l_bag) l25 c25 k25
  have b25 := F25.binds (ps := ["_law_script"]) fun _ _ _ _ _ _ us hl => match us, hl with | [_], _ => rfl
  have F26 := fun_mk (st := s_l_take) l26 c26 k26
  have b26 := F26.binds (ps := ["_law_bag_here", "_law_upto"]) fun _ _ _ _ _ _ us hl => match us, hl with | [_, _], _ => rfl
  have F27 := fun_mk (st := s_l_some) l27 c27 k27
  have b27 := F27.binds (ps := ["_law_bag_here", "_law_things_here"]) fun _ _ _ _ _ _ us hl => match us, hl with | [_, _], _ => rfl
  have F28 := fun_mk (st := s_l_alike) l28 c28 k28
  have b28 := F28.binds (ps := ["_law_found", "_law_due"]) fun _ _ _ _ _ _ us hl => match us, hl with | [_, _], _ => rfl
  have F29 := fun_mk (st := s_l_pick) l29 c29 k29
  have b29 := F29.binds (ps := ["_law_bag_here", "_law_size", "_law_many"]) fun _ _ _ _ _ _ us hl => match us, hl with | [_, _, _], _ => rfl
  have F30 := fun_mk (st := s_l_taken) l30 c30 k30
  have b30 := F30.binds (ps := ["_law_bag_here", "_law_before", "_law_behind"]) fun _ _ _ _ _ _ us hl => match us, hl with | [_, _, _], _ => rfl
  have F31 := fun_mk (st := s_l_move) l31 c31 k31
  have b31 := F31.binds (ps := ["_law_bag_here", "_law_lives", "_law_point"]) fun _ _ _ _ _ _ us hl => match us, hl with | [_, _, _], _ => rfl
  have F32 := fun_mk (st := s_l_machine) l32 c32 k32
  have b32 := F32.binds (ps := ["_law_bag_here", "_law_kinds", "_law_most", "_law_deeds", "_law_rows", "_law_wide"]) fun _ _ _ _ _ _ us hl => match us, hl with | [_, _, _, _, _, _], _ => rfl
  have F33 := fun_mk (st := s_l_things) l33 c33 k33
  have b33 := F33.binds (ps := ["_law_bag_here", "_law_kinds", "_law_many"]) fun _ _ _ _ _ _ us hl => match us, hl with | [_, _, _], _ => rfl
  have F34 := fun_mk (st := s_l_onward) l34 c34 k34
  have b34 := F34.binds (ps := ["_law_bag_here", "_law_machine_here", "_law_there", "_law_things_here"]) fun _ _ _ _ _ _ us hl => match us, hl with | [_, _, _, _], _ => rfl
  have F35 := fun_mk (st := s_l_run) l35 c35 k35
  have b35 := F35.binds (ps := ["_law_bag_here", "_law_machine_here", "_law_things_here", "_law_many"]) fun _ _ _ _ _ _ us hl => match us, hl with | [_, _, _, _], _ => rfl
  have F36 := fun_mk (st := s_law) l36 c36 k36
  refine ⟨PySem.W.fnOf "law" "law" (defArgs s_law) (defBody s_law) (defScope s_law) .none kV36 dc36 pm36 an36 cd36 ct36, fun s v => .of_eq rfl, fun base _ _ => ?_⟩
  have g1 : FnOk l.prog w K mg base CX0 1 f1 _ ["thing"] spIsInteger := ok_is_integer F1 T
  have c_is_integer : Callee l.prog w K mg base "is_integer" 1 ["thing"] spIsInteger := ⟨f1, _, g1, PySem.W.mg_of X G a1, k1, b1⟩
  have g2 : FnOk l.prog w K mg base CX0 2 f2 _ ["thing", "low", "high"] spIsBetween := ok_is_between F2 c_is_integer
  have c_is_between : Callee l.prog w K mg base "is_between" 2 ["thing", "low", "high"] spIsBetween := ⟨f2, _, g2, PySem.W.mg_of X G a2, k2, b2⟩
  have g3 : FnOk l.prog w K mg base CX0 3 f3 _ ["thing"] spIsThing := ok_is_thing F3 T mmost c_is_between
  have c_is_thing : Callee l.prog w K mg base "is_thing" 3 ["thing"] spIsThing := ⟨f3, _, g3, PySem.W.mg_of X G a3, k3, b3⟩
  have g4 : FnOk l.prog w K mg base CX0 1 f4 _ ["machine"] spKinds := ok_machine_kinds F4 T
  have c_machine_kinds : Callee l.prog w K mg base "machine_kinds" 1 ["machine"] spKinds := ⟨f4, _, g4, PySem.W.mg_of X G a4, k4, b4⟩
  have g5 : FnOk l.prog w K mg base CX0 1 f5 _ ["machine"] spDeeds := ok_machine_deeds F5 T
  have c_machine_deeds : Callee l.prog w K mg base "machine_deeds" 1 ["machine"] spDeeds := ⟨f5, _, g5, PySem.W.mg_of X G a5, k5, b5⟩
  have g6 : FnOk l.prog w K mg base CX0 1 f6 _ ["machine", "row", "figure"] spPlace := ok_place_by F6
  have c_place_by : Callee l.prog w K mg base "place_by" 1 ["machine", "row", "figure"] spPlace := ⟨f6, _, g6, PySem.W.mg_of X G a6, k6, b6⟩
  have g7 : FnOk l.prog w K mg base CX0 2 f7 _ ["machine", "row", "one", "other"] spAheadBy := ok_is_ahead_by F7 c_place_by
  have c_is_ahead_by : Callee l.prog w K mg base "is_ahead_by" 2 ["machine", "row", "one", "other"] spAheadBy := ⟨f7, _, g7, PySem.W.mg_of X G a7, k7, b7⟩
  have g8 : FnOk l.prog w K mg base CX0 1 f8 _ ["machine", "figure", "deed", "moment"] spBehind := ok_figure_behind F8 T
  have c_figure_behind : Callee l.prog w K mg base "figure_behind" 1 ["machine", "figure", "deed", "moment"] spBehind := ⟨f8, _, g8, PySem.W.mg_of X G a8, k8, b8⟩
  have g9 : FnOk l.prog w K mg base CX0 4 f9 _ ["machine", "deed", "thing", "place"] spCheck := ok_check_tuple F9 c_is_integer c_machine_deeds c_is_thing c_machine_kinds
  have c_check_tuple : Callee l.prog w K mg base "check_tuple" 4 ["machine", "deed", "thing", "place"] spCheck := ⟨f9, _, g9, PySem.W.mg_of X G a9, k9, b9⟩
  have g10 : FnOk l.prog w K mg base CX0 2 f10 _ ["machine", "figures", "deed", "thing", "now"] spChanged := ok_changed_figure F10 c_figure_behind
  have c_changed_figure : Callee l.prog w K mg base "changed_figure" 2 ["machine", "figures", "deed", "thing", "now"] spChanged := ⟨f10, _, g10, PySem.W.mg_of X G a10, k10, b10⟩
  have g11 : FnOk l.prog w K mg base CX0 1 f11 _ ["self", "machine", "figures", "order"] (spInit C) := ok_init F11 T
  have mk_init : Mk K C f11 := ⟨mk, a11, i11, kc⟩
  have g_init := g11
  have b_init := b11
  have g12 : FnOk l.prog w K mg base CX0 3 f12 _ ["self", "first", "second"] (spIsWrong C) := ok_is_wrong F12 T c_is_ahead_by
  have c_is_wrong : CalleeM l.prog w K mg base C "is_wrong" 3 ["self", "first", "second"] (spIsWrong C) := ⟨f12, _, g12, ⟨a12, i12, k12⟩, b12⟩
  have g13 : FnOk l.prog w K mg base CX0 4 f13 _ ["self"] (spWrongAt C) := ok_wrong_at F13 T c_is_wrong
  have c_wrong_at : CalleeM l.prog w K mg base C "wrong_at" 4 ["self"] (spWrongAt C) := ⟨f13, _, g13, ⟨a13, i13, k13⟩, b13⟩
  have g14 : FnOk l.prog w K mg base CX0 1 f14 _ ["self", "index"] (spSwap C) := ok_change_places F14 T
  have c_change_places : CalleeM l.prog w K mg base C "change_places" 1 ["self", "index"] (spSwap C) := ⟨f14, _, g14, ⟨a14, i14, k14⟩, b14⟩
  have g15 : FnOk l.prog w K mg base CX0 5 f15 _ ["self"] (spSettle C) := ok_settle F15 T c_wrong_at c_change_places
  have c_settle : CalleeM l.prog w K mg base C "settle" 5 ["self"] (spSettle C) := ⟨f15, _, g15, ⟨a15, i15, k15⟩, b15⟩
  have g16 : FnOk l.prog w K mg base CX0 5 f16 _ ["self", "deed", "thing"] (spDo C) := ok_do F16 T c_check_tuple c_changed_figure
  have c_do : CalleeM l.prog w K mg base C "do" 5 ["self", "deed", "thing"] (spDo C) := ⟨f16, _, g16, ⟨a16, i16, k16⟩, b16⟩
  have g17 : FnOk l.prog w K mg base CX0 6 f17 _ ["machine", "run", "stops"] spTurns := ok_turns_by F17 T mk_init g_init b_init c_do c_settle
  have c_turns_by : Callee l.prog w K mg base "turns_by" 6 ["machine", "run", "stops"] spTurns := ⟨f17, _, g17, PySem.W.mg_of X G a17, k17, b17⟩
  have g18 : FnOk l.prog w K mg base CX0 6 f18 _ ["_law_machine_here", "_law_run_here", "_law_stops"] spTurns := ok_by_hand F18 T mk_init g_init b_init c_do c_settle
  have c__law_by_hand : Callee l.prog w K mg base "_law_by_hand" 6 ["_law_machine_here", "_law_run_here", "_law_stops"] spTurns := ⟨f18, _, g18, PySem.W.mg_of X G a18, k18, b18⟩
  have g19 : FnOk l.prog w K mg base CX0 1 f19 _ ["_law_machine_here", "_law_there", "_law_now", "_law_deed", "_law_thing"] spStep := ok_step F19 T
  have c__law_step : Callee l.prog w K mg base "_law_step" 1 ["_law_machine_here", "_law_there", "_law_now", "_law_deed", "_law_thing"] spStep := ⟨f19, _, g19, PySem.W.mg_of X G a19, k19, b19⟩
  have g20 : FnOk l.prog w K mg base CX0 1 f20 _ ["_law_machine_here", "_law_row_here", "_law_one", "_law_other"] spLAhead := ok_l_is_ahead F20
  have c__law_is_ahead : Callee l.prog w K mg base "_law_is_ahead" 1 ["_law_machine_here", "_law_row_here", "_law_one", "_law_other"] spLAhead := ⟨f20, _, g20, PySem.W.mg_of X G a20, k20, b20⟩
  have g21 : FnOk l.prog w K mg base CX0 2 f21 _ ["_law_machine_here", "_law_there", "_law_order"] spPairs := ok_l_wrong_pairs F21 T c__law_is_ahead
  have c__law_wrong_pairs : Callee l.prog w K mg base "_law_wrong_pairs" 2 ["_law_machine_here", "_law_there", "_law_order"] spPairs := ⟨f21, _, g21, PySem.W.mg_of X G a21, k21, b21⟩
  have g22 : FnOk l.prog w K mg base CX0 1 f22 _ ["_law_order", "_law_deed", "_law_thing"] spDone := ok_l_lane_done F22
  have c__law_lane_done : Callee l.prog w K mg base "_law_lane_done" 1 ["_law_order", "_law_deed", "_law_thing"] spDone := ⟨f22, _, g22, PySem.W.mg_of X G a22, k22, b22⟩
  have g23 : FnOk l.prog w K mg base CX0 2 f23 _ ["_law_machine_here", "_law_row_here", "_law_there"] spRow := ok_l_row F23 T c__law_is_ahead
  have c__law_row : Callee l.prog w K mg base "_law_row" 2 ["_law_machine_here", "_law_row_here", "_law_there"] spRow := ⟨f23, _, g23, PySem.W.mg_of X G a23, k23, b23⟩
  have g24 : FnOk l.prog w K mg base CX0 3 f24 _ ["_law_machine_here", "_law_run_here", "_law_stops"] spTurns := ok_l_turns F24 T c__law_step c__law_lane_done c__law_wrong_pairs c__law_row
  have c__law_turns : Callee l.prog w K mg base "_law_turns" 3 ["_law_machine_here", "_law_run_here", "_law_stops"] spTurns := ⟨f24, _, g24, PySem.W.mg_of X G a24, k24, b24⟩
  have g25 : FnOk l.prog w K mg base CX0 1 f25 _ ["_law_script"] (spBag K) := ok_l_bag F25 T
  have c__law_bag : Callee l.prog w K mg base "_law_bag" 1 ["_law_script"] (spBag K) := ⟨f25, _, g25, PySem.W.mg_of X G a25, k25, b25⟩
  have g26 : FnOk l.prog w K mg base CX0 1 f26 _ ["_law_bag_here", "_law_upto"] spTake := ok_l_take F26 T
  have c__law_take : Callee l.prog w K mg base "_law_take" 1 ["_law_bag_here", "_law_upto"] spTake := ⟨f26, _, g26, PySem.W.mg_of X G a26, k26, b26⟩
  have g27 : FnOk l.prog w K mg base CX0 2 f27 _ ["_law_bag_here", "_law_things_here"] spSome := ok_l_some F27 T c__law_take
  have c__law_some : Callee l.prog w K mg base "_law_some" 2 ["_law_bag_here", "_law_things_here"] spSome := ⟨f27, _, g27, PySem.W.mg_of X G a27, k27, b27⟩
  have g28 : FnOk l.prog w K mg base CX0 1 f28 _ ["_law_found", "_law_due"] spAlike := ok_l_alike F28 T
  have c__law_alike : Callee l.prog w K mg base "_law_alike" 1 ["_law_found", "_law_due"] spAlike := ⟨f28, _, g28, PySem.W.mg_of X G a28, k28, b28⟩
  have g29 : FnOk l.prog w K mg base CX0 2 f29 _ ["_law_bag_here", "_law_size", "_law_many"] spPick := ok_l_pick F29 T c__law_take
  have c__law_pick : Callee l.prog w K mg base "_law_pick" 2 ["_law_bag_here", "_law_size", "_law_many"] spPick := ⟨f29, _, g29, PySem.W.mg_of X G a29, k29, b29⟩
  have g30 : FnOk l.prog w K mg base CX0 3 f30 _ ["_law_bag_here", "_law_before", "_law_behind"] spTaken := ok_l_taken F30 T c__law_take c__law_pick
  have c__law_taken : Callee l.prog w K mg base "_law_taken" 3 ["_law_bag_here", "_law_before", "_law_behind"] spTaken := ⟨f30, _, g30, PySem.W.mg_of X G a30, k30, b30⟩
  have g31 : FnOk l.prog w K mg base CX0 4 f31 _ ["_law_bag_here", "_law_lives", "_law_point"] spMove := ok_l_move F31 T c__law_take c__law_taken
  have c__law_move : Callee l.prog w K mg base "_law_move" 4 ["_law_bag_here", "_law_lives", "_law_point"] spMove := ⟨f31, _, g31, PySem.W.mg_of X G a31, k31, b31⟩
  have g32 : FnOk l.prog w K mg base CX0 5 f32 _ ["_law_bag_here", "_law_kinds", "_law_most", "_law_deeds", "_law_rows", "_law_wide"] spMachine := ok_l_machine F32 T c__law_take c__law_some c__law_move
  have c__law_machine : Callee l.prog w K mg base "_law_machine" 5 ["_law_bag_here", "_law_kinds", "_law_most", "_law_deeds", "_law_rows", "_law_wide"] spMachine := ⟨f32, _, g32, PySem.W.mg_of X G a32, k32, b32⟩
  have g33 : FnOk l.prog w K mg base CX0 3 f33 _ ["_law_bag_here", "_law_kinds", "_law_many"] spThings := ok_l_things F33 T c__law_take c__law_some
  have c__law_things : Callee l.prog w K mg base "_law_things" 3 ["_law_bag_here", "_law_kinds", "_law_many"] spThings := ⟨f33, _, g33, PySem.W.mg_of X G a33, k33, b33⟩
  have g34 : FnOk l.prog w K mg base CX0 3 f34 _ ["_law_bag_here", "_law_machine_here", "_law_there", "_law_things_here"] spOnward := ok_l_onward F34 T c__law_take c__law_some
  have c__law_onward : Callee l.prog w K mg base "_law_onward" 3 ["_law_bag_here", "_law_machine_here", "_law_there", "_law_things_here"] spOnward := ⟨f34, _, g34, PySem.W.mg_of X G a34, k34, b34⟩
  have g35 : FnOk l.prog w K mg base CX0 4 f35 _ ["_law_bag_here", "_law_machine_here", "_law_things_here", "_law_many"] spRun := ok_l_run F35 T c__law_step c__law_onward
  have c__law_run : Callee l.prog w K mg base "_law_run" 4 ["_law_bag_here", "_law_machine_here", "_law_things_here", "_law_many"] spRun := ⟨f35, _, g35, PySem.W.mg_of X G a35, k35, b35⟩
  exact ok_law F36 T c__law_bag c__law_take c__law_machine c__law_things c__law_run c_turns_by c__law_turns c__law_by_hand c__law_alike
theorem walk {l : PySem.W.OpenLaw} {q : Program} {loose : List Str} {XP : (Str → Option Value) → Heap → Prop} {YP : World → Heap → Prop} {d : DefRec} {K : Params → PySem.W.Frag} (hn : l.most = some 63) (hdf : d.params.defaults = [])
    (hY : ∀ (w : World) (h : Heap), YP w h → (K w.params).In h)
    (F : ∀ (w : World) (mg : Str → Option Value) (fa : Addr) (h : Heap), (K w.params).In h → h.Ns mainGlobals mg → mg d.name = some (.ref fa) →
      ∃ fd : FuncData, (∀ (s : Shared) (u : Value), BindsTo s fd ⟨[u], []⟩ [("_law_script", u)]) ∧ ∀ base : Heap, (K w.params).In base → base.Ns mainGlobals mg → FnOk l.prog w (K w.params) mg base CX0 7 fa fd ["_law_script"] (spLaw (K w.params))) :
    PySem.W.WalkO q loose XP YP l.row.toRowW d [] (fun f vs => PySem.call f vs) :=
  L2.walk_of (n := 63) (k := 7) (x := "_law_script") (CX := fun _ => CX0) (sp := fun w => spLaw (K w.params)) hn (by decide) hdf ⟨rfl, by decide, by decide⟩ hY F (fun _ _ a ns hl _ hS => ⟨a, ns, rfl, hS, hl, fun _ => rfl⟩) fun _ _ _ _ _ z => z
end Own

open PySem PySem.W PyProof.Rows in
set_option maxRecDepth 100000 in
set_option maxHeartbeats 0 in
theorem PySem.Challenge.cw_ownmoment_k63_whole_more_stops_holds : PySem.Challenge.rw_ownmoment_k63_whole_more_stops.Holds := by
  w_on; o_law; k_head; (case hw => w_witness2)
  k_fill
  refine Own.walk (l := PySem.Challenge.rw_ownmoment_k63_whole_more_stops) rfl rfl (fun w h Y => PySem.W.kIn_of Y) ?F
  case F =>
    intro w mg fa h KX G hmg
    refine' Own.all_mk KX G hmg ?aC ?aM ?a1 ?l1 ?c1 ?k1 ?a2 ?l2 ?c2 ?k2 ?a3 ?l3 ?c3 ?k3 ?a4 ?l4 ?c4 ?k4 ?a5 ?l5 ?c5 ?k5 ?a6 ?l6 ?c6 ?k6 ?a7 ?l7 ?c7 ?k7 ?a8 ?l8 ?c8 ?k8 ?a9 ?l9 ?c9 ?k9 ?a10 ?l10 ?c10 ?k10 ?a11 ?i11 ?l11 ?c11 ?k11 ?a12 ?i12 ?l12 ?c12 ?k12 ?a13 ?i13 ?l13 ?c13 ?k13 ?a14 ?i14 ?l14 ?c14 ?k14 ?a15 ?i15 ?l15 ?c15 ?k15 ?a16 ?i16 ?l16 ?c16 ?k16 ?a17 ?l17 ?c17 ?k17 ?a18 ?l18 ?c18 ?k18 ?a19 ?l19 ?c19 ?k19 ?a20 ?l20 ?c20 ?k20 ?a21 ?l21 ?c21 ?k21 ?a22 ?l22 ?c22 ?k22 ?a23 ?l23 ?c23 ?k23 ?a24 ?l24 ?c24 ?k24 ?a25 ?l25 ?c25 ?k25 ?a26 ?l26 ?c26 ?k26 ?a27 ?l27 ?c27 ?k27 ?a28 ?l28 ?c28 ?k28 ?a29 ?l29 ?c29 ?k29 ?a30 ?l30 ?c30 ?k30 ?a31 ?l31 ?c31 ?k31 ?a32 ?l32 ?c32 ?k32 ?a33 ?l33 ?c33 ?k33 ?a34 ?l34 ?c34 ?k34 ?a35 ?l35 ?c35 ?k35 ?a36 ?l36 ?c36 ?k36 ?pg ?hd ?po ?sa ?mk ?kc ?n_m ?n_f ?n_o ?n_n ?z_len ?z_abs ?z_max ?z_min ?z_repr ?z_sorted ?z_isinstance ?z_int ?z_bool ?z_tuple ?z_list ?z_dict ?z_range ?z_enumerate
    (case aC => k_is)
    (case aM => k_is)
    (case a1 => k_is)
    (case l1 => k_is)
    (case c1 => k_is)
    (case k1 => k_is)
    (case a2 => k_is)
    (case l2 => k_is)
    (case c2 => k_is)
    (case k2 => k_is)
    (case a3 => k_is)
    (case l3 => k_is)
    (case c3 => k_is)
    (case k3 => k_is)
    (case a4 => k_is)
    (case l4 => k_is)
    (case c4 => k_is)
    (case k4 => k_is)
    (case a5 => k_is)
    (case l5 => k_is)
    (case c5 => k_is)
    (case k5 => k_is)
    (case a6 => k_is)
    (case l6 => k_is)
    (case c6 => k_is)
    (case k6 => k_is)
    (case a7 => k_is)
    (case l7 => k_is)
    (case c7 => k_is)
    (case k7 => k_is)
    (case a8 => k_is)
    (case l8 => k_is)
    (case c8 => k_is)
    (case k8 => k_is)
    (case a9 => k_is)
    (case l9 => k_is)
    (case c9 => k_is)
    (case k9 => k_is)
    (case a10 => k_is)
    (case l10 => k_is)
    (case c10 => k_is)
    (case k10 => k_is)
    (case a11 => k_is)
    (case i11 => k_is)
    (case l11 => k_is)
    (case c11 => k_is)
    (case k11 => k_is)
    (case a12 => k_is)
    (case i12 => k_is)
    (case l12 => k_is)
    (case c12 => k_is)
    (case k12 => k_is)
    (case a13 => k_is)
    (case i13 => k_is)
    (case l13 => k_is)
    (case c13 => k_is)
    (case k13 => k_is)
    (case a14 => k_is)
    (case i14 => k_is)
    (case l14 => k_is)
    (case c14 => k_is)
    (case k14 => k_is)
    (case a15 => k_is)
    (case i15 => k_is)
    (case l15 => k_is)
    (case c15 => k_is)
    (case k15 => k_is)
    (case a16 => k_is)
    (case i16 => k_is)
    (case l16 => k_is)
    (case c16 => k_is)
    (case k16 => k_is)
    (case a17 => k_is)
    (case l17 => k_is)
    (case c17 => k_is)
    (case k17 => k_is)
    (case a18 => k_is)
    (case l18 => k_is)
    (case c18 => k_is)
    (case k18 => k_is)
    (case a19 => k_is)
    (case l19 => k_is)
    (case c19 => k_is)
    (case k19 => k_is)
    (case a20 => k_is)
    (case l20 => k_is)
    (case c20 => k_is)
    (case k20 => k_is)
    (case a21 => k_is)
    (case l21 => k_is)
    (case c21 => k_is)
    (case k21 => k_is)
    (case a22 => k_is)
    (case l22 => k_is)
    (case c22 => k_is)
    (case k22 => k_is)
    (case a23 => k_is)
    (case l23 => k_is)
    (case c23 => k_is)
    (case k23 => k_is)
    (case a24 => k_is)
    (case l24 => k_is)
    (case c24 => k_is)
    (case k24 => k_is)
    (case a25 => k_is)
    (case l25 => k_is)
    (case c25 => k_is)
    (case k25 => k_is)
    (case a26 => k_is)
    (case l26 => k_is)
    (case c26 => k_is)
    (case k26 => k_is)
    (case a27 => k_is)
    (case l27 => k_is)
    (case c27 => k_is)
    (case k27 => k_is)
    (case a28 => k_is)
    (case l28 => k_is)
    (case c28 => k_is)
    (case k28 => k_is)
    (case a29 => k_is)
    (case l29 => k_is)
    (case c29 => k_is)
    (case k29 => k_is)
    (case a30 => k_is)
    (case l30 => k_is)
    (case c30 => k_is)
    (case k30 => k_is)
    (case a31 => k_is)
    (case l31 => k_is)
    (case c31 => k_is)
    (case k31 => k_is)
    (case a32 => k_is)
    (case l32 => k_is)
    (case c32 => k_is)
    (case k32 => k_is)
    (case a33 => k_is)
    (case l33 => k_is)
    (case c33 => k_is)
    (case k33 => k_is)
    (case a34 => k_is)
    (case l34 => k_is)
    (case c34 => k_is)
    (case k34 => k_is)
    (case a35 => k_is)
    (case l35 => k_is)
    (case c35 => k_is)
    (case k35 => k_is)
    (case a36 => k_is)
    (case l36 => k_is)
    (case c36 => k_is)
    (case k36 => k_is)
    (case pg => k_is)
    (case hd => k_is)
    (case po => k_is)
    (case sa => k_is)
    (case mk => k_is)
    (case kc => k_is)
    (case n_m => k_is)
    (case n_f => k_is)
    (case n_o => k_is)
    (case n_n => k_is)
    (case z_len => k_is)
    (case z_abs => k_is)
    (case z_max => k_is)
    (case z_min => k_is)
    (case z_repr => k_is)
    (case z_sorted => k_is)
    (case z_isinstance => k_is)
    (case z_int => k_is)
    (case z_bool => k_is)
    (case z_tuple => k_is)
    (case z_list => k_is)
    (case z_dict => k_is)
    (case z_range => k_is)
    (case z_enumerate => k_is)
#print axioms PySem.Challenge.cw_ownmoment_k63_whole_more_stops_holds
