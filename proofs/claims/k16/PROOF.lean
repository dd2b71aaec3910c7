import PyProof.Rows.All
import Wide.All
import OpenK.AllK
import Wide.FinOn
import HandS.ForMost
import HandS.Keys
import HandS.Sort
import HandS.TupSets
import KE.KDictCopyH
import KE.KDictSum
import HandS.TupMul
import HandS.TupAny
import HandS.Walk
import KE.GoesEnum
import PySem.Challenge.RW_lampsaloft_k16_whole_never_fewer_rows
import HandS.Star
import HandS.Zip
import HandS.Ends
set_option Elab.async false
set_option linter.all false
namespace K16
/-! ### stretches -/
/-- how many of xs lie from t on and below t + s -/
def cnt (s : Int) (xs : List Int) (t : Int) : Nat := xs.countP fun y => decide (t ≤ y) && decide (y < t + s)
/-- m is the greatest number of a stretch -/
structure IsW (s : Int) (xs : List Int) (m : Nat) : Prop where
  top : ∀ t, cnt s xs t ≤ m
  hit : ∃ t, m ≤ cnt s xs t
theorem IsW.uniq {s : Int} {xs : List Int} {m n : Nat} (a : IsW s xs m) (b : IsW s xs n) : m = n := by
  obtain ⟨t, ht⟩ := a.hit
  obtain ⟨u, hu⟩ := b.hit
  have h1 := b.top t
  have h2 := a.top u
  omega
theorem cnt_le_length (s : Int) (xs : List Int) (t : Int) : cnt s xs t ≤ xs.length := List.countP_le_length
theorem IsW.le_length {s : Int} {xs : List Int} {m : Nat} (a : IsW s xs m) : m ≤ xs.length := by
  obtain ⟨t, ht⟩ := a.hit
  exact Nat.le_trans ht (cnt_le_length s xs t)
theorem IsW.mono {s s' : Int} {xs ys : List Int} {m n : Nat} (a : IsW s xs m) (b : IsW s' ys n) (k : ∀ t, ∃ u, cnt s xs t ≤ cnt s' ys u) : m ≤ n := by
  obtain ⟨t, ht⟩ := a.hit
  obtain ⟨u, hu⟩ := k t
  exact Nat.le_trans ht (Nat.le_trans hu (b.top u))
theorem cnt_append (s : Int) (xs ys : List Int) (t : Int) : cnt s (xs ++ ys) t = cnt s xs t + cnt s ys t := List.countP_append
theorem cnt_perm {s : Int} {xs ys : List Int} (p : xs.Perm ys) (t : Int) : cnt s xs t = cnt s ys t := p.countP_eq _
theorem cnt_nil (s t : Int) : cnt s [] t = 0 := rfl
theorem cnt_wider {s s' : Int} (h : s ≤ s') (xs : List Int) (t : Int) : cnt s xs t ≤ cnt s' xs t := by
  refine List.countP_mono_left fun y _ e => ?_
  simp only [Bool.and_eq_true, decide_eq_true_eq] at e ⊢
  omega
theorem cnt_moved (s c : Int) (xs : List Int) (t : Int) : cnt s (xs.map fun y => y + c) t = cnt s xs (t - c) := by
  unfold cnt
  rw [List.countP_map]
  refine List.countP_congr fun y _ => ?_
  simp only [Function.comp, Bool.and_eq_true, decide_eq_true_eq]
  omega
theorem cnt_mirrored (s c : Int) (xs : List Int) (t : Int) : cnt s (xs.map fun y => 2 * c - y) t = cnt s xs (2 * c - t - s + 1) := by
  unfold cnt
  rw [List.countP_map]
  refine List.countP_congr fun y _ => ?_
  simp only [Function.comp, Bool.and_eq_true, decide_eq_true_eq]
  omega
/-- one lamp taken out -/
theorem cnt_without (s : Int) (xs : List Int) (k : Nat) (t : Int) : cnt s (xs.take k ++ xs.drop (k + 1)) t ≤ cnt s xs t ∧ cnt s xs t ≤ cnt s (xs.take k ++ xs.drop (k + 1)) t + 1 := by
  have e : cnt s xs t = cnt s (xs.take k) t + cnt s (xs.drop k) t := by
    rw [← cnt_append, List.take_append_drop]
  rw [cnt_append, e]
  cases h : xs.drop k with
  | nil =>
    have h2 : xs.drop (k + 1) = [] := by
      rw [List.drop_eq_nil_iff] at h ⊢
      omega
    rw [h2]
    omega
  | cons y r =>
    have h2 : xs.drop (k + 1) = r := by
      rw [← List.drop_drop, h]
      rfl
    rw [h2]
    have e2 : cnt s (y :: r) t = cnt s [y] t + cnt s r t := cnt_append s [y] r t
    have e3 : cnt s [y] t ≤ 1 := cnt_le_length s [y] t
    omega
/-- a stretch that holds something holds no more than the one that begins at its least -/
theorem min_of : ∀ xs : List Int, xs ≠ [] → ∃ a ∈ xs, ∀ b ∈ xs, a ≤ b
  | [], h => absurd rfl h
  | [x], _ => ⟨x, List.mem_singleton_self x, fun b hb => by rw [List.mem_singleton.mp hb]; exact Int.le_refl _⟩
  | x :: y :: r, _ => by
    obtain ⟨a, ha, h⟩ := min_of (y :: r) (List.cons_ne_nil _ _)
    by_cases hx : x ≤ a
    · refine ⟨x, List.mem_cons_self, fun b hb => ?_⟩
      rcases List.mem_cons.mp hb with e | e
      · rw [e]; exact Int.le_refl _
      · exact Int.le_trans hx (h b e)
    · refine ⟨a, List.mem_cons_of_mem _ ha, fun b hb => ?_⟩
      rcases List.mem_cons.mp hb with e | e
      · rw [e]; omega
      · exact h b e
theorem cnt_at_member (s : Int) (xs : List Int) (t : Int) (h : cnt s xs t ≠ 0) : ∃ y ∈ xs, cnt s xs t ≤ cnt s xs y := by
  have hne : (xs.filter fun y => decide (t ≤ y) && decide (y < t + s)) ≠ [] := by
    intro e
    refine h ?_
    unfold cnt
    rw [List.countP_eq_length_filter, e]
    rfl
  obtain ⟨a, ha, hm⟩ := min_of _ hne
  have ha' := List.mem_filter.mp ha
  refine ⟨a, ha'.1, ?_⟩
  have h1 := ha'.2
  simp only [Bool.and_eq_true, decide_eq_true_eq] at h1
  refine List.countP_mono_left fun y hy e => ?_
  have hy2 := hm y (List.mem_filter.mpr ⟨hy, e⟩)
  simp only [Bool.and_eq_true, decide_eq_true_eq] at e ⊢
  omega
/-- the greatest of the stretches that begin at a member is the greatest of all -/
theorem isW_of_members {s : Int} {xs : List Int} {m : Nat} (h1 : ∀ y ∈ xs, cnt s xs y ≤ m) (h2 : ∃ t, m ≤ cnt s xs t) : IsW s xs m := by
  refine ⟨fun t => ?_, h2⟩
  by_cases h : cnt s xs t = 0
  · omega
  · obtain ⟨y, hy, hle⟩ := cnt_at_member s xs t h
    exact Nat.le_trans hle (h1 y hy)
theorem isW_moved {s c : Int} {xs : List Int} {m : Nat} (a : IsW s xs m) : IsW s (xs.map fun y => y + c) m := by
  refine ⟨fun t => by rw [cnt_moved]; exact a.top _, ?_⟩
  obtain ⟨t, ht⟩ := a.hit
  refine ⟨t + c, ?_⟩
  rw [cnt_moved, show t + c - c = t by omega]
  exact ht
theorem isW_mirrored {s c : Int} {xs : List Int} {m : Nat} (a : IsW s xs m) : IsW s (xs.map fun y => 2 * c - y) m := by
  refine ⟨fun t => by rw [cnt_mirrored]; exact a.top _, ?_⟩
  obtain ⟨t, ht⟩ := a.hit
  refine ⟨2 * c - t - s + 1, ?_⟩
  rw [cnt_mirrored, show 2 * c - (2 * c - t - s + 1) - s + 1 = t by omega]
  exact ht
theorem isW_perm {s : Int} {xs ys : List Int} {m : Nat} (p : xs.Perm ys) (a : IsW s xs m) : IsW s ys m := by
  refine ⟨fun t => by rw [← cnt_perm p]; exact a.top t, ?_⟩
  obtain ⟨t, ht⟩ := a.hit
  exact ⟨t, by rw [← cnt_perm p]; exact ht⟩
theorem cnt_zero {s : Int} {xs : List Int} {t : Int} (h : ∀ y ∈ xs, ¬ (t ≤ y ∧ y < t + s)) : cnt s xs t = 0 := by
  refine List.countP_eq_zero.mpr fun y hy e => h y hy ?_
  simpa only [Bool.and_eq_true, decide_eq_true_eq] using e
/-- two pictures far apart -/
theorem isW_apart {s : Int} {xs ys : List Int} {m n : Nat} (far : ∀ x ∈ xs, ∀ y ∈ ys, s ≤ y - x) (a : IsW s xs m) (b : IsW s ys n) : IsW s (xs ++ ys) (max m n) := by
  refine ⟨fun t => ?_, ?_⟩
  · rw [cnt_append]
    have h1 := a.top t
    have h2 := b.top t
    by_cases hx : ∃ x ∈ xs, t ≤ x ∧ x < t + s
    · obtain ⟨x, hx, ha, hb⟩ := hx
      have z : cnt s ys t = 0 := cnt_zero fun y hy e => by
        have f := far x hx y hy
        omega
      omega
    · have z : cnt s xs t = 0 := cnt_zero fun y hy e => hx ⟨y, hy, e⟩
      omega
  · by_cases h : m ≤ n
    · obtain ⟨t, ht⟩ := b.hit
      exact ⟨t, by rw [cnt_append]; omega⟩
    · obtain ⟨t, ht⟩ := a.hit
      exact ⟨t, by rw [cnt_append]; omega⟩

/-! ### first fit -/
def freeOf (s x : Int) (last : List Int) : List Nat := (List.range last.length).filter fun j => decide (s ≤ x - last.getD j 0)
def fit (s x : Int) (last : List Int) : Nat := match freeOf s x last with
  | [] => last.length
  | r :: _ => r
def put (last : List Int) (r : Nat) (x : Int) : List Int := last.take r ++ [x] ++ last.drop (r + 1)
/-- the rows, one behind the other -/
def ffR (s : Int) : List Int → List Int → List Nat
  | _, [] => []
  | last, x :: xs => fit s x last :: ffR s (put last (fit s x last) x) xs
theorem ffR_length (s : Int) : ∀ (xs last : List Int), (ffR s last xs).length = xs.length
  | [], _ => rfl
  | x :: xs, last => by
    show (ffR s (put last (fit s x last) x) xs).length + 1 = xs.length + 1
    rw [ffR_length s xs]
theorem getD_of {l : List Int} {j : Nat} {y : Int} (h : l[j]? = some y) : l.getD j 0 = y := by
  rw [List.getD_eq_getElem?_getD, h]
  rfl
theorem freeOf_sorted (s x : Int) (last : List Int) : (freeOf s x last).Pairwise (· < ·) := List.pairwise_lt_range.filter _
theorem fit_le (s x : Int) (last : List Int) : fit s x last ≤ last.length := by
  unfold fit
  cases h : freeOf s x last with
  | nil => exact Nat.le_refl _
  | cons r l =>
    have hm : r ∈ freeOf s x last := by rw [h]; exact List.mem_cons_self
    exact Nat.le_of_lt (List.mem_range.mp (List.mem_filter.mp hm).1)
theorem fit_free {s x y : Int} {last : List Int} (h : last[fit s x last]? = some y) : s ≤ x - y := by
  unfold fit at h
  cases e : freeOf s x last with
  | nil =>
    rw [e] at h
    simp at h
  | cons r l =>
    rw [e] at h
    have hm : r ∈ freeOf s x last := by rw [e]; exact List.mem_cons_self
    have h2 := of_decide_eq_true (List.mem_filter.mp hm).2
    rw [getD_of h] at h2
    exact h2
theorem fit_bar {s x y : Int} {last : List Int} {j : Nat} (hj : j < fit s x last) (h : last[j]? = some y) : x - y < s := by
  have hlt : j < last.length := (List.getElem?_eq_some_iff.mp h).1
  by_cases c : s ≤ x - y
  · exfalso
    have hm : j ∈ freeOf s x last := List.mem_filter.mpr ⟨List.mem_range.mpr hlt, decide_eq_true (by rw [getD_of h]; exact c)⟩
    unfold fit at hj
    have srt := freeOf_sorted s x last
    cases e : freeOf s x last with
    | nil => rw [e] at hm; cases hm
    | cons r l =>
      rw [e] at hj hm srt
      rcases List.mem_cons.mp hm with z | z
      · rw [z] at hj
        exact absurd hj (Nat.lt_irrefl _)
      · have := (List.pairwise_cons.mp srt).1 j z
        have hj' : j < r := hj
        omega
  · omega
theorem put_length_le (last : List Int) (r : Nat) (x : Int) : (put last r x).length ≤ last.length + 1 := by
  unfold put
  rw [List.length_append, List.length_append, List.length_take, List.length_drop, List.length_singleton]
  omega
theorem put_at {last : List Int} {r : Nat} {x : Int} (h : r ≤ last.length) : (put last r x)[r]? = some x := by
  have hl : (last.take r).length = r := List.length_take_of_le h
  unfold put
  rw [List.append_assoc, List.getElem?_append_right (by omega), hl, Nat.sub_self]
  rfl
theorem put_ne {last : List Int} {r j : Nat} {x : Int} (h : r ≤ last.length) (hj : j ≠ r) : (put last r x)[j]? = last[j]? ∨ last[j]? = none := by
  have hl : (last.take r).length = r := List.length_take_of_le h
  unfold put
  rw [List.append_assoc]
  by_cases hlt : j < r
  · left
    rw [List.getElem?_append_left (by omega), List.getElem?_take, if_pos hlt]
  · left
    rw [List.getElem?_append_right (by omega), hl]
    obtain ⟨d, hd⟩ : ∃ d, j - r = d + 1 := ⟨j - r - 1, by omega⟩
    rw [hd]
    show (last.drop (r + 1))[d]? = last[j]?
    rw [List.getElem?_drop]
    congr 1
    omega
theorem put_mem {last : List Int} {r : Nat} {x y : Int} (h : y ∈ put last r x) : y ∈ last ∨ y = x := by
  unfold put at h
  rcases List.mem_append.mp h with h | h
  · rcases List.mem_append.mp h with h | h
    · exact .inl (List.mem_of_mem_take h)
    · exact .inr (List.mem_singleton.mp h)
  · exact .inl (List.mem_of_mem_drop h)
theorem put_count (last : List Int) (r : Nat) (x : Int) (p : Int → Bool) : (put last r x).countP p ≤ last.countP p + [x].countP p := by
  unfold put
  rw [List.countP_append, List.countP_append]
  have e : last.countP p = (last.take r).countP p + (last.drop r).countP p := by rw [← List.countP_append, List.take_append_drop]
  have h2 : (last.drop (r + 1)).countP p ≤ (last.drop r).countP p := by
    rw [show last.drop (r + 1) = (last.drop r).drop 1 by rw [List.drop_drop]]
    exact (List.drop_sublist 1 _).countP_le
  omega
/-- the row before one is taken because as many are near -/
theorem ff_low {s : Int} (hs : 1 ≤ s) : ∀ (xs pre last : List Int), (∀ p : Int → Bool, last.countP p ≤ pre.countP p) → (∀ y ∈ last, ∀ x ∈ xs, y ≤ x) → xs.Pairwise (· ≤ ·) →
    ∀ r ∈ ffR s last xs, ∃ t, r + 1 ≤ cnt s (pre ++ xs) t
  | [], _, _, _, _, _, r, hr => by cases hr
  | x :: xs, pre, last, hc, hle, srt, r, hr => by
    have srt' := List.pairwise_cons.mp srt
    rcases List.mem_cons.mp (show r ∈ fit s x last :: ffR s (put last (fit s x last) x) xs from hr) with e | hr'
    · refine ⟨x - s + 1, ?_⟩
      rw [e]
      have h1 : fit s x last ≤ cnt s last (x - s + 1) := by
        have hall : ∀ y ∈ last.take (fit s x last), (decide (x - s + 1 ≤ y) && decide (y < x - s + 1 + s)) = true := fun y hy => by
          obtain ⟨j, hj⟩ := List.mem_iff_getElem?.mp hy
          rw [List.getElem?_take] at hj
          by_cases hjl : j < fit s x last
          · rw [if_pos hjl] at hj
            have b := fit_bar hjl hj
            have c := hle y (List.mem_of_getElem? hj) x List.mem_cons_self
            simp only [Bool.and_eq_true, decide_eq_true_eq]
            omega
          · rw [if_neg hjl] at hj
            cases hj
        have e1 : (last.take (fit s x last)).countP (fun y => decide (x - s + 1 ≤ y) && decide (y < x - s + 1 + s)) = (last.take (fit s x last)).length := List.countP_eq_length.mpr hall
        have e2 : (last.take (fit s x last)).length = fit s x last := List.length_take_of_le (fit_le s x last)
        have e3 := (List.take_sublist (fit s x last) last).countP_le (p := fun y => decide (x - s + 1 ≤ y) && decide (y < x - s + 1 + s))
        unfold cnt
        omega
      have h2 : cnt s last (x - s + 1) ≤ cnt s pre (x - s + 1) := hc _
      have h3 : cnt s (pre ++ x :: xs) (x - s + 1) = cnt s pre (x - s + 1) + (cnt s [x] (x - s + 1) + cnt s xs (x - s + 1)) := by
        rw [cnt_append, show x :: xs = [x] ++ xs from rfl, cnt_append]
      have h4 : cnt s [x] (x - s + 1) = 1 := by
        unfold cnt
        rw [List.countP_cons_of_pos]
        · rfl
        · simp only [Bool.and_eq_true, decide_eq_true_eq]
          omega
      omega
    · have ih := ff_low hs xs (pre ++ [x]) (put last (fit s x last) x) (fun p => by
          rw [List.countP_append]
          have a := put_count last (fit s x last) x p
          have b := hc p
          omega) (fun y hy z hz => by
          rcases put_mem hy with h | h
          · exact hle y h z (List.mem_cons_of_mem _ hz)
          · rw [h]; exact srt'.1 z hz) srt'.2 r hr'
      rw [List.append_assoc] at ih
      exact ih
/-- of two lamps with one row the x differ by at least s -/
def Prop2 (s : Int) (a b : Int × Nat) : Prop := a.2 = b.2 → s ≤ b.1 - a.1
theorem ff_proper {s : Int} (hs : 0 ≤ s) : ∀ (xs last : List Int) (acc : List (Int × Nat)), (∀ a ∈ acc, ∃ y, last[a.2]? = some y ∧ a.1 ≤ y) →
    (∀ a ∈ acc, ∀ b ∈ xs.zip (ffR s last xs), Prop2 s a b) ∧ (xs.zip (ffR s last xs)).Pairwise (Prop2 s)
  | [], _, _, _ => ⟨fun _ _ b hb => (by cases hb), List.Pairwise.nil⟩
  | x :: xs, last, acc, h => by
    have hle := fit_le s x last
    have key : ∀ a ∈ acc, a.2 = fit s x last → s ≤ x - a.1 := fun a ha e => by
      obtain ⟨y, hy, hay⟩ := h a ha
      rw [e] at hy
      have f := fit_free hy
      omega
    have ih := ff_proper hs xs (put last (fit s x last) x) ((x, fit s x last) :: acc) fun a ha => by
      rcases List.mem_cons.mp ha with e | ha
      · rw [e]
        exact ⟨x, put_at hle, Int.le_refl _⟩
      · by_cases ea : a.2 = fit s x last
        · refine ⟨x, by rw [ea]; exact put_at hle, ?_⟩
          have k := key a ha ea
          omega
        · obtain ⟨y, hy, hay⟩ := h a ha
          rcases put_ne (x := x) hle ea with q | q
          · exact ⟨y, q.trans hy, hay⟩
          · rw [hy] at q; cases q
    have e : (x :: xs).zip (ffR s last (x :: xs)) = (x, fit s x last) :: xs.zip (ffR s (put last (fit s x last) x) xs) := rfl
    rw [e]
    refine ⟨fun a ha b hb => ?_, List.pairwise_cons.mpr ⟨fun b hb => ih.1 _ List.mem_cons_self b hb, ih.2⟩⟩
    rcases List.mem_cons.mp hb with q | q
    · rw [q]
      exact fun e' => key a ha e'
    · exact ih.1 a (List.mem_cons_of_mem _ ha) b q
/-- as many different numbers below m are at most m -/
theorem nodup_below : ∀ (m : Nat) (l : List Nat), l.Nodup → (∀ r ∈ l, r < m) → l.length ≤ m
  | 0, l, _, h => by
    cases l with
    | nil => exact Nat.le_refl _
    | cons a r => exact absurd (h a List.mem_cons_self) (Nat.not_lt_zero _)
  | m + 1, l, nd, h => by
    have h1 := nodup_below m (l.erase m) (nd.erase m) fun r hr => by
      have hm := (List.Nodup.mem_erase_iff nd).mp hr
      have := h r hm.2
      omega
    have h2 : l.length ≤ (l.erase m).length + 1 := by
      rw [List.length_erase]
      split <;> omega
    omega
/-- ROWS below m: no stretch holds more than m -/
theorem cnt_le_of_rows {s : Int} {m : Nat} {xs : List Int} {rows : List Nat} (hl : rows.length = xs.length) (hm : ∀ r ∈ rows, r < m) (hp : (xs.zip rows).Pairwise (Prop2 s)) (t : Int) : cnt s xs t ≤ m := by
  have e : cnt s xs t = ((xs.zip rows).filter fun a => decide (t ≤ a.1) && decide (a.1 < t + s)).length := by
    rw [← List.countP_eq_length_filter]
    have e1 : (xs.zip rows).map Prod.fst = xs := List.map_fst_zip (by omega)
    unfold cnt
    conv => lhs; rw [← e1]
    rw [List.countP_map]
    rfl
  rw [e, ← List.length_map (f := Prod.snd)]
  refine nodup_below m _ ?_ fun r hr => ?_
  · show (List.map Prod.snd _).Pairwise (· ≠ ·)
    rw [List.pairwise_map]
    refine List.Pairwise.imp_of_mem (fun {a b} ha hb q => ?_) (hp.filter _)
    intro eab
    have h1 := (List.mem_filter.mp ha).2
    have h2 := (List.mem_filter.mp hb).2
    simp only [Bool.and_eq_true, decide_eq_true_eq] at h1 h2
    have := q eab
    omega
  · obtain ⟨a, ha, e2⟩ := List.mem_map.mp hr
    have h1 := (List.mem_filter.mp ha).1
    rw [← e2]
    exact hm _ (List.of_mem_zip h1).2
/-- WHAT rows_of AND rows_many TELL -/
theorem ff_isW {s : Int} (hs : 1 ≤ s) {xs : List Int} (srt : xs.Pairwise (· ≤ ·)) {m : Int} (hm : m = -1 ∨ ∃ r ∈ ffR s [] xs, m = (r : Int)) (hle : ∀ r ∈ ffR s [] xs, (r : Int) ≤ m) (h1 : -1 ≤ m) :
    IsW s xs (m + 1).toNat := by
  refine ⟨fun t => ?_, ?_⟩
  · refine cnt_le_of_rows (ffR_length s xs []) (fun r hr => ?_) (ff_proper (by omega) xs [] [] fun a ha => by cases ha).2 t
    have := hle r hr
    omega
  · rcases hm with e | ⟨r, hr, e⟩
    · exact ⟨0, by rw [e]; exact Nat.zero_le _⟩
    · obtain ⟨t, ht⟩ := ff_low hs xs [] [] (fun p => Nat.le_refl _) (fun y hy => by cases hy) srt r hr
      refine ⟨t, ?_⟩
      rw [e]
      simp only [List.nil_append] at ht
      omega
end K16

set_option linter.all false
namespace K16
/-! ### all ways to tell rows -/
def wt (m : Nat) : Nat → Nat
  | 0 => 1
  | k + 1 => 1 + m * wt m k
theorem wt_pos (m : Nat) : ∀ k, 1 ≤ wt m k
  | 0 => Nat.le_refl _
  | k + 1 => Nat.le_add_right _ _
theorem wt_small : ∀ m < 8, ∀ n < 8, wt m n ≤ 960800 := by decide +kernel
/-- what is left to be gone through -/
def left (n m : Nat) (line : List (List Nat)) : Nat := (line.map fun p => wt m (n - p.length)).sum
theorem left_append (n m : Nat) (a b : List (List Nat)) : left n m (a ++ b) = left n m a + left n m b := by
  unfold left
  rw [List.map_append, List.sum_append_nat]
theorem left_length (n m : Nat) : ∀ line : List (List Nat), line.length ≤ left n m line
  | [] => Nat.zero_le _
  | p :: r => by
    have ih := left_length n m r
    have h := wt_pos m (n - p.length)
    show r.length + 1 ≤ (wt m (n - p.length) :: (r.map fun p => wt m (n - p.length))).sum
    rw [List.sum_cons]
    unfold left at ih
    omega
def Fine (s : Int) (xs : List Int) (rows : List Nat) : Prop := ∀ (i j : Nat) (x y : Int) (r : Nat), i < j → xs[i]? = some x → xs[j]? = some y → rows[i]? = some r → rows[j]? = some r → s ≤ y - x
structure Part (s : Int) (m : Nat) (xs : List Int) (rows : List Nat) : Prop where
  len : rows.length ≤ xs.length
  low : ∀ r ∈ rows, r < m
  fine : Fine s xs rows
structure Sol (s : Int) (m : Nat) (xs : List Int) (rows : List Nat) : Prop where
  part : Part s m xs rows
  full : rows.length = xs.length
theorem fine_zip {s : Int} {xs : List Int} {rows : List Nat} (h : Fine s xs rows) : (xs.zip rows).Pairwise (Prop2 s) := by
  rw [List.pairwise_iff_getElem]
  intro i j hi hj hij
  rw [List.length_zip] at hi hj
  rw [List.getElem_zip, List.getElem_zip]
  intro e
  have e' : rows[i]'(by omega) = rows[j]'(by omega) := e
  exact h i j xs[i] xs[j] (rows[j]'(by omega)) hij (List.getElem?_eq_getElem (by omega)) (List.getElem?_eq_getElem (by omega)) (by rw [List.getElem?_eq_getElem (by omega), e']) (List.getElem?_eq_getElem (by omega))
theorem fine_of_zip {s : Int} {xs : List Int} {rows : List Nat} (h : (xs.zip rows).Pairwise (Prop2 s)) : Fine s xs rows := by
  intro i j x y r hij hx hy ri rj
  rw [List.pairwise_iff_getElem] at h
  obtain ⟨h1, e1⟩ := List.getElem?_eq_some_iff.mp hx
  obtain ⟨h2, e2⟩ := List.getElem?_eq_some_iff.mp hy
  obtain ⟨h3, e3⟩ := List.getElem?_eq_some_iff.mp ri
  obtain ⟨h4, e4⟩ := List.getElem?_eq_some_iff.mp rj
  have q := h i j (by rw [List.length_zip]; omega) (by rw [List.length_zip]; omega) hij
  rw [List.getElem_zip, List.getElem_zip] at q
  have q' := q (by show rows[i] = rows[j]; rw [e3, e4])
  rw [← e1, ← e2]
  exact q'
theorem sol_cnt {s : Int} {m : Nat} {xs : List Int} {rows : List Nat} (h : Sol s m xs rows) (t : Int) : cnt s xs t ≤ m :=
  cnt_le_of_rows h.full h.part.low (fine_zip h.part.fine) t
/-- no ROWS below the number -/
theorem no_sol {s : Int} {xs : List Int} {n m : Nat} (w : IsW s xs n) (h : m < n) : ¬ ∃ rows, Sol s m xs rows := fun ⟨rows, hr⟩ => by
  obtain ⟨t, ht⟩ := w.hit
  have := sol_cnt hr t
  omega
/-- ROWS of the number -/
theorem ff_sol {s : Int} (hs : 1 ≤ s) {xs : List Int} {m : Nat} (hm : ∀ r ∈ ffR s [] xs, r < m) : Sol s m xs (ffR s [] xs) :=
  ⟨⟨Nat.le_of_eq (ffR_length s xs []), hm, fine_of_zip (ff_proper (by omega) xs [] [] fun a ha => by cases ha).2⟩, ffR_length s xs []⟩
/-- some full ROWS begin like one of the line -/
def Ex (s : Int) (m : Nat) (xs : List Int) (line : List (List Nat)) : Prop := ∃ sol, Sol s m xs sol ∧ ∃ p ∈ line, p <+: sol
theorem ex_start {s : Int} {m : Nat} {xs : List Int} : Ex s m xs [[]] ↔ ∃ sol, Sol s m xs sol :=
  ⟨fun ⟨sol, h, _⟩ => ⟨sol, h⟩, fun ⟨sol, h⟩ => ⟨sol, h, [], List.mem_singleton_self _, List.nil_prefix⟩⟩
theorem ex_nil {s : Int} {m : Nat} {xs : List Int} : ¬ Ex s m xs [] := fun ⟨_, _, _, h, _⟩ => by cases h
theorem part_nil {s : Int} {m : Nat} {xs : List Int} : Part s m xs [] := ⟨Nat.zero_le _, fun r hr => (by cases hr), fun i j x y r _ _ _ h _ => by simp at h⟩
/-- the rows that are barred for x: those of the lamps ahead that are near -/
def near (s x : Int) (l : List (Int × Nat)) : List Nat := (l.filter fun a => decide (x - a.1 < s)).map (·.2)
def exts (m : Nat) (barred rows : List Nat) : List (List Nat) := ((List.range m).filter fun r => !decide (r ∈ barred)).map fun r => rows ++ [r]
theorem near_iff {s x : Int} {xs : List Int} {rows : List Nat} {r : Nat} : r ∈ near s x (xs.zip rows) ↔ ∃ (i : Nat) (y : Int), xs[i]? = some y ∧ rows[i]? = some r ∧ x - y < s := by
  unfold near
  rw [List.mem_map]
  constructor
  · rintro ⟨a, ha, e⟩
    obtain ⟨h1, h2⟩ := List.mem_filter.mp ha
    obtain ⟨i, hi⟩ := List.mem_iff_getElem?.mp h1
    rw [List.getElem?_zip_eq_some] at hi
    exact ⟨i, a.1, hi.1, by rw [← e]; exact hi.2, of_decide_eq_true h2⟩
  · rintro ⟨i, y, h1, h2, h3⟩
    exact ⟨(y, r), List.mem_filter.mpr ⟨List.mem_iff_getElem?.mpr ⟨i, List.getElem?_zip_eq_some.mpr ⟨h1, h2⟩⟩, decide_eq_true h3⟩, rfl⟩
theorem ext_at {rows : List Nat} {r z : Nat} {i : Nat} (h : (rows ++ [r])[i]? = some z) : rows[i]? = some z ∨ (i = rows.length ∧ z = r) := by
  by_cases c : i < rows.length
  · rw [List.getElem?_append_left c] at h
    exact .inl h
  · right
    rw [List.getElem?_append_right (by omega)] at h
    cases e : i - rows.length with
    | zero =>
      rw [e] at h
      have h' : some r = some z := h
      exact ⟨by omega, (Option.some.inj h').symm⟩
    | succ k =>
      rw [e] at h
      simp at h
theorem ext_part {s x : Int} {m r : Nat} {xs : List Int} {rows : List Nat} (p : Part s m xs rows) (hx : xs[rows.length]? = some x) (hr : r < m) (hb : r ∉ near s x (xs.zip rows)) : Part s m xs (rows ++ [r]) := by
  have hlt : rows.length < xs.length := (List.getElem?_eq_some_iff.mp hx).1
  refine ⟨?_, fun z hz => ?_, fun i j y z q hij hy hz ri rj => ?_⟩
  · rw [List.length_append, List.length_singleton]
    exact hlt
  · rcases List.mem_append.mp hz with h | h
    · exact p.low z h
    · rw [List.mem_singleton.mp h]; exact hr
  · rcases ext_at rj with h | ⟨h1, h2⟩
    · rcases ext_at ri with h' | ⟨h1', _⟩
      · exact p.fine i j y z q hij hy hz h' h
      · have := (List.getElem?_eq_some_iff.mp h).1
        omega
    · rcases ext_at ri with h' | ⟨h1', _⟩
      · rw [h1, hx] at hz
        have ez : x = z := Option.some.inj hz
        by_cases c : s ≤ z - y
        · exact c
        · exfalso
          refine hb (near_iff.mpr ⟨i, y, hy, by rw [h', h2], by omega⟩)
      · omega
theorem sol_next {s x : Int} {m : Nat} {xs : List Int} {rows sol : List Nat} (h : Sol s m xs sol) (hp : rows <+: sol) (hx : xs[rows.length]? = some x) : ∃ r, r < m ∧ r ∉ near s x (xs.zip rows) ∧ (rows ++ [r]) <+: sol := by
  have hlt : rows.length < xs.length := (List.getElem?_eq_some_iff.mp hx).1
  obtain ⟨rest, e⟩ := hp
  cases rest with
  | nil =>
    rw [List.append_nil] at e
    have := h.full
    rw [← e] at this
    omega
  | cons r rest =>
    have hr : sol[rows.length]? = some r := by
      rw [← e, List.getElem?_append_right (Nat.le_refl _), Nat.sub_self]
      rfl
    refine ⟨r, h.part.low r (List.mem_of_getElem? hr), fun hn => ?_, ⟨rest, by rw [← e, List.append_assoc]; rfl⟩⟩
    obtain ⟨i, y, h1, h2, h3⟩ := near_iff.mp hn
    have hi : i < rows.length := (List.getElem?_eq_some_iff.mp h2).1
    have h4 : sol[i]? = some r := by
      rw [← e, List.getElem?_append_left hi]
      exact h2
    have := h.part.fine i rows.length y x r hi h1 hx h4 hr
    omega
theorem mem_exts {m : Nat} {barred rows p : List Nat} : p ∈ exts m barred rows ↔ ∃ r, r < m ∧ r ∉ barred ∧ p = rows ++ [r] := by
  unfold exts
  rw [List.mem_map]
  constructor
  · rintro ⟨r, hr, e⟩
    obtain ⟨h1, h2⟩ := List.mem_filter.mp hr
    refine ⟨r, List.mem_range.mp h1, fun hb => ?_, e.symm⟩
    rw [decide_eq_true hb] at h2
    cases h2
  · rintro ⟨r, h1, h2, e⟩
    exact ⟨r, List.mem_filter.mpr ⟨List.mem_range.mpr h1, by rw [decide_eq_false h2]; rfl⟩, e.symm⟩
/-- one turn -/
theorem ex_turn {s x : Int} {m : Nat} {xs : List Int} {L : List (List Nat)} {rows : List Nat} (hx : xs[rows.length]? = some x) :
    Ex s m xs (L ++ [rows]) ↔ Ex s m xs (L ++ exts m (near s x (xs.zip rows)) rows) := by
  constructor
  · rintro ⟨sol, hs, p, hp, pre⟩
    rcases List.mem_append.mp hp with h | h
    · exact ⟨sol, hs, p, List.mem_append_left _ h, pre⟩
    · rw [List.mem_singleton.mp h] at pre
      obtain ⟨r, h1, h2, h3⟩ := sol_next hs pre hx
      exact ⟨sol, hs, _, List.mem_append_right _ (mem_exts.mpr ⟨r, h1, h2, rfl⟩), h3⟩
  · rintro ⟨sol, hs, p, hp, pre⟩
    rcases List.mem_append.mp hp with h | h
    · exact ⟨sol, hs, p, List.mem_append_left _ h, pre⟩
    · obtain ⟨r, _, _, e⟩ := mem_exts.mp h
      rw [e] at pre
      exact ⟨sol, hs, rows, List.mem_append_right _ (List.mem_singleton_self _), (List.prefix_append rows [r]).trans pre⟩
theorem part_exts {s x : Int} {m : Nat} {xs : List Int} {rows : List Nat} (p : Part s m xs rows) (hx : xs[rows.length]? = some x) : ∀ q ∈ exts m (near s x (xs.zip rows)) rows, Part s m xs q := fun q hq => by
  obtain ⟨r, h1, h2, e⟩ := mem_exts.mp hq
  rw [e]
  exact ext_part p hx h1 h2
theorem exts_length_le (m : Nat) (barred rows : List Nat) : (exts m barred rows).length ≤ m := by
  unfold exts
  rw [List.length_map]
  exact Nat.le_trans (List.length_filter_le _ _) (Nat.le_of_eq List.length_range)
theorem left_same (n m k : Nat) : ∀ line : List (List Nat), (∀ p ∈ line, p.length = k) → left n m line = line.length * wt m (n - k)
  | [], _ => by rw [List.length_nil, Nat.zero_mul]; rfl
  | p :: r, h => by
    have ih := left_same n m k r fun q hq => h q (List.mem_cons_of_mem _ hq)
    show (wt m (n - p.length) :: (r.map fun p => wt m (n - p.length))).sum = (r.length + 1) * wt m (n - k)
    unfold left at ih
    rw [List.sum_cons, ih, h p List.mem_cons_self, Nat.succ_mul]
    omega
theorem left_turn {n m : Nat} {L : List (List Nat)} {rows barred : List Nat} (h : rows.length < n) : left n m (L ++ exts m barred rows) < left n m (L ++ [rows]) := by
  rw [left_append, left_append]
  have e1 : left n m [rows] = wt m (n - rows.length) := by
    show (wt m (n - rows.length) :: []).sum = _
    rw [List.sum_cons]
    rfl
  have e2 := left_same n m (rows.length + 1) (exts m barred rows) fun p hp => by
    obtain ⟨r, _, _, e⟩ := mem_exts.mp hp
    rw [e, List.length_append, List.length_singleton]
  obtain ⟨d, hd⟩ : ∃ d, n - rows.length = d + 1 := ⟨n - rows.length - 1, by omega⟩
  have hd2 : n - (rows.length + 1) = d := by omega
  rw [e1, e2, hd, hd2]
  show left n m L + (exts m barred rows).length * wt m d < left n m L + (1 + m * wt m d)
  have := Nat.mul_le_mul_right (wt m d) (exts_length_le m barred rows)
  omega
end K16

set_option Elab.async false
set_option linter.all false
set_option maxRecDepth 100000
set_option maxHeartbeats 4000000
/-! sorted of a set, or of a dict's keys: pairs of ints, the second of them in [0, B) -/
namespace K16
open PySem PySem.Spec PyProof.Rows L2
/-- the rank of a pair -/
def rk (B : Int) : List Int → Int
  | [x, z] => x * B + z
  | _ => 0
theorem rk_lt {B x z x' z' : Int} (h1 : 0 ≤ z) (h2 : z < B) (h3 : 0 ≤ z') (h4 : z' < B) : rk B [x, z] < rk B [x', z'] ↔ x < x' ∨ (x = x' ∧ z < z') := by
  show x * B + z < x' * B + z' ↔ _
  rcases Int.lt_trichotomy x x' with c | c | c
  · have p : (x + 1) * B ≤ x' * B := Int.mul_le_mul_of_nonneg_right (by omega) (by omega)
    rw [Int.add_mul, Int.one_mul] at p
    constructor
    · intro _
      exact .inl c
    · intro _
      omega
  · subst c
    constructor
    · intro h
      exact .inr ⟨rfl, by omega⟩
    · rintro (h | ⟨_, h⟩) <;> omega
  · have p : (x' + 1) * B ≤ x * B := Int.mul_le_mul_of_nonneg_right (by omega) (by omega)
    rw [Int.add_mul, Int.one_mul] at p
    constructor
    · intro h
      omega
    · rintro (h | ⟨h, _⟩) <;> omega
theorem rk_first {B x z x' z' : Int} (h1 : 0 ≤ z) (h2 : z < B) (h3 : 0 ≤ z') (h4 : z' < B) (h : rk B [x, z] ≤ rk B [x', z']) : x ≤ x' := by
  rcases Int.lt_trichotomy x x' with c | c | c
  · omega
  · omega
  · have := (rk_lt h3 h4 h1 h2).mpr (.inl c)
    omega
def PairsOk (h : Heap) (B : Int) (vs : List Value) : Prop := ∀ v ∈ vs, ∃ x z, TS.TupInts h v [x, z] ∧ 0 ≤ z ∧ z < B
theorem PairsOk.keeps {h h' : Heap} {B : Int} {vs : List Value} (p : PairsOk h B vs) (k : ∀ b o, h.get? b = some o → o.cls = .type "tuple" → h'.get? b = some o) : PairsOk h' B vs := fun v hv => by
  obtain ⟨x, z, t, r⟩ := p v hv
  exact ⟨x, z, t.keeps k, r⟩
theorem firsts_pairs {h : Heap} {B : Int} : ∀ vs : List Value, PairsOk h B vs → ∃ fs, PySem.W.KatTups h vs fs ∧ fs.length = vs.length ∧ ∀ f ∈ fs, ∃ n t, f = Value.int n t
  | [], _ => ⟨[], PySem.W.KatTups.nil, rfl, fun f hf => (by cases hf)⟩
  | v :: vs, p => by
    obtain ⟨fs, k, hl, hi⟩ := firsts_pairs vs fun u hu => p u (List.mem_cons_of_mem _ hu)
    obtain ⟨x, z, ⟨a, xs, e, ⟨o, ho, hc, n, hd⟩, i⟩, _⟩ := p v List.mem_cons_self
    subst e
    have hx : ∃ t r, xs.toList = Value.int x t :: r := by
      generalize xs.toList = l at i
      cases i with
      | cons _ t i' => exact ⟨t, _, rfl⟩
    obtain ⟨t, r, e⟩ := hx
    refine ⟨.int x t :: fs, PySem.W.KatTups.cons ho hc hd ?_ k, by rw [List.length_cons, List.length_cons, hl], fun f hf => ?_⟩
    · have q := congrArg (fun l : List Value => l[0]?) e
      simpa using q
    · rcases List.mem_cons.mp hf with q | q
      · exact ⟨x, t, q⟩
      · exact hi f q
section
variable {prog : Program} {w : World} {A : Around} {E : Value → Shared → Prop} {s : Shared}
theorem lex_pair {Q : Bool → Shared → Prop} {b : Bool} {xs ys : List Value} {x z x' z' : Int} (hx : IntsAre xs [x, z]) (hy : IntsAre ys [x', z']) (h : Q (decide (x < x' ∨ (x = x' ∧ z < z'))) s) :
    PySem.W.KatLex prog w A b false Q (xs.zip ys) 0 s := by
  cases hx with
  | cons _ t hx =>
    cases hx with
    | cons _ t2 hx =>
      cases hx
      cases hy with
      | cons _ u hy =>
        cases hy with
        | cons _ u2 hy =>
          cases hy
          show PySem.W.KatLex prog w A b false Q ((Value.int x t, Value.int x' u) :: [(Value.int z t2, Value.int z' u2)]) 0 s
          refine PySem.W.kat_cons (wpAny_eqBool_int ?_)
          by_cases e : x = x'
          · subst e
            rw [beq_self_eq_true]
            refine PySem.W.kat_yes (PySem.W.kat_cons (wpAny_eqBool_int ?_))
            by_cases e2 : z = z'
            · subst e2
              rw [beq_self_eq_true]
              refine PySem.W.kat_yes (PySem.W.kat_nil ?_)
              rw [decide_eq_false (show ¬ (x < x ∨ (x = x ∧ z < z)) by omega)] at h
              exact h
            · rw [show (z == z') = false from beq_eq_false_iff_ne.mpr e2]
              refine PySem.W.kat_no (TS.oneLt_ints _ ?_)
              rw [show decide (x < x ∨ (x = x ∧ z < z')) = decide (z < z') from decide_eq_decide.mpr (by omega)] at h
              exact h
          · rw [show (x == x') = false from beq_eq_false_iff_ne.mpr e]
            refine PySem.W.kat_no (TS.oneLt_ints _ ?_)
            rw [show decide (x < x' ∨ (x = x' ∧ z < z')) = decide (x < x') from decide_eq_decide.mpr (by omega)] at h
            exact h
theorem kind_pairs {B : Int} {vs : List Value} (h2 : 2 ≤ vs.length) (p : PairsOk s.heap B vs) (r : Value → Int) (hr : ∀ v ∈ vs, ∀ ns, TS.TupInts s.heap v ns → r v = rk B ns) (Q : SortKind → Shared → Prop)
    (h : ∀ κ, TS.Cmp prog w A s κ (pairsOf vs) r → Q κ s) : wpAny (model prog w) A (keyKind' vs.toArray) Q E s := by
  obtain ⟨fs, k, hl, hi⟩ := firsts_pairs vs p
  refine PySem.W.kat_kind (T := Value.type "int") k (by omega) (fun f hf => ?_) rfl (h _ ?_)
  · obtain ⟨n, t, e⟩ := hi f hf
    subst e
    exact PySem.W.Looks.of_pure rfl
  · intro a c ha hc Q' E' hQ
    rw [pairsOf_toList] at ha hc
    obtain ⟨x, z, tp, z0, z1⟩ := p _ (mem_zip_self ha).2
    obtain ⟨x', z', tq, z2, z3⟩ := p _ (mem_zip_self hc).2
    have ea := hr _ (mem_zip_self ha).2 _ tp
    have ec := hr _ (mem_zip_self hc).2 _ tq
    rw [ea, ec, show decide (rk B [x, z] < rk B [x', z']) = decide (x < x' ∨ (x = x' ∧ z < z')) from decide_eq_decide.mpr (rk_lt z0 z1 z2 z3)] at hQ
    obtain ⟨b1, xs, e1, ⟨o, ho, hcl, n, hdt⟩, i⟩ := tp
    obtain ⟨b2, ys, e2, ⟨o', ho', hcl', n', hdt'⟩, i'⟩ := tq
    rw [e1, e2]
    refine PySem.W.kat_lt ho hdt ho' hdt' ?_
    have l1 := i.length
    have l2 := i'.length
    rw [Array.length_toList] at l1 l2
    rw [show decide (xs.size < ys.size) = false from decide_eq_false (by rw [l1, l2]; exact Nat.lt_irrefl _)]
    exact lex_pair i i' hQ
/-- list.sort of a list of pairs -/
theorem call_sort_pairs {a : Addr} {vs : List Value} {n : Nat} {B : Int} {Q : Value → Shared → Prop} (ho : s.heap.get? a = some (seqObj "list" vs.toArray n)) (h64 : vs.length < 64) (p : PairsOk s.heap B vs)
    (h : ∀ out : Array Value, out.toList.Perm vs → out.toList.Pairwise (fun u v => rk B (TS.intsOf s.heap u) ≤ rk B (TS.intsOf s.heap v)) → Q .none { s with heap := sortedHeap s.heap a vs out }) :
    wpAny (model prog w) A (call (.builtin "list.sort") [.ref a]) Q E s := by
  have keep : ∀ b o, s.heap.get? b = some o → o.cls = .type "tuple" → (TS.midHeap s.heap a vs).get? b = some o := fun b o e hc => by
    refine TS.midHeap_old (fun z => ?_) e
    rw [z, ho] at e
    rw [← Option.some.inj e] at hc
    have c' : Value.type "list" = Value.type "tuple" := hc
    injection c' with c''
    exact absurd c'' (by decide)
  refine wpAny_call_entry slot_list_sort ⟨_, ho, rfl⟩ entry_list_sort ?_ (args_list_sort _)
  refine SK.plain_sort (r := fun v => rk B (TS.intsOf s.heap v)) ho h64 (fun h2 Q' hQ' => ?_) fun ps out h1 h2 h3 => ?_
  · refine kind_pairs (s := { s with heap := TS.midHeap s.heap a vs }) h2 (p.keeps keep) _ (fun v hv ns t => ?_) Q' hQ'
    obtain ⟨x, z, t0, _⟩ := p v hv
    have e : ns = [x, z] := t.ints.symm.trans (t0.keeps keep).ints
    rw [e]
    show rk B (TS.intsOf s.heap v) = _
    rw [t0.ints]
  · obtain ⟨a1, a2⟩ := TS.out_rank (r := fun v => rk B (TS.intsOf s.heap v)) h1 h2 h3
    exact ⟨_, rfl, h out a1 a2⟩
/-- sorted of anything that is collected to pairs -/
theorem sorted_pairs {v : Value} {B : Int} {Q : Value → Shared → Prop} {C : List Value → Shared → Prop}
    (hc : ∀ R : List Value → Shared → Prop, (∀ vs s1, C vs s1 → R vs s1) → wpAny (model prog w) A.in1 (collect v) R E s)
    (h : ∀ vs s1, C vs s1 → vs.length < 64 ∧ PairsOk s1.heap B vs ∧ ∀ (out : Array Value) (c : Nat) (h2 : Heap), out.toList.Perm vs → out.toList.Pairwise (fun x y => rk B (TS.intsOf s1.heap x) ≤ rk B (TS.intsOf s1.heap y)) →
      (∀ b o, s1.heap.get? b = some o → h2.get? b = some o) → h2.get? s1.heap.objs.size = some (seqObj "list" out c) → Q (.ref s1.heap.objs.size) { s1 with heap := h2 }) :
    wpAny (model prog w) A (call (.builtin "sorted") [v]) Q E s := by
  refine Calls.call_function_entry kind_sorted plain_sorted entry_sorted (args_sorted1 _) ?_
  unfold Builtin.«sorted»
  refine wpAny_bind (m := checkCount "sorted" 1 1 _) (wpAny_pure ?_)
  refine wpAny_bind (hc _ fun vs s1 hC => ?_)
  obtain ⟨h64, hp, hQ⟩ := h vs s1 hC
  refine wpAny_bind (wpAny_newList ?_ (by rw [sizeLine_eq]; omega))
  have hoL : (s1.heap.push (seqObj "list" vs.toArray 0)).get? s1.heap.objs.size = some (seqObj "list" vs.toArray 0) := Heap.get?_push_size _ rfl
  have up : ∀ b o, s1.heap.get? b = some o → (s1.heap.push (seqObj "list" vs.toArray 0)).get? b = some o := fun b o e => Heap.get?_push_of_some _ e
  refine wpAny_bind (wpAny_holding (call_sort_pairs (s := { s1 with heap := s1.heap.push (seqObj "list" vs.toArray 0) }) hoL h64 (hp.keeps fun b o e _ => up b o e) fun out a1 a2 => ?_))
  obtain ⟨c, hcc⟩ := sortedHeap_at (vs := vs) (out := out) hoL
  refine wpAny_pure ⟨_, rfl, hQ out c _ a1 ?_ (fun b o e => ?_) hcc⟩
  · refine List.Pairwise.imp_of_mem (fun {x y} hx hy hle => ?_) a2
    obtain ⟨x1, z1, t1, _⟩ := hp x (a1.mem_iff.mp hx)
    obtain ⟨x2, z2, t2, _⟩ := hp y (a1.mem_iff.mp hy)
    have f1 := (t1.keeps fun b o e _ => up b o e).ints
    have f2 := (t2.keeps fun b o e _ => up b o e).ints
    rw [t1.ints, t2.ints]
    have hle' : rk B (TS.intsOf (s1.heap.push (seqObj "list" vs.toArray 0)) x) ≤ rk B (TS.intsOf (s1.heap.push (seqObj "list" vs.toArray 0)) y) := hle
    rw [f1, f2] at hle'
    exact hle'
  · have hlt := Heap.lt_size e
    show (sortedHeap (s1.heap.push (seqObj "list" vs.toArray 0)) s1.heap.objs.size vs out).get? b = some o
    rw [sortedHeap_old (Nat.ne_of_lt hlt) (by rw [size_push']; exact Nat.lt_succ_of_lt hlt)]
    exact up b o e
end
/-- a permutation of a mapped list is the map of a permutation -/
theorem perm_map_inv {α β : Type} {f : α → β} : ∀ (L : List α) (l : List β), l.Perm (L.map f) → ∃ L' : List α, L'.Perm L ∧ l = L'.map f
  | [], l, h => ⟨[], List.Perm.nil, by simpa using h⟩
  | x :: L, l, h => by
    have hm : f x ∈ l := h.mem_iff.mpr (by rw [List.map_cons]; exact List.mem_cons_self)
    obtain ⟨l1, l2, e⟩ := List.append_of_mem hm
    subst e
    have h2 : (l1 ++ l2).Perm (L.map f) := by
      have q := List.perm_middle.symm.trans h
      rw [List.map_cons] at q
      exact q.cons_inv
    obtain ⟨L', p, e⟩ := perm_map_inv L _ h2
    obtain ⟨M1, M2, e1, e2, e3⟩ := List.map_eq_append_iff.mp e.symm
    refine ⟨M1 ++ x :: M2, ?_, by rw [List.map_append, List.map_cons, e2, e3]⟩
    rw [e1] at p
    exact List.perm_middle.trans (p.cons x)
/-- the keys of a sorted thing, with their tuples -/
abbrev refsOf (L : List (Addr × List Int)) : List V := L.map fun q => V.ref q.1
def Pairs (B : Int) (L : List (Addr × List Int)) : Prop := ∀ q ∈ L, ∃ x z, q.2 = [x, z] ∧ 0 ≤ z ∧ z < B
section
variable {X : Cx}
/-- behind sorted: the new list is tracked -/
theorem sorted_end {pins : List (Addr × Obj)} {σ : L2.St} {H : Hp} {s1 : Shared} {h2 : Heap} {Q : VK} {out : Array Value} {c : Nat} {B : Int} {L : List (Addr × List Int)} (I : Inv X pins σ H s1)
    (hT : ∀ q ∈ L, TS.TupInts s1.heap (.ref q.1) q.2) (pm : out.toList.Perm (L.map fun q => Value.ref q.1)) (pw : out.toList.Pairwise (fun x y => rk B (TS.intsOf s1.heap x) ≤ rk B (TS.intsOf s1.heap y)))
    (k2 : ∀ b o, s1.heap.get? b = some o → h2.get? b = some o) (ho : h2.get? s1.heap.objs.size = some (seqObj "list" out c)) (h64 : L.length < 64)
    (q : ∀ (L' : List (Addr × List Int)) (p : Addr), L'.Perm L → L'.Pairwise (fun x y => rk B x.2 ≤ rk B y.2) → H p = none → Q (.ref p) (upd H p (.lst (refsOf L')))) :
    EP X pins σ Q (.ref s1.heap.objs.size) { s1 with heap := h2 } := by
  obtain ⟨L', pL, e⟩ := perm_map_inv L _ pm
  have hn : H s1.heap.objs.size = none := I.hok.fresh (Nat.le_refl _)
  have hv : Vals (refsOf L') out.toList := by rw [e]; exact vals_of_refs L'
  have hlen : (refsOf L').length ≤ sizeLine := by
    rw [List.length_map, pL.length_eq, sizeLine_eq]
    omega
  have J : Inv X pins σ (upd H s1.heap.objs.size (.lst (refsOf L'))) { s1 with heap := h2, toks := s1.toks } :=
    I.laid (t' := s1.toks) (o := .lst (refsOf L')) k2 (Nat.le_refl _) ⟨hlen, out.toList, c, hv, ho⟩
  refine ⟨.ref s1.heap.objs.size, _, J, rfl, q L' _ pL ?_ hn⟩
  rw [e] at pw
  refine List.Pairwise.imp_of_mem (fun {x y} hx hy hle => ?_) (List.pairwise_map.mp pw)
  rw [(hT x (pL.mem_iff.mp hx)).ints, (hT y (pL.mem_iff.mp hy)).ints] at hle
  exact hle
/-- sorted(a set of pairs) -/
def rSortedSP (K : PySem.W.Frag) (P : Program) (w : World) : List V → Hp → VK → Prop := fun vs H Q => ∃ (a : Addr) (L : List (Addr × List Int)) (B : Int), vs = [V.ref a] ∧ H a = some (SetTO P w a L) ∧ (∀ p ∈ L, SqT K H p.1 (p.2.map V.int)) ∧ Pairs B L ∧
  ∀ (L' : List (Addr × List Int)) (p : Addr), L'.Perm L → (L'.map (·.2)).Nodup → L'.length < 64 → L'.Pairwise (fun x y => rk B x.2 ≤ rk B y.2) → H p = none → Q (.ref p) (upd H p (.lst (refsOf L')))
theorem cr_sortedSP (hc : X.calm = true) : CallR X (.builtin "sorted") (rSortedSP X.K X.prog X.w) := by
  intro pins s σ H vs us Q I r h
  obtain ⟨a, L, B, rfl, ha, hk, hB, q⟩ := h
  have R0 : SetT0 X.prog X.w s.heap a L := (I.hok a _ ha).1
  obtain ⟨es, ep, t, R⟩ := R0.full fun p hp => I.isT (hk p hp)
  rw [Vals.ref1 r]
  obtain ⟨o, ho, hex, hd⟩ := R.ob
  have hsz := R.size
  have hfew := R.few
  have hes : es.toList.map (·.2) = L.map fun q => Value.ref q.1 := by
    rw [R.rows]
    unfold rowsOf
    rw [List.map_map] <;> rfl
  refine sorted_pairs (B := B) (C := fun vs s1 => (∀ b o, s.heap.get? b = some o → s1.heap.get? b = some o) ∧ Inv X pins σ H s1 ∧ vs.Perm (L.map fun q => Value.ref q.1))
    (fun R' hR => collect_set (A := X.A.in1) (I.ok.hd hc) ⟨o, ho, hex.1, hd⟩ R.fits (by unfold scanBound; omega) R.tab.ris R.led fun s1 vs k1 hz g1 o1 pm => hR vs s1 ⟨k1, ?_, by rw [← hes]; exact pm⟩) fun vs s1 hC => ?_
  · exact I.call' (ch := []) o1 (Un.kept k1) (I.hok.kept k1) (by rw [g1]; exact I.bare) fun _ z => (by cases z)
  obtain ⟨k1, I1, pm⟩ := hC
  have hT : ∀ q ∈ L, TS.TupInts s1.heap (.ref q.1) q.2 := fun q hq => tupInts_of (P := X.prog) (w := X.w) (isT_keep (R.tup q hq) k1)
  have h64 : vs.length < 64 := by rw [pm.length_eq, List.length_map]; exact hfew
  refine ⟨h64, fun v hv => ?_, fun out c h2 a1 a2 k2 hc2 => ?_⟩
  · obtain ⟨p, hp, e⟩ := List.mem_map.mp (pm.mem_iff.mp hv)
    obtain ⟨x, z, ep', b⟩ := hB p hp
    refine ⟨x, z, ?_, b⟩
    rw [← e, ← ep']
    exact hT p hp
  · exact sorted_end I1 hT (a1.trans pm) a2 k2 hc2 hfew fun L' p pL pw hn => q L' p pL ((pL.map (·.2)).nodup_iff.mpr R.nd) (by rw [pL.length_eq]; exact hfew) pw hn
/-- sorted(a dict whose keys are pairs) -/
def rSortedDP : List V → Hp → VK → Prop := fun vs H Q => ∃ (a : Addr) (kvs : List (List Key × V)) (ks : List (List Int)) (B : Int), vs = [V.ref a] ∧ H a = some (.dT kvs) ∧ kvs.map (·.1) = ks.map (fun k => k.map Sum.inl) ∧ ks.length < 64 ∧
  (∀ k ∈ ks, ∃ x z, k = [x, z] ∧ 0 ≤ z ∧ z < B) ∧
  ∀ (L' : List (Addr × List Int)) (p : Addr), (L'.map (·.2)).Perm ks → (∀ q ∈ L', H q.1 = some (.tup (q.2.map V.int))) → L'.Pairwise (fun x y => rk B x.2 ≤ rk B y.2) → H p = none → Q (.ref p) (upd H p (.lst (refsOf L')))
theorem key_ints : ∀ k : List Int, (k.map (Sum.inl : Int → Key)).map kV = k.map V.int
  | [] => rfl
  | n :: k => by
    rw [List.map_cons, List.map_cons, List.map_cons, key_ints k] <;> rfl
/-- the addresses of the keys, told with their ints -/
theorem keyed {H : Hp} : ∀ {kvs : List (List Key × V)} {xs : List (List Key × Addr × Value)} {ks : List (List Int)}, KT H kvs xs → kvs.map (·.1) = ks.map (fun k => k.map Sum.inl) →
    ∃ L : List (Addr × List Int), L.map (·.1) = xs.map (·.2.1) ∧ L.map (·.2) = ks ∧ ∀ q ∈ L, H q.1 = some (.tup (q.2.map V.int))
  | _, _, ks, .nil, e => by
    cases ks with
    | nil => exact ⟨[], rfl, rfl, fun q hq => (by cases hq)⟩
    | cons k ks => cases e
  | _, _, ks, @Paired.cons _ _ _ p x kvs xs r t, e => by
    cases ks with
    | nil => cases e
    | cons k ks =>
      rw [List.map_cons, List.map_cons] at e
      injection e with e1 e2
      obtain ⟨L, l1, l2, l3⟩ := keyed t e2
      refine ⟨(x.2.1, k) :: L, by rw [List.map_cons, List.map_cons, l1], by rw [List.map_cons, l2], fun q hq => ?_⟩
      rcases List.mem_cons.mp hq with z | z
      · rw [z]
        have q1 := r.2.1
        rw [e1, key_ints] at q1
        exact q1
      · exact l3 q z
theorem cr_sortedDP (hc : X.calm = true) : CallR X (.builtin "sorted") rSortedDP := by
  intro pins s σ H vs us Q I r h
  obtain ⟨a, kvs, ks, B, rfl, ha, hks, hfew, hB, q⟩ := h
  rw [Vals.ref1 r]
  obtain ⟨hz0, lo, xs, pr, o, es, ep, ho, hex, hd, he, _⟩ := I.hok a _ ha
  obtain ⟨L, l1, l2, l3⟩ := keyed pr hks
  have hll : L.length = ks.length := by rw [← l2, List.length_map]
  have hes : es.size = xs.length := by
    have e := congrArg List.length he
    rw [Array.length_toList, List.length_map] at e
    exact e
  have hlx : L.length = xs.length := by
    have e := congrArg List.length l1
    rw [List.length_map, List.length_map] at e
    exact e
  have hraw : s.heap.DictRaw a es ep := ⟨o, ho, hex, hd⟩
  refine sorted_pairs (B := B) (C := fun vs s1 => (∀ b o, s.heap.get? b = some o → s1.heap.get? b = some o) ∧ Inv X pins σ H s1 ∧ vs = L.map fun q => Value.ref q.1)
    (fun R' hR => PySem.W.kdu_collect (A := X.A.in1) (KdlSrc.rawDict lo) (I.ok.hd hc) hraw (by rw [hes, ← hlx, hll, sizeLine_eq]; omega) fun h' tk acc k1 hacc => hR acc.toList _ ⟨k1, I.kept (t' := tk) k1, ?_⟩) fun vs s1 hC => ?_
  · refine List.ext_getElem? fun i => ?_
    have e1 : (L.map (·.1))[i]? = (xs.map (·.2.1))[i]? := by rw [l1]
    rw [List.getElem?_map, List.getElem?_map] at e1
    rw [List.getElem?_map]
    by_cases hi : i < xs.length
    · have ha : i < acc.toList.length := by rw [Array.length_toList, hacc.1, hes]; exact hi
      obtain ⟨hi2, ek⟩ := hacc.2 i (acc.toList[i]) (by rw [← Array.getElem?_toList, List.getElem?_eq_getElem ha])
      have ee : es[i]? = some (entryOfKey (tupleKind (mixKind X.prog X.w)) xs[i]) := by
        rw [← Array.getElem?_toList, he, List.getElem?_map, List.getElem?_eq_getElem hi] <;> rfl
      rw [Array.getElem?_eq_getElem hi2] at ee
      rw [List.getElem?_eq_getElem ha, ek, Option.some.inj ee]
      rw [List.getElem?_eq_getElem hi] at e1
      cases hL : L[i]? with
      | none => rw [hL] at e1; cases e1
      | some q =>
        rw [hL] at e1
        have e2 : q.1 = xs[i].2.1 := Option.some.inj e1
        show some (Value.ref xs[i].2.1) = some (Value.ref q.1)
        rw [e2]
    · have h1 : acc.toList[i]? = none := List.getElem?_eq_none_iff.mpr (by rw [Array.length_toList, hacc.1, hes]; omega)
      have h2 : L[i]? = none := List.getElem?_eq_none_iff.mpr (by omega)
      rw [h1, h2]
      rfl
  · obtain ⟨k1, I1, ev⟩ := hC
    have hT : ∀ q ∈ L, TS.TupInts s1.heap (.ref q.1) q.2 := fun q hq => tupInts_of (P := X.prog) (w := X.w) (I1.isT (SqT.of (l3 q hq)))
    refine ⟨by rw [ev, List.length_map, hll]; exact hfew, fun v hv => ?_, fun out c h2 a1 a2 k2 hc2 => ?_⟩
    · rw [ev] at hv
      obtain ⟨p, hp, e⟩ := List.mem_map.mp hv
      obtain ⟨x, z, ep', b⟩ := hB p.2 (by rw [← l2]; exact List.mem_map.mpr ⟨p, hp, rfl⟩)
      refine ⟨x, z, ?_, b⟩
      rw [← e, ← ep']
      exact hT p hp
    · rw [ev] at a1
      exact sorted_end I1 hT a1 a2 k2 hc2 (by rw [hll]; exact hfew) fun L' p pL pw hn => q L' p (by rw [← l2]; exact pL.map (·.2)) (fun z hz => l3 z (pL.mem_iff.mp hz)) pw hn
end
end K16

set_option Elab.async false
set_option linter.all false
set_option maxRecDepth 100000
set_option maxHeartbeats 4000000
/-! rules that the layer lacks: xs[i] += e, text * int, tuple * 1, enumerate(tuple) -/
namespace K16
open PySem PySem.Spec PyProof.Rows L2
section
variable {X : Cx}
/-- xs[i] read, i not below 0, for xs[i] op= e -/
def rGetL (K : PySem.W.Frag) : V → V → Hp → VK → Prop := fun o i H Q => ∃ p xs k v, o = .ref p ∧ i = .int k ∧ SqL K H p xs ∧ 0 ≤ k ∧ xs[k.toNat]? = some v ∧ Q v H
theorem get_list : PGet X (rGetL X.K) := by
  intro pins s σ H o i ov iv Q I ro ri h
  obtain ⟨p, xs, k, v, rfl, rfl, hq, h0, hx, q⟩ := h
  cases ro
  obtain ⟨t, rfl⟩ := ri
  obtain ⟨its, r, pl, hz⟩ := I.list hq
  obtain ⟨u, eu, ru⟩ := r.get hx
  have hl := (List.getElem?_eq_some_iff.mp hx).1
  have hn := line63
  exact wpAny_getItem_list pl.isList h0 (by omega) (by simpa using eu) ⟨v, H, I, ru, q⟩
/-- "n" * 12: some text -/
theorem op_rep_n : OpR X (binaryOp .Mult) (fun x y H Q => x = .str ("n" : Str) ∧ y = .int 12 ∧ ∀ z, Q (.str z) H) := by
  intro pins s σ H x y v u Q I rx ry h
  obtain ⟨rfl, rfl, q⟩ := h
  obtain ⟨t, rfl⟩ := rx
  obtain ⟨t', rfl⟩ := ry
  refine PySem.P.mul_str (by decide) (fun _ _ => by decide +kernel) (fun _ _ => by decide +kernel) ?_
  rw [if_neg (by decide), if_neg (by decide)]
  exact ⟨by decide +kernel, .str _, H, I.tok _, ⟨_, rfl⟩, q _⟩
end
/-- t * 1 is t itself -/
theorem tuple_mul_one (l : Addr) (items : Array Value) (n : Nat) (dd : Option Addr) (sl : Array (Option Value)) (u : Tok) :
    Meets (Builtin.«tuple.__mul__» ⟨[.ref l, .int 1 u], []⟩) (fun _ R s => s.heap.get? l = some { cls := .type "tuple", dict := dd, data := .seq items n, slots := sl } ∧ R (.ok (.ret (Value.ref l))) s) :=
  .of_wp fun prog w A R s h => by
    obtain ⟨hp, g, d, tk, os⟩ := s
    obtain ⟨hl, h⟩ := h
    have f1 := AutoSeq1.idx_int
    wp_walk using AutoSeq1.wpAny_loadPart' hl
    repeat (first
      | (refine wpAny_ite_true (by simp) ?_; wp_walk using AutoSeq1.wpAny_loadPart' hl)
      | (refine wpAny_ite_false (by decide) ?_; wp_walk using AutoSeq1.wpAny_loadPart' hl))
    all_goals exact ⟨_, rfl, h⟩
section
variable {X : Cx}
/-- a tuple, once or more often: itself or a new tuple -/
def rRepO (K : PySem.W.Frag) : R2 := fun x y H Q => ∃ l k xs, x = .ref l ∧ y = .int k ∧ SqT K H l xs ∧ xs ≠ [] ∧ 1 ≤ k ∧ k ≤ 1000 ∧ xs.length ≤ 1000 ∧ Q (.ref l) H ∧ ∀ p ys, H p = none → Q (.ref p) (upd H p (.tup ys))
theorem op_repO : OpR X (binaryOp .Mult) (rRepO X.K) := by
  intro pins s σ H x y v u Q I rx ry h
  obtain ⟨l, k, xs, rfl, rfl, hT, hne, h1, h2, hz, q1, q2⟩ := h
  by_cases hk : k = 1
  · subst hk
    cases rx
    obtain ⟨t, rfl⟩ := ry
    obtain ⟨its, r, ⟨⟨cls, dd, data, sl⟩, ho, hc, n, hd⟩, hs⟩ := I.tuple hT
    simp only at hc hd
    subst hc hd
    exact wpAny_binaryOp_repeat_ref (T := "tuple") (U := "int") (by decide) ⟨_, ho, rfl⟩ (fun s' => typeIs_int s' 1 t) noFill_tuple_mul F.fills_int_mul F.slot_int_rmul repeat_tuple F.slot_int_index.lookup
      (call_meets F.slot_int_rmul (typeIs_int s 1 t) F.entry_int_rmul (F.args_int_rmul_2 _ _) (int_rmul_tuple 1 t l its.toArray n dd sl)
        ⟨ho, rfl, ⟨_, ho, rfl⟩, call_meets F.slot_tuple_mul ⟨_, ho, rfl⟩ F.entry_tuple_mul (F.args_tuple_mul_2 _ _) (tuple_mul_one l its.toArray n dd sl t) ⟨ho, .ref l, H, I, rfl, q1⟩⟩)
  · exact op_repT pins s σ H _ _ v u Q I rx ry ⟨l, k, xs, rfl, rfl, hT, hne, by omega, h2, hz, fun p hp => q2 p _ hp⟩
end
/-! ### enumerate(tuple) -/
theorem meets_enum_one {v : Value} {o : Obj} {G : Heap → Prop} (B : Begins v o G) :
    Meets (Builtin.«enumerate.__new__» ⟨[.type "enumerate", v], []⟩) (fun _ R s => G s.heap ∧
      R (.ok (.ret (.ref (s.heap.push o).objs.size))) { s with heap := (s.heap.push o).push { cls := .type "enumerate", data := .fields #[.none, .bool false, .ref s.heap.objs.size, rawInt 0, .none, .none] } }) :=
  .of_wp fun prog w A R s h => by
    obtain ⟨hp, g, d, tk, os⟩ := s
    obtain ⟨h1, h⟩ := h
    have hsub := sub_enumerate
    have go : ∀ {A' : Around} {E : Value → Shared → Prop} {Q : Value → Shared → Prop}, Q (.ref hp.objs.size) ⟨hp.push o, g, d, tk, os⟩ → wpAny (model prog w) A' (pyIter v) Q E ⟨hp, g, d, tk, os⟩ :=
      fun q => B.iter prog w _ _ ⟨hp, g, d, tk, os⟩ _ h1 q
    wp_walk using go
    refine wpAny_stack_any fun st => wpAny_pure ?_
    split
    · rename_i c _ _ _ _ _
      cases (c == Value.type "enumerate") <;> (wp_walk using go; exact ⟨_, rfl, h⟩)
    · wp_walk using go
      exact ⟨_, rfl, h⟩
theorem enum_one_begins {prog : Program} {w : World} {A : Around} {E : Value → Shared → Prop} {s : Shared} {v : Value} {o : Obj} {G : Heap → Prop} {Q : Value → Shared → Prop} (B : Begins v o G) (h1 : G s.heap)
    (h : ∀ h', IsEnum h' (s.heap.objs.size + 1) s.heap.objs.size 0 .none → h'.get? s.heap.objs.size = some o →
      (∀ b u, s.heap.get? b = some u → h'.get? b = some u) → Q (.ref (s.heap.objs.size + 1)) { s with heap := h' }) :
    wpAny (model prog w) A (call (.type "enumerate") [v]) Q E s := by
  refine callType_new F.called_enumerate (by decide) (F.typeCall_enumerate_1 _) (F.newCall_enumerate_1 _) (fun obj => F.args_object_init_2 obj _) F.entry_enumerate_new (meets_enum_one B) ⟨h1, ?_⟩
  have hz : (s.heap.push o).objs.size = s.heap.objs.size + 1 := Heap.size_push ..
  show _ ∧ _
  rw [hz]
  have he : IsEnum ((s.heap.push o).push { cls := .type "enumerate", data := .fields #[.none, .bool false, .ref s.heap.objs.size, rawInt 0, .none, .none] }) (s.heap.objs.size + 1) s.heap.objs.size 0 .none := by
    have q := Heap.get?_push_size (s.heap.push o) (o := { cls := .type "enumerate", data := .fields #[.none, .bool false, .ref s.heap.objs.size, rawInt 0, .none, .none] }) rfl
    rw [hz] at q
    exact q
  exact ⟨⟨_, he, rfl⟩, h _ he (Heap.get?_push_of_some _ (Heap.get?_push_size _ B.free)) fun b u x => Heap.get?_push_of_some _ (Heap.get?_push_of_some _ x)⟩
/-- the tuple at a, each item in a new pair -/
def IteT (K : PySem.W.Frag) (a : Addr) : It where
  go := fun i H => ∃ (xs : List V) (x : V), SqT K H a xs ∧ xs[i]? = some x
  yld := fun i H v H' => ∃ T x, v = .ref T ∧ H T = none ∧ H' = upd H T (.tup [.int (i : Nat), x]) ∧ ∀ xs, SqT K H a xs → xs[i]? = some x
  stop := fun i H => ∃ xs : List V, SqT K H a xs ∧ xs.length = i
theorem turn_enumT {P : Program} {w : World} {K : PySem.W.Frag} {elts : List Expr} {kk : Nat} {tpos : Pos} (a e it : Addr) :
    Turn P w K (.Tuple elts kk tpos) (IteT K a) [e, it] e (fun i h => (∃ old, IsEnum h e it ((i : Nat) : Int) old) ∧ h.IsTupleIter it a i ∧ e ≠ it) where
  mem := List.mem_cons_self
  obj := fun i h st b hb => by
    obtain ⟨⟨old, he⟩, ⟨o, ho, hc, hd⟩, _⟩ := st
    rcases List.mem_cons.mp hb with z | z
    · rw [z]
      exact ⟨_, he, fun v q => nomatch q⟩
    · rw [List.mem_singleton.mp z]
      exact ⟨o, ho, fun v q => by rw [hd] at q; cases q⟩
  keep := fun i h h' st k => by
    obtain ⟨⟨old, he⟩, hi, hne⟩ := st
    exact ⟨⟨old, k e List.mem_cons_self _ he⟩, hi.at fun o q => k it (List.mem_cons_of_mem _ List.mem_cons_self) o q, hne⟩
  item := by
    intro X hP hw hK hc i pins s σ H E I hf st hg
    subst hP hw hK
    obtain ⟨⟨old, he⟩, hit, hne⟩ := st
    obtain ⟨xs, x, hq, hx⟩ := hg
    obtain ⟨its, rv, p, hz⟩ := I.tuple hq
    have p' : s.heap.IsTuple a its.toArray := p
    have hel : e < s.heap.objs.size := Heap.lt_size he
    have hil : it < s.heap.objs.size := by obtain ⟨_, q, _⟩ := hit; exact Heap.lt_size q
    have hai : a ≠ it := fun z => by
      obtain ⟨o1, g1, c1, _⟩ := p
      obtain ⟨o2, g2, c2, _⟩ := hit
      rw [z, g2] at g1
      rw [← Option.some.inj g1, c2] at c1
      injection c1 with c
      exact absurd c (by decide)
    have hae : a ≠ e := fun z => by
      obtain ⟨o1, g1, c1, _⟩ := p
      rw [z, he] at g1
      rw [← Option.some.inj g1] at c1
      have c1' : Value.type "enumerate" = Value.type "tuple" := c1
      injection c1' with c
      exact absurd c (by decide)
    have hlt : i < its.toArray.size := by
      have l1 := (List.getElem?_eq_some_iff.mp hx).1
      rw [List.size_toArray, ← rv.length]
      exact l1
    refine wpAny_pyNext_enum_itemD (Draws.tuple (A := X.A.in1) (I.ok.hd hc) it a hai its.toArray) he ⟨hit, p'⟩ hlt hne (fun z => ?_) fun u h' tk hu ho hit' hT hsz hk => ?_
    · rcases List.mem_cons.mp z with q | q
      · exact hne q
      · exact hae (List.mem_singleton.mp q).symm
    · obtain ⟨u', hu', ru⟩ := rv.get hx
      have eu : u = u' := by
        have q : its.toArray[i]? = some u := hu
        rw [List.getElem?_toArray, hu'] at q
        exact (Option.some.inj q).symm
      subst eu
      refine ⟨_, rfl, wpAny_letOwnedTupleGo_enum (s := { s with heap := h', toks := tk + 1 }) ho fun h'' he' sb => ?_⟩
      have hT2 : h''.get? s.heap.objs.size = some { cls := .type "tuple", data := .seq #[.int i tk, u] } := (sb.2 _ (Nat.ne_of_gt hel)).trans hT
      have new : ObjOk X.prog X.w (upd H s.heap.objs.size (.tup [.int (i : Nat), x])) h'' s.heap.objs.size (.tup [.int (i : Nat), x]) :=
        ⟨by show 2 ≤ sizeLine; decide, [.int i tk, u], .cons ⟨_, rfl⟩ (.cons ru .nil), ⟨_, hT2, rfl, _, rfl⟩⟩
      have I1 : Inv X pins σ (upd H s.heap.objs.size (.tup [.int (i : Nat), x])) { s with heap := h'', toks := tk + 1 } :=
        I.turnedNew (ch := [e, it]) (fun b ob hb q => (sb.2 b (fun z => hb (by simp [z]))).trans (hk b ob (fun z => hb (by simp [z])) (fun z => hb (by simp [z])) q)) hf (Nat.le_refl _) new
      refine ⟨.ref s.heap.objs.size, _, I1, rfl, ⟨_, x, rfl, I.hok.fresh (Nat.le_refl _), rfl, fun ys hy => by rw [I.tuple_inj hy hq]; exact hx⟩, ⟨⟨u, ?_⟩, hit'.1.at fun o q => (sb.2 it (Ne.symm hne)).trans q, hne⟩, fun b hb => ?_⟩
      · rw [show ((i + 1 : Nat) : Int) = (i : Int) + 1 by omega]
        exact he'
      · have hb' : b < s.heap.objs.size := by
          rcases List.mem_cons.mp hb with z | z
          · rw [z]; exact hel
          · rw [List.mem_singleton.mp z]; exact hil
        rw [upd_ne (Nat.ne_of_lt hb')]
        exact (hf b hb).1
  done := by
    intro X hP hw hK hc i pins s σ H E I hf st hg
    subst hP hw hK
    obtain ⟨⟨old, he⟩, hit, hne⟩ := st
    obtain ⟨xs, hq, hx⟩ := hg
    obtain ⟨its, rv, p, hz⟩ := I.tuple hq
    obtain ⟨f0, f1, f2, f3, f4, f5⟩ := hf it (List.mem_cons_of_mem _ List.mem_cons_self)
    have p' : s.heap.IsTuple a its.toArray := p
    have hai : a ≠ it := fun z => by
      obtain ⟨o1, g1, c1, _⟩ := p
      obtain ⟨o2, g2, c2, _⟩ := hit
      rw [z, g2] at g1
      rw [← Option.some.inj g1, c2] at c1
      injection c1 with c
      exact absurd c (by decide)
    have en : i = its.toArray.size := by
      rw [List.size_toArray, ← rv.length]
      exact hx.symm
    subst en
    exact wpAny_pyNext_enum_endD (Draws.tuple (A := X.A.in1) (I.ok.hd hc) it a hai its.toArray) he ⟨hit, p'⟩ fun h' eb => ⟨rfl, I.turned (t' := s.toks) (fun b o hb q => eb b o hb q) f0 f1 f3 f4 f5⟩
  self := fun A i s Q E st h => by
    obtain ⟨⟨_, he⟩, _⟩ := st
    exact wpAny_pyIter_enum he h
def iEnumT (K : PySem.W.Frag) (ta : TA) : TI := fun σ H R => ta σ H fun vs H1 => ∃ a xs, vs = [.ref a] ∧ SqT K H1 a xs ∧ R (IteT K a) H1
theorem pi_enumT {X : Cx} {e : Expr} {ta : TA} {p pos tpos : Pos} {elts : List Expr} {kk : Nat} (hg : Gl X "enumerate") (hm : X.mg "enumerate" = none) (ha : PA X [e] ta) (hs : starEach [e] X.env = [(false, eval e X.env)] := by rfl) :
    PI X (.Tuple elts kk tpos) (.Call (.Name "enumerate" p) [e] [] pos) (iEnumT X.K ta) := by
  refine ⟨fun pins s σ H R I h => ?_⟩
  refine Call_ (ld_blt I hg hm boot_enumerate (PyProof.Rows.callWith_type1 (thn (ha.run pos pins s σ H _ I h) fun us s1 ⟨vs, H1, I1, r1, q1⟩ => ?_) hs rfl))
  obtain ⟨a, xs, ex, hq, q⟩ := q1
  subst ex
  rw [Vals.ref1 r1]
  obtain ⟨its, rv, p', hz⟩ := I1.tuple hq
  refine enum_one_begins (begins_tuple a its.toArray) p' fun h' he hit hk => wpAny_pyIter_enum he ?_
  have I2 : Inv X pins σ H1 { s1 with heap := h' } := I1.kept (t' := s1.toks) hk
  refine ⟨s1.heap.objs.size + 1, [s1.heap.objs.size + 1, s1.heap.objs.size], _, _, H1, rfl, I2, turn_enumT a (s1.heap.objs.size + 1) s1.heap.objs.size, ⟨⟨.none, he⟩, ⟨_, hit, rfl, rfl⟩, Nat.succ_ne_self _⟩, fun b hb => ?_, q⟩
  have hle : s1.heap.objs.size ≤ b := by
    rcases List.mem_cons.mp hb with z | z
    · rw [z]; exact Nat.le_add_right _ _
    · rw [List.mem_singleton.mp z]; exact Nat.le_refl _
  exact I1.fpOk hle (I1.hok.fresh hle)
theorem walk_enumT {K : PySem.W.Frag} {a : Addr} {xs : List V} : Walk (IteT K a) xs.length (fun H => SqT K H a xs) (YPair (fun i => some (.int (i : Nat))) (fun i => xs[i]?)) := by
  refine ⟨fun i H hi q => ⟨xs, xs[i], q, List.getElem?_eq_getElem hi⟩, fun H q => ⟨xs, q, rfl⟩, fun i H v H' hi q y => ?_⟩
  obtain ⟨T, x, h1, h2, h3, h4⟩ := y
  exact ⟨T, .int (i : Nat), x, h1, h2, h3, rfl, h4 xs q⟩
end K16

set_option Elab.async false
set_option linter.all false
set_option maxRecDepth 100000
set_option maxHeartbeats 4000000
namespace K16
open PySem PySem.Spec PyProof.Rows L2
/-! ### the text -/
def topS (i : Nat) : Stmt := PySem.Challenge.pw_lampsaloft_k16_whole_never_fewer_rows.main.body.getD i (.Pass ⟨0, 0, 0, 0⟩)
abbrev sRows : Stmt := topS 1
abbrev sMany : Stmt := topS 2
abbrev sMost : Stmt := topS 3
abbrev sDots : Stmt := topS 9
abbrev sMoved : Stmt := topS 10
abbrev sMirr : Stmt := topS 11
abbrev sShapeOf : Stmt := topS 13
abbrev sMovedL : Stmt := topS 14
abbrev sMirrL : Stmt := topS 15
abbrev sBag : Stmt := topS 17
abbrev sTake : Stmt := topS 18
abbrev sSome : Stmt := topS 19
abbrev sShades : Stmt := topS 20
abbrev sShape : Stmt := topS 21
abbrev sClose : Stmt := topS 22
abbrev sHas : Stmt := topS 23
abbrev sLaw : Stmt := topS 24
abbrev nRows : List Str := ["picture", "spacing", "last", "found", "lamp", "free", "row", "x"]
abbrev nMost : List Str := ["picture", "spacing", "found", "lamp", "many", "other"]
abbrev nTake : List Str := ["_law_bag_here", "_law_many", "_law_cell", "_law_stirred", "_law_value", "_law_begin", "_law_second"]
abbrev nClose : List Str := ["_law_bag_here", "_law_wide", "_law_dots", "_law_lamps", "_law_turn", "_law_x", "_law_z"]
abbrev nHas : List Str := ["_law_picture", "_law_spacing", "_law_many", "_law_line", "_law_rows", "_law_lamp", "_law_barred", "_law_at", "_law_row"]
abbrev nLaw : List Str := ["_law_script", "_law_bag_here", "_law_turn", "_law_picture", "_law_spacing", "_law_many", "_law_at", "_law_less", "_law_x", "_law_z", "_law_others", "_law_one", "_law_other", "_law_both", "_law_lamp"]
theorem scRows : FnScope nRows ["picture", "spacing"] (defScope sRows) := ⟨rfl, rfl, rfl, by decide +kernel, rfl, by decide +kernel, by decide +kernel⟩
theorem scMany : FnScope ["rows"] ["rows"] (defScope sMany) := ⟨rfl, rfl, rfl, by decide +kernel, rfl, by decide +kernel, by decide +kernel⟩
theorem scMost : FnScope nMost ["picture", "spacing"] (defScope sMost) := ⟨rfl, rfl, rfl, by decide +kernel, rfl, by decide +kernel, by decide +kernel⟩
theorem scDots : FnScope ["points", "found"] ["points"] (defScope sDots) := ⟨rfl, rfl, rfl, by decide +kernel, rfl, by decide +kernel, by decide +kernel⟩
theorem scMoved : FnScope ["shape", "x", "z", "one"] ["shape", "x", "z"] (defScope sMoved) := ⟨rfl, rfl, rfl, by decide +kernel, rfl, by decide +kernel, by decide +kernel⟩
theorem scMirr : FnScope ["shape", "x", "one"] ["shape", "x"] (defScope sMirr) := ⟨rfl, rfl, rfl, by decide +kernel, rfl, by decide +kernel, by decide +kernel⟩
theorem scShapeOf : FnScope ["picture", "lamp"] ["picture"] (defScope sShapeOf) := ⟨rfl, rfl, rfl, by decide +kernel, rfl, by decide +kernel, by decide +kernel⟩
theorem scMovedL : FnScope ["picture", "x", "z", "dot", "lamp"] ["picture", "x", "z"] (defScope sMovedL) := ⟨rfl, rfl, rfl, by decide +kernel, rfl, by decide +kernel, by decide +kernel⟩
theorem scMirrL : FnScope ["picture", "x", "found", "lamp", "dot"] ["picture", "x"] (defScope sMirrL) := ⟨rfl, rfl, rfl, by decide +kernel, rfl, by decide +kernel, by decide +kernel⟩
theorem scBag : FnScope ["_law_script", "_law_cell"] ["_law_script"] (defScope sBag) := ⟨rfl, rfl, rfl, by decide +kernel, rfl, by decide +kernel, by decide +kernel⟩
theorem scTake : FnScope nTake ["_law_bag_here", "_law_many"] (defScope sTake) := ⟨rfl, rfl, rfl, by decide +kernel, rfl, by decide +kernel, by decide +kernel⟩
theorem scSome : FnScope ["_law_bag_here", "_law_things"] ["_law_bag_here", "_law_things"] (defScope sSome) := ⟨rfl, rfl, rfl, by decide +kernel, rfl, by decide +kernel, by decide +kernel⟩
theorem scShades : FnScope ["_law_bag_here", "_law_names", "_law_some_here", "_law_turn"] ["_law_bag_here"] (defScope sShades) := ⟨rfl, rfl, rfl, by decide +kernel, rfl, by decide +kernel, by decide +kernel⟩
theorem scShape : FnScope ["_law_points"] ["_law_points"] (defScope sShape) := ⟨rfl, rfl, rfl, by decide +kernel, rfl, by decide +kernel, by decide +kernel⟩
theorem scClose : FnScope nClose ["_law_bag_here"] (defScope sClose) := ⟨rfl, rfl, rfl, by decide +kernel, rfl, by decide +kernel, by decide +kernel⟩
theorem scHas : FnScope nHas ["_law_picture", "_law_spacing", "_law_many"] (defScope sHas) := ⟨rfl, rfl, rfl, by decide +kernel, rfl, by decide +kernel, by decide +kernel⟩
theorem scLaw : FnScope nLaw ["_law_script"] (defScope sLaw) := ⟨rfl, rfl, rfl, by decide +kernel, rfl, by decide +kernel, by decide +kernel⟩
/-! ### heaps -/
theorem same_new {H : Hp} {p : Addr} {o : HO} (h : H p = none) : Same H (upd H p o) := fun b x e => by
  rw [upd_ne (ne_of_none e h)]
  exact e
/-- what H does not know may change -/
theorem same_mut {H H' : Hp} {p : Addr} {o : HO} (e : Same H H') (h : H p = none) : Same H (upd H' p o) := fun b x q => by
  rw [upd_ne (ne_of_none q h)]
  exact e b x q
theorem sz100 {n : Nat} (h : n ≤ 100) : n ≤ sizeLine := Nat.le_trans h (by decide)
theorem szM {n : Nat} (h : n ≤ 1000000) : n ≤ sizeLine := Nat.le_trans h (by decide)
theorem sl100 {n : Nat} (h : n ≤ 100) : n < sizeLine := Nat.lt_of_le_of_lt h (by decide)
/-- all but b as it was -/
def SameB (b : Addr) (H H' : Hp) : Prop := ∀ a o, a ≠ b → H a = some o → H' a = some o
theorem SameB.refl (b : Addr) (H : Hp) : SameB b H H := fun _ _ _ h => h
theorem SameB.trans {b : Addr} {H H1 H2 : Hp} (x : SameB b H H1) (y : SameB b H1 H2) : SameB b H H2 := fun a o h e => y a o h (x a o h e)
theorem SameB.of {b : Addr} {H H' : Hp} (x : Same H H') : SameB b H H' := fun a o _ e => x a o e
theorem SameB.set {b : Addr} {H H' : Hp} {o : HO} (x : SameB b H H') : SameB b H (upd H' b o) := fun a u h e => by
  rw [upd_ne h]
  exact x a u h e
theorem SameB.mut {b p : Addr} {H H' : Hp} {o : HO} (x : SameB b H H') (h : H p = none) : SameB b H (upd H' p o) := fun a u ha e => by
  rw [upd_ne (ne_of_none e h)]
  exact x a u ha e
/-! ### lamps, pictures -/
structure Lamp where
  a : Addr
  x : Int
  z : Int
  sh : V
  wt : V
def Lamp.tup (l : Lamp) : List V := [.int l.x, .int l.z, l.sh, l.wt]
def refL (ls : List Lamp) : List V := ls.map fun l => V.ref l.a
def xsOf (ls : List Lamp) : List Int := ls.map (·.x)
structure Pic (H : Hp) (p : Addr) (ls : List Lamp) : Prop where
  tup : H p = some (.tup (refL ls))
  lamp : ∀ l ∈ ls, H l.a = some (.tup l.tup)
theorem Pic.same {H H' : Hp} {p : Addr} {ls : List Lamp} (x : Pic H p ls) (e : Same H H') : Pic H' p ls := ⟨e _ _ x.tup, fun l hl => e _ _ (x.lamp l hl)⟩
theorem tup_ne {H : Hp} {a b : Addr} {xs ys : List V} (h : H a = some (.tup xs)) (h' : H b = some (.lst ys)) : a ≠ b := ne_of h h' (by intro z; cases z)
theorem Pic.sameB {H H' : Hp} {p b : Addr} {ls : List Lamp} {ys : List V} (x : Pic H p ls) (hb : H b = some (.lst ys)) (e : SameB b H H') : Pic H' p ls :=
  ⟨e _ _ (tup_ne x.tup hb) x.tup, fun l hl => e _ _ (tup_ne (x.lamp l hl) hb) (x.lamp l hl)⟩
theorem Pic.at {H : Hp} {p : Addr} {ls : List Lamp} (x : Pic H p ls) {i : Nat} {l : Lamp} (h : ls[i]? = some l) : H l.a = some (.tup l.tup) := x.lamp l (List.mem_of_getElem? h)
theorem refL_at {ls : List Lamp} {i : Nat} {l : Lamp} (h : ls[i]? = some l) : (refL ls)[i]? = some (.ref l.a) := by
  unfold refL
  rw [List.getElem?_map, h]
  rfl
theorem refL_len (ls : List Lamp) : (refL ls).length = ls.length := List.length_map _
theorem xsOf_at {ls : List Lamp} {i : Nat} {l : Lamp} (h : ls[i]? = some l) : (xsOf ls)[i]? = some l.x := by
  unfold xsOf
  rw [List.getElem?_map, h]
  rfl
theorem xsOf_len (ls : List Lamp) : (xsOf ls).length = ls.length := List.length_map _
/-- a lamp by its place -/
theorem lamp_at {ls : List Lamp} {i : Nat} (h : i < ls.length) : ∃ l, ls[i]? = some l := ⟨ls[i], List.getElem?_eq_getElem h⟩
theorem drop_at {α : Type} {l : List α} {i : Nat} {x : α} (h : l[i]? = some x) : l.drop i = x :: l.drop (i + 1) := by
  obtain ⟨h1, e⟩ := List.getElem?_eq_some_iff.mp h
  rw [← e]
  exact List.drop_eq_getElem_cons h1
/-! ### ints and their lists as values -/
def vI (ns : List Int) : List V := ns.map V.int
def vN (ns : List Nat) : List V := ns.map fun n : Nat => V.int (n : Int)
theorem vI_at {ns : List Int} {i : Nat} {n : Int} (h : ns[i]? = some n) : (vI ns)[i]? = some (.int n) := by
  unfold vI
  rw [List.getElem?_map, h]
  rfl
theorem vI_len (ns : List Int) : (vI ns).length = ns.length := List.length_map _
theorem vN_len (ns : List Nat) : (vN ns).length = ns.length := List.length_map _
theorem vN_eq (ns : List Nat) : vN ns = vI (ns.map fun n : Nat => (n : Int)) := by
  unfold vN vI
  rw [List.map_map]
  rfl
theorem vN_at {ns : List Nat} {i n : Nat} (h : ns[i]? = some n) : (vN ns)[i]? = some (.int (n : Int)) := by
  unfold vN
  rw [List.getElem?_map, h]
  rfl
theorem vI_append (a b : List Int) : vI (a ++ b) = vI a ++ vI b := List.map_append
theorem vN_append (a b : List Nat) : vN (a ++ b) = vN a ++ vN b := List.map_append
theorem vI_take (a : List Int) (n : Nat) : vI (a.take n) = (vI a).take n := List.map_take
theorem vI_drop (a : List Int) (n : Nat) : vI (a.drop n) = (vI a).drop n := List.map_drop
/-! ### [] compared -/
theorem dp_ints {K : PySem.W.Frag} {H : Hp} : ∀ ns : List Int, DpAll K H (vI ns) (ns.map PyData.int)
  | [] => .nil
  | n :: ns => .cons (.int n) (dp_ints ns)
theorem lay_ints : ∀ ns : List Int, PyData.canLayAll0 (ns.map PyData.int) = true
  | [] => by rw [List.map_nil]; simp [PyData.canLayAll0]
  | n :: ns => by
    rw [List.map_cons]
    simp only [PyData.canLayAll0, PyData.canLay0, Bool.true_and]
    exact lay_ints ns
theorem depth_ints : ∀ ns : List Int, PyData.depthAll (ns.map PyData.int) ≤ 1
  | [] => by rw [List.map_nil]; simp [PyData.depthAll]
  | n :: ns => by
    have ih := depth_ints ns
    rw [List.map_cons]
    simp only [PyData.depthAll, PyData.depth]
    omega
theorem shaped_ints (ns : List Int) : SeqAt.shaped (.list (ns.map PyData.int)) = true := by
  have h := depth_ints ns
  unfold SeqAt.shaped
  simp only [PyData.canLay0, PyData.depth, lay_ints, Bool.true_and]
  exact decide_eq_true (by omega)
theorem eqv_nil (ds : List PyData) : PyData.eqv (.list ds) (.list []) = ds.isEmpty := by
  cases ds <;> simp [PyData.eqv, PyData.eqvAll]
theorem shaped_nil : SeqAt.shaped (.list []) = true := shaped_ints []
theorem lay_tups : ∀ ls : List (List Int), PyData.canLayAll0 (ls.map fun ns => PyData.tuple (ns.map PyData.int)) = true
  | [] => by rw [List.map_nil]; simp [PyData.canLayAll0]
  | n :: ns => by
    rw [List.map_cons]
    simp only [PyData.canLayAll0, PyData.canLay0, lay_ints, Bool.true_and]
    exact lay_tups ns
theorem depth_tups : ∀ ls : List (List Int), PyData.depthAll (ls.map fun ns => PyData.tuple (ns.map PyData.int)) ≤ 3
  | [] => by rw [List.map_nil]; simp [PyData.depthAll]
  | n :: ns => by
    have ih := depth_tups ns
    have h := depth_ints n
    rw [List.map_cons]
    simp only [PyData.depthAll, PyData.depth]
    omega
theorem shaped_tups (ls : List (List Int)) : SeqAt.shaped (.list (ls.map fun ns => PyData.tuple (ns.map PyData.int))) = true := by
  have h := depth_tups ls
  unfold SeqAt.shaped
  simp only [PyData.canLay0, PyData.depth, lay_tups, Bool.true_and]
  exact decide_eq_true (by omega)
end K16

set_option Elab.async false
set_option linter.all false
set_option maxRecDepth 100000
set_option maxHeartbeats 4000000
namespace K16
open PySem PySem.Spec PyProof.Rows L2
section
variable {P : Program} {w : World} {K : PySem.W.Frag} {mg : Str → Option Value} {base : Heap}
/-! ### rows_of -/
def spRows : Sp := fun vs H Q _ => ∃ (p : Addr) (ls : List Lamp) (s : Int), vs = [.ref p, .int s] ∧ Pic H p ls ∧ ls.length ≤ 100 ∧
  ∀ H' t, Same H H' → H t = none → H' t = some (.tup (vN (ffR s [] (xsOf ls)))) → Q (.ref t) H'
/-- the free rows as the comprehension finds them -/
def freeTo (s x : Int) (last : List Int) (j : Nat) : List Nat := (List.range j).filter fun k => decide (s ≤ x - last.getD k 0)
theorem freeTo_all (s x : Int) (last : List Int) : freeTo s x last last.length = freeOf s x last := rfl
theorem freeTo_succ (s x : Int) (last : List Int) (j : Nat) {y : Int} (h : last[j]? = some y) : freeTo s x last (j + 1) = if s ≤ x - y then freeTo s x last j ++ [j] else freeTo s x last j := by
  unfold freeTo
  rw [List.range_succ, List.filter_append, List.filter_cons, getD_of h]
  by_cases c : s ≤ x - y
  · rw [if_pos c, if_pos (decide_eq_true c)]
    rfl
  · rw [if_neg c, if_neg (by rw [decide_eq_false c]; exact Bool.false_ne_true)]
    exact List.append_nil _
theorem freeTo_len (s x : Int) (last : List Int) (j : Nat) : (freeTo s x last j).length ≤ j := by
  unfold freeTo
  exact Nat.le_trans (List.length_filter_le _ _) (Nat.le_of_eq List.length_range)
theorem cut_lo (xs : List V) (k : Nat) (h : k ≤ xs.length) : cutV xs (some (k : Int)) none = xs.drop k := by
  unfold cutV
  rw [HT.sIx_nat, HT.sIx_none, Nat.min_eq_left h, List.take_of_length_le]
  rw [List.length_drop]
  exact Nat.le_refl _
theorem cut_any_lo (xs : List V) (k : Nat) : cutV xs (some (k : Int)) none = xs.drop k := by
  by_cases h : k ≤ xs.length
  · exact cut_lo xs k h
  · unfold cutV
    rw [HT.sIx_nat, HT.sIx_none, Nat.min_eq_right (by omega), List.drop_length, List.drop_eq_nil_of_le (by omega), List.take_nil]
theorem cut_hi (xs : List V) (k : Nat) : cutV xs none (some (k : Int)) = xs.take k := by
  unfold cutV
  rw [HT.sIx_nat, HT.sIx_none, List.drop_zero, Nat.sub_zero]
  by_cases h : k ≤ xs.length
  · rw [Nat.min_eq_left h]
  · rw [Nat.min_eq_right (by omega), List.take_of_length_le (Nat.le_refl _), List.take_of_length_le (by omega)]
theorem ite_val {c : Bool} {ta tb : TE} {σ : L2.St} {H : Hp} {Q : VK} (v : V) (h1 : c = true → ∀ Q' : VK, Q' v H → ta σ H Q') (h2 : c = false → ∀ Q' : VK, Q' v H → tb σ H Q') (h : Q v H) : if c = true then ta σ H Q else tb σ H Q := by
  cases c with
  | true => exact iteT (h1 rfl Q h)
  | false => exact iteF (h2 rfl Q h)
theorem fit_nil {s x : Int} {last : List Int} (h : freeOf s x last = []) : fit s x last = last.length := by
  unfold fit
  rw [h]
theorem fit_cons {s x : Int} {last : List Int} {r : Nat} {l : List Nat} (h : freeOf s x last = r :: l) : fit s x last = r := by
  unfold fit
  rw [h]
theorem ok_rows {f : Addr} {fd : FuncData} {k : Nat} (F : Fun K "rows_of" "rows_of" sRows f fd) (me : mg "enumerate" = none) (ml : mg "len" = none) (mt : mg "tuple" = none) : FnOk P w K mg base CX0 (k + 1) f fd ["picture", "spacing"] spRows := by
  refine F.ok scRows (fun vs H Q E h => ?_) (fun cdv A outer s H vs Q E hr h => ?_)
  · obtain ⟨p, ls, s, rfl, _⟩ := h
    rfl
  · obtain ⟨p, ls, sp, rfl, hP, hlen, q⟩ := h
    refine ⟨_, pss_cons (ps_par (i := 2) (j := 3) rfl scRows.nd rfl rfl (by decide) rfl rfl (pa_cons (pe_lst pa_nil) (pa_cons (pe_lst pa_nil) pa_nil)) (by rfl))
      (pss_cons (ps_for PassesOwn.never rfl (pi_tup (pv 0)) (pg_name (i := 4) scRows.nd rfl (.inr rfl))
        (pss_cons (ps_setLc (i := 5) (own := [("row", 6), ("x", 7)]) (g := gTup K 2 (gCons (gName 6) (gCons (gName 7) gNil))) rfl scRows.nd rfl rfl (sw_true rfl rfl rfl (by decide +kernel)) (pi_enum (by rfl) me (pa_cons (pv 2) pa_nil)) (blkOk_by (N := nRows) (sc := defScope sRows) (by decide +kernel))
          (fun _ _ _ _ _ => pg_tup rfl (pgs_cons (pg_name (i := 6) scRows.nd rfl (Or.inl rfl) (Or.inr rfl)) (pgs_cons (pg_name (i := 7) scRows.nd rfl (Or.inl rfl) (Or.inr rfl)) pgs_nil)))
          (fun _ _ _ _ _ => pts_one (pt_cmpR op_ge (pe_op op_sub (pe_ix (r := rIxT K) ix_tup (pv 4) pe_int (fun _ _ => rfl)) (pv 7)) (pv 1) (nomark _)))
          (fun _ _ _ _ _ => pv 6))
        (pss_cons (ps_set (i := 6) scRows.nd rfl (.inl rfl) (pe_ifExp (pt_cmpR (op_neD hr.units) (pv 5) (pe_lst pa_nil) (nomark _)) (pe_ix ix_list (pv 5) pe_int (fun _ _ => rfl)) (pe_callB call_len_seq (by rfl) ml PySem.boot_len (pa_cons (pv 2) pa_nil))))
        (pss_cons (ps_set (i := 2) scRows.nd rfl (.inl rfl) (pe_op op_cat (pe_op op_cat (pe_slice sl_list (pv 2) po_none (po_some (pv 6))) (pe_lst (pa_cons (pe_ix ix_tup (pv 4) pe_int (fun _ _ => rfl)) pa_nil))) (pe_slice sl_list (pv 2) (po_some (pe_op op_add (pv 6) pe_int)) po_none)))
        (pss_one (ps_expr (pe_bm PySem.F.plainAttrs_list PySem.F.slot_list_append PySem.F.type_list_append mt_append (pv 3) (pa_cons (pv 6) pa_nil))))))))
      (pss_one (ps_ret (pe_callTy call_tuple_of (by rfl) mt (by decide +kernel) (pa_cons (pv 3) pa_nil))))), ?_⟩
    -- last, found = [], []
    refine ⟨Nat.zero_le _, fun la nla => ⟨Nat.zero_le _, fun fo nfo => ⟨.ref la, .ref fo, rfl, ?_⟩⟩⟩
    have s0 : Same H (upd (upd H la (.lst [])) fo (.lst [])) := (same_new nla).trans (same_new nfo)
    have hfo0 : H fo = none := (same_new nla).free nfo
    have lafo : la ≠ fo := fun e => by
      rw [← e, upd_same] at nfo
      cases nfo
    refine ⟨.ref p, rfl, p, rfl, ⟨_, SqT.of (s0 _ _ hP.tup)⟩, for_tup (K := K) (xs := refL ls) (fun i σ H1 => ∃ (la : Addr) (last : List Int) (rs : List Nat) (y4 y5 y6 : Option V),
      σ = [some (.ref p), some (.int sp), some (.ref la), some (.ref fo), y4, y5, y6, none] ∧ Same H H1 ∧ H1 la = some (.lst (vI last)) ∧ H1 fo = some (.lst (vN rs)) ∧ la ≠ fo ∧ last.length ≤ i ∧ rs.length = i ∧
      ffR sp [] (xsOf ls) = rs ++ ffR sp last ((xsOf ls).drop i)) ⟨la, [], [], none, none, none, rfl, s0, by rw [upd_ne lafo, upd_same]; rfl, upd_same, lafo, Nat.zero_le _, rfl, rfl⟩
      (fun i σ H1 _ h => ?_) (fun i x σ H1 hx h => ?_) (fun σ H1 h => ?_)⟩
    · obtain ⟨_, _, _, _, _, _, _, sm, _⟩ := h
      exact SqT.of (sm _ _ hP.tup)
    · obtain ⟨la, last, rs, y4, y5, y6, rfl, sm, hla, hfo1, ne, hll, hrl, er⟩ := h
      have hi : i < ls.length := by
        rw [← refL_len ls]
        exact (List.getElem?_eq_some_iff.mp hx).1
      obtain ⟨l, hl⟩ := lamp_at hi
      have ex : x = .ref l.a := Option.some.inj (hx.symm.trans (refL_at hl))
      subst ex
      have hlamp : H1 l.a = some (.tup l.tup) := sm _ _ (hP.at hl)
      have edrop : (xsOf ls).drop i = l.x :: (xsOf ls).drop (i + 1) := drop_at (xsOf_at hl)
      -- free = [..]
      refine ⟨.ref la, rfl, la, vI last, rfl, SqL.of hla, fun D nD => ?_⟩
      refine lc_it (walk_enum (K := K) (a := la) (xs := vI last)) (fun j H2 => Same H1 H2 ∧ H2 D = some (.lst (vN (freeTo sp l.x last j)))) ⟨same_new nD, upd_same⟩ (fun j H2 _ h => SqL.of (h.1 _ _ hla)) (fun j v H2 H3 hj h hy => ?_) (fun H2 h => ?_)
      · obtain ⟨s2, hD⟩ := h
        obtain ⟨T, x1, x2, rfl, nT, rfl, e1, e2⟩ := hy
        have e1' : V.int (j : Int) = x1 := Option.some.inj e1
        subst e1'
        rw [vI_len] at hj
        have hy2 : last[j]? = some last[j] := List.getElem?_eq_getElem hj
        have ex2 : x2 = .int last[j] := Option.some.inj (e2.symm.trans (vI_at hy2))
        subst ex2
        have s3 : Same H1 (upd H2 T (.tup [.int (j : Int), .int last[j]])) := s2.trans (same_new nT)
        have hD3 : upd H2 T (.tup [.int (j : Int), .int last[j]]) D = some (.lst (vN (freeTo sp l.x last j))) := same_new nT _ _ hD
        refine ⟨T, [.int (j : Int), .int last[j]], rfl, SqT.of upd_same, rfl, .int (j : Int), [.int last[j]], rfl, .int last[j], [], rfl, rfl, rfl, ?_⟩
        refine ⟨.ref l.a, rfl, l.a, l.tup, 0, .int l.x, rfl, rfl, SqT.of (s3 _ _ hlamp), atI_nat (j := 0) rfl, .int last[j], rfl, l.x, last[j], rfl, rfl, .int sp, rfl, _, sp, rfl, rfl, _, rfl, ite2 (fun c => ?_) (fun c => ?_)⟩
        · have c' := of_decide_eq_true c
          refine ⟨.int (j : Int), rfl, _, hD3, ?_, same_mut s3 nD, ?_⟩
          · rw [vN_len]
            exact sl100 (Nat.le_trans (freeTo_len _ _ _ _) (by omega))
          · rw [upd_same, freeTo_succ _ _ _ _ hy2, if_pos c', vN_append]
            rfl
        · have c' : ¬ sp ≤ l.x - last[j] := fun z => c (decide_eq_true z)
          refine ⟨s3, ?_⟩
          rw [freeTo_succ _ _ _ _ hy2, if_neg c']
          exact hD3
      · obtain ⟨s2, hD⟩ := h
        rw [vI_len, freeTo_all] at hD
        have s02 : Same H H2 := sm.trans s2
        -- row = free[0] if free != [] else len(last)
        refine ⟨.ref D, rfl, Nat.zero_le _, fun c nc => ?_⟩
        have sc : Same H2 (upd H2 c (.lst [])) := same_new nc
        have hc : upd H2 c (.lst []) c = some (.lst []) := upd_same
        generalize upd H2 c (.lst []) = H3 at sc hc
        have hD3 := sc _ _ hD
        have hla3 : H3 la = some (.lst (vI last)) := sc _ _ (s2 _ _ hla)
        have hlamp3 : H3 l.a = some (.tup l.tup) := sc _ _ (s2 _ _ hlamp)
        have hfo3 : H3 fo = some (.lst (vN rs)) := sc _ _ (s2 _ _ hfo1)
        have s03 : Same H H3 := s02.trans sc
        have hD4 := hD3
        rw [vN_eq] at hD4
        refine ⟨_, _, Dp.lst (SqL.of hD4) (dp_ints _), Dp.lst (SqL.of hc) DpAll.nil, shaped_ints _, shaped_nil, _, rfl, ?_⟩
        refine ite_val (.int (fit sp l.x last : Int)) (fun e Q' q' => ?_) (fun e Q' q' => ?_) ?_
        · rw [eqv_nil] at e
          cases ef : freeOf sp l.x last with
          | nil => rw [ef] at e; cases e
          | cons r rest =>
            rw [fit_cons ef] at q'
            rw [ef] at hD3
            exact ⟨.ref D, rfl, D, _, 0, .int (r : Int), rfl, rfl, SqL.of hD3, atI_nat (j := 0) rfl, q'⟩
        · rw [eqv_nil] at e
          cases ef : freeOf sp l.x last with
          | cons r rest => rw [ef] at e; cases e
          | nil =>
            rw [fit_nil ef] at q'
            refine ⟨.ref la, rfl, la, vI last, rfl, .inl (SqL.of hla3), ?_⟩
            rw [vI_len]
            exact q'
        -- last = last[:row] + [lamp[0]] + last[row + 1:]
        have hfl := fit_le sp l.x last
        refine ⟨.ref la, rfl, .int (fit sp l.x last : Int), rfl, (fit sp l.x last : Int), rfl, la, vI last, rfl, SqL.of hla3, fun a na => ?_⟩
        have sa := s03.trans (same_new (o := .lst (cutV (vI last) none (some (fit sp l.x last : Int)))) na)
        have sa3 : Same H3 (upd H3 a (.lst (cutV (vI last) none (some (fit sp l.x last : Int))))) := same_new na
        have ha : upd H3 a (.lst (cutV (vI last) none (some (fit sp l.x last : Int)))) a = some (.lst (vI (last.take (fit sp l.x last)))) := by
          rw [upd_same, cut_hi, vI_take]
        generalize upd H3 a (.lst (cutV (vI last) none (some (fit sp l.x last : Int)))) = H4 at sa sa3 ha
        refine ⟨.ref l.a, rfl, l.a, l.tup, 0, .int l.x, rfl, rfl, SqT.of (sa3 _ _ hlamp3), atI_nat (j := 0) rfl, sz100 (by show 1 ≤ 100; decide), fun b nb => ?_⟩
        have sb4 : Same H4 (upd H4 b (.lst [.int l.x])) := same_new nb
        have hb : upd H4 b (.lst [.int l.x]) b = some (.lst [.int l.x]) := upd_same
        generalize upd H4 b (.lst [.int l.x]) = H5 at sb4 hb
        have l1 : (vI (last.take (fit sp l.x last))).length ≤ 100 := by
          rw [vI_len, List.length_take]
          omega
        refine ⟨a, b, _, _, rfl, rfl, sb4 _ _ ha, hb, szM (by rw [List.length_singleton]; omega), fun d nd => ?_⟩
        have sd5 : Same H5 (upd H5 d (.lst (vI (last.take (fit sp l.x last)) ++ [.int l.x]))) := same_new nd
        have hd : upd H5 d (.lst (vI (last.take (fit sp l.x last)) ++ [.int l.x])) d = some (.lst (vI (last.take (fit sp l.x last)) ++ [.int l.x])) := upd_same
        generalize upd H5 d (.lst (vI (last.take (fit sp l.x last)) ++ [.int l.x])) = H6 at sd5 hd
        have s36 : Same H3 H6 := sa3.trans (sb4.trans sd5)
        refine ⟨.ref la, rfl, .int (fit sp l.x last : Int), rfl, (fit sp l.x last : Int), 1, rfl, rfl, ((fit sp l.x last + 1 : Nat) : Int), rfl, la, vI last, rfl, SqL.of (s36 _ _ hla3), fun e ne' => ?_⟩
        have se6 : Same H6 (upd H6 e (.lst (cutV (vI last) (some ((fit sp l.x last + 1 : Nat) : Int)) none))) := same_new ne'
        have he : upd H6 e (.lst (cutV (vI last) (some ((fit sp l.x last + 1 : Nat) : Int)) none)) e = some (.lst (vI (last.drop (fit sp l.x last + 1)))) := by
          rw [upd_same, cut_any_lo, vI_drop]
        generalize upd H6 e (.lst (cutV (vI last) (some ((fit sp l.x last + 1 : Nat) : Int)) none)) = H7 at se6 he
        refine ⟨d, e, _, _, rfl, rfl, se6 _ _ hd, he, szM (by rw [List.length_append, List.length_singleton, vI_len (last.drop _), List.length_drop]; omega), fun n nn => ?_⟩
        have sn7 : Same H7 (upd H7 n (.lst (vI (last.take (fit sp l.x last)) ++ [.int l.x] ++ vI (last.drop (fit sp l.x last + 1))))) := same_new nn
        have hn : upd H7 n (.lst (vI (last.take (fit sp l.x last)) ++ [.int l.x] ++ vI (last.drop (fit sp l.x last + 1)))) n = some (.lst (vI (put last (fit sp l.x last) l.x))) := by
          rw [upd_same]
          unfold put
          rw [vI_append, vI_append]
          rfl
        have s37 : Same H3 H7 := s36.trans se6
        have fn : H fo = none := hfo0
        have nH : H7 n = none := nn
        generalize upd H7 n (.lst (vI (last.take (fit sp l.x last)) ++ [.int l.x] ++ vI (last.drop (fit sp l.x last + 1)))) = H8 at sn7 hn
        have s8 : Same H H8 := (s03.trans s37).trans sn7
        have hfo8 : H8 fo = some (.lst (vN rs)) := sn7 _ _ (s37 _ _ hfo3)
        have nfo' : n ≠ fo := (ne_of_none (s37 _ _ hfo3) nH).symm
        -- found.append(row)
        refine ⟨.ref fo, rfl, .inl ⟨rfl, _, SqL.of hfo8⟩, .int (fit sp l.x last : Int), rfl, fo, vN rs, .int (fit sp l.x last : Int), rfl, rfl, hfo8, sl100 (by rw [vN_len]; omega), ?_⟩
        refine ⟨n, put last (fit sp l.x last) l.x, rs ++ [fit sp l.x last], _, _, _, rfl, same_mut s8 hfo0, ?_, ?_, nfo', ?_, ?_, ?_⟩
        · rw [upd_ne nfo']
          exact hn
        · rw [upd_same, vN_append]
          rfl
        · have := put_length_le last (fit sp l.x last) l.x
          omega
        · rw [List.length_append, List.length_singleton]
          omega
        · rw [er, edrop, List.append_assoc]
          rfl
    · obtain ⟨la, last, rs, y4, y5, y6, rfl, sm, hla, hfo1, ne, hll, hrl, er⟩ := h
      rw [refL_len] at hrl
      have e0 : (xsOf ls).drop ls.length = [] := List.drop_eq_nil_of_le (by rw [xsOf_len]; exact Nat.le_refl _)
      rw [refL_len, e0] at er
      have er' : ffR sp [] (xsOf ls) = rs := er.trans (List.append_nil rs)
      refine ⟨.ref fo, rfl, fo, vN rs, rfl, .inl ⟨SqL.of hfo1, fun t nt => ?_⟩⟩
      refine q _ t (sm.trans (same_new nt)) (sm.free nt) ?_
      rw [upd_same, er']
end
end K16

set_option Elab.async false
set_option linter.all false
set_option maxRecDepth 100000
set_option maxHeartbeats 4000000
namespace K16
open PySem PySem.Spec PyProof.Rows L2
section
variable {P : Program} {w : World} {K : PySem.W.Frag} {mg : Str → Option Value} {base : Heap}
/-! ### rows_many -/
def spMany : Sp := fun vs H Q _ => ∃ (t : Addr) (s : Int) (xs : List Int), vs = [.ref t] ∧ H t = some (.tup (vN (ffR s [] xs))) ∧ 1 ≤ s ∧ xs.Pairwise (· ≤ ·) ∧ xs.length ≤ 100 ∧
  ∀ H' (n : Nat), Same H H' → IsW s xs n → (∀ r ∈ ffR s [] xs, r < n) → Q (.int (n : Int)) H'
theorem ok_many {f : Addr} {fd : FuncData} {k : Nat} (F : Fun K "rows_many" "rows_many" sMany f fd) (mm : mg "max" = none) : FnOk P w K mg base CX0 (k + 1) f fd ["rows"] spMany := by
  refine F.ok scMany (fun vs H Q E h => ?_) (fun cdv A outer s H vs Q E hr h => ?_)
  · obtain ⟨t, s, xs, rfl, _⟩ := h
    rfl
  · obtain ⟨t, sp, xs, rfl, hT, hs, srt, hlen, q⟩ := h
    refine ⟨_, pss_one (ps_ret (pe_op op_add (pe_callB (cr_max rfl) (by rfl) mm (by decide +kernel) (pa_cons (pe_lst (pa_cons (pe_un un_neg pe_int) (StX.pa_star (pv 0) pa_nil))) pa_nil)) pe_int)), ?_⟩
    have e1 : (V.int (-1) :: (vN (ffR sp [] xs) ++ [])) = ((-1 : Int) :: (ffR sp [] xs).map fun r : Nat => (r : Int)).map V.int := by
      rw [List.append_nil, vN_eq]
      rfl
    refine ⟨1, rfl, .ref t, rfl, t, vN (ffR sp [] xs), rfl, .inl (SqT.of hT), ?_, fun l nl => ?_⟩
    · show (V.int (-1) :: (vN (ffR sp [] xs) ++ [])).length ≤ sizeLine
      rw [List.append_nil, List.length_cons, vN_len, ffR_length]
      exact szM (by omega)
    · have hl : upd H l (.lst (V.int (-1) :: (vN (ffR sp [] xs) ++ []))) l = some (.lst (((-1 : Int) :: (ffR sp [] xs).map fun r : Nat => (r : Int)).map V.int)) := by
        rw [upd_same, e1]
      refine ⟨l, (-1 : Int) :: (ffR sp [] xs).map fun r : Nat => (r : Int), rfl, SqL.of hl, Nat.succ_pos _, fun m hm hle => ?_⟩
      refine ⟨m, 1, rfl, rfl, ?_⟩
      have h1 : -1 ≤ m := hle (-1) List.mem_cons_self
      have h2 : ∀ r ∈ ffR sp [] xs, (r : Int) ≤ m := fun r hr => hle r (List.mem_cons_of_mem _ (List.mem_map.mpr ⟨r, hr, rfl⟩))
      have h3 : m = -1 ∨ ∃ r ∈ ffR sp [] xs, m = (r : Int) := by
        rcases List.mem_cons.mp hm with z | z
        · exact .inl z
        · obtain ⟨r, hr, e⟩ := List.mem_map.mp z
          exact .inr ⟨r, hr, e.symm⟩
      have iw := ff_isW hs srt h3 h2 h1
      have e2 : ((m + 1).toNat : Int) = m + 1 := Int.toNat_of_nonneg (by omega)
      show Q (.int (m + 1)) (upd H l (.lst (V.int (-1) :: (vN (ffR sp [] xs) ++ []))))
      rw [← e2]
      refine q _ _ (same_new nl) iw fun r hr => ?_
      have := h2 r hr
      omega
/-! ### most_abreast -/
def spMost : Sp := fun vs H Q _ => ∃ (p : Addr) (ls : List Lamp) (s : Int), vs = [.ref p, .int s] ∧ Pic H p ls ∧ ls.length ≤ 100 ∧
  ∀ H' t (n : Nat) (v : V), Same H H' → H' t = some (.tup [.int (n : Int), v]) → IsW s (xsOf ls) n → Q (.ref t) H'
/-- the lamps of a stretch that the comprehension has so far -/
def inTo (s x : Int) (ls : List Lamp) (j : Nat) : List Lamp := (ls.take j).filter fun l => decide (x ≤ l.x) && decide (l.x < x + s)
theorem inTo_succ {s x : Int} {ls : List Lamp} {j : Nat} {l : Lamp} (h : ls[j]? = some l) : inTo s x ls (j + 1) = if x ≤ l.x ∧ l.x < x + s then inTo s x ls j ++ [l] else inTo s x ls j := by
  unfold inTo
  rw [List.take_add_one, h, List.filter_append]
  by_cases c : x ≤ l.x ∧ l.x < x + s
  · rw [if_pos c]
    show _ ++ List.filter _ [l] = _
    rw [List.filter_cons, decide_eq_true c.1, decide_eq_true c.2]
    rfl
  · rw [if_neg c]
    show _ ++ List.filter _ [l] = _
    rw [List.filter_cons, if_neg (by simpa only [Bool.and_eq_true, decide_eq_true_eq] using c)]
    exact List.append_nil _
theorem inTo_all (s x : Int) (ls : List Lamp) : (inTo s x ls ls.length).length = cnt s (xsOf ls) x := by
  unfold inTo cnt xsOf
  rw [List.take_length, List.countP_map, List.countP_eq_length_filter]
  rfl
theorem inTo_len (s x : Int) (ls : List Lamp) (j : Nat) : (inTo s x ls j).length ≤ ls.length := by
  unfold inTo
  refine Nat.le_trans (List.length_filter_le _ _) ?_
  rw [List.length_take]
  omega
theorem ok_most {f : Addr} {fd : FuncData} {k : Nat} (F : Fun K "most_abreast" "most_abreast" sMost f fd) (ml : mg "len" = none) : FnOk P w K mg base CX0 (k + 1) f fd ["picture", "spacing"] spMost := by
  refine F.ok scMost (fun vs H Q E h => ?_) (fun cdv A outer s H vs Q E hr h => ?_)
  · obtain ⟨p, ls, s, rfl, _⟩ := h
    rfl
  · obtain ⟨p, ls, sp, rfl, hP, hlen, q⟩ := h
    refine ⟨_, pss_cons (ps_set (i := 2) scMost.nd rfl (.inl rfl) (pe_tup (pa_cons pe_int (pa_cons pe_non pa_nil))))
      (pss_cons (ps_for PassesOwn.never rfl (pi_tup (pv 0)) (pg_name (i := 3) scMost.nd rfl (.inr rfl))
        (pss_cons (ps_set (i := 4) scMost.nd rfl (.inl rfl) (pe_callB call_len_seq (by rfl) ml PySem.boot_len (pa_cons
            (pe_lc (own := [("other", 5)]) (g := gName 5) rfl scMost.nd (pi_tup (pv 0)) (blkOk_by (N := nMost) (sc := defScope sMost) (by decide +kernel))
              (fun _ _ _ _ _ => pg_name (i := 5) scMost.nd rfl (Or.inl rfl) (Or.inr rfl))
              (fun _ _ _ _ _ => pts_one (pt_chain op_le op_lt (pe_ix (r := rIxT K) ix_tup (pv 3) pe_int (fun _ _ => rfl)) (pe_ix (r := rIxT K) ix_tup (pv 5) pe_int (fun _ _ => rfl)) (pe_op op_add (pe_ix (r := rIxT K) ix_tup (pv 3) pe_int (fun _ _ => rfl)) (pv 1))))
              (fun _ _ _ _ _ => pv 5)) pa_nil)))
        (pss_one (ps_if (pt_cmpR op_gt (pv 4) (pe_ix ix_tup (pv 2) pe_int (fun _ _ => rfl)) (nomark _))
          (pss_one (ps_set (i := 2) scMost.nd rfl (.inl rfl) (pe_tup (pa_cons (pv 4) (pa_cons (pe_ix ix_tup (pv 3) pe_int (fun _ _ => rfl)) pa_nil))))) pss_nil))))
      (pss_one (ps_ret (pv 2)))), ?_⟩
    -- found = (0, None)
    refine ⟨sz100 (by show 2 ≤ 100; decide), fun f0 nf0 => ?_⟩
    have s0 : Same H (upd H f0 (.tup [.int 0, .non])) := same_new nf0
    refine ⟨.ref p, rfl, p, rfl, ⟨_, SqT.of (s0 _ _ hP.tup)⟩, for_tup (K := K) (xs := refL ls) (fun i σ H1 => ∃ (fa : Addr) (m : Nat) (v : V) (y3 y4 : Option V),
      σ = [some (.ref p), some (.int sp), some (.ref fa), y3, y4, none] ∧ Same H H1 ∧ H1 fa = some (.tup [.int (m : Int), v]) ∧ (∀ l ∈ ls.take i, cnt sp (xsOf ls) l.x ≤ m) ∧ ∃ t, m ≤ cnt sp (xsOf ls) t)
      ⟨f0, 0, .non, none, none, rfl, s0, upd_same, fun l hl => ?_, 0, Nat.zero_le _⟩ (fun i σ H1 _ h => ?_) (fun i x σ H1 hx h => ?_) (fun σ H1 h => ?_)⟩
    · rw [List.take_zero] at hl
      cases hl
    · obtain ⟨_, _, _, _, _, _, sm, _⟩ := h
      exact SqT.of (sm _ _ hP.tup)
    · obtain ⟨fa, m, v, y3, y4, rfl, sm, hfa, hle, ht⟩ := h
      have hi : i < ls.length := by
        rw [← refL_len ls]
        exact (List.getElem?_eq_some_iff.mp hx).1
      obtain ⟨l, hl⟩ := lamp_at hi
      have ex : x = .ref l.a := Option.some.inj (hx.symm.trans (refL_at hl))
      subst ex
      have hlamp : H1 l.a = some (.tup l.tup) := sm _ _ (hP.at hl)
      have htake : ls.take (i + 1) = ls.take i ++ [l] := by
        rw [List.take_add_one, hl]
        rfl
      -- many = len([..])
      refine ⟨.ref p, rfl, p, rfl, ⟨_, SqT.of (sm _ _ hP.tup)⟩, fun D nD => ?_⟩
      refine lc_it (walk_tup (K := K) (a := p) (xs := refL ls)) (fun j H2 => Same H1 H2 ∧ H2 D = some (.lst (refL (inTo sp l.x ls j)))) ⟨same_new nD, upd_same⟩ (fun j H2 _ h => SqT.of (h.1 _ _ (sm _ _ hP.tup))) (fun j u H2 H3 hj h hy => ?_) (fun H2 h => ?_)
      · obtain ⟨s2, hD⟩ := h
        obtain ⟨rfl, hu⟩ := hy
        rw [refL_len] at hj
        obtain ⟨o, ho⟩ := lamp_at hj
        have eu : u = .ref o.a := Option.some.inj (hu.symm.trans (refL_at ho))
        subst eu
        have hl3 : H3 l.a = some (.tup l.tup) := s2 _ _ hlamp
        have ho3 : H3 o.a = some (.tup o.tup) := s2 _ _ (sm _ _ (hP.at ho))
        have fin : ∀ b : Bool, (b = true ↔ l.x ≤ o.x ∧ o.x < l.x + sp) → (if b = true then tVar 5 (([some (.ref p), some (.int sp), some (.ref fa), some (.ref l.a), y4, none] : L2.St).set 5 (some (.ref o.a))) H3 (fun y H4 => ∃ acc, H4 D = some (.lst acc) ∧ acc.length < sizeLine ∧ (Same H1 (upd H4 D (.lst (acc ++ [y]))) ∧ upd H4 D (.lst (acc ++ [y])) D = some (.lst (refL (inTo sp l.x ls (j + 1)))))) else Same H1 H3 ∧ H3 D = some (.lst (refL (inTo sp l.x ls (j + 1))))) := by
          intro b hb
          refine ite2 (fun c => ?_) (fun c => ?_)
          · refine ⟨.ref o.a, rfl, _, hD, ?_, same_mut s2 nD, ?_⟩
            · rw [refL_len]
              exact sl100 (Nat.le_trans (inTo_len _ _ _ _) hlen)
            · rw [upd_same, inTo_succ ho, if_pos (hb.mp c)]
              unfold refL
              rw [List.map_append]
              rfl
          · refine ⟨s2, ?_⟩
            rw [inTo_succ ho, if_neg fun z => c (hb.mpr z)]
            exact hD
        refine ⟨rfl, .ref l.a, rfl, l.a, l.tup, 0, .int l.x, rfl, rfl, SqT.of hl3, atI_nat (j := 0) rfl, .ref o.a, rfl, o.a, o.tup, 0, .int o.x, rfl, rfl, SqT.of ho3, atI_nat (j := 0) rfl, l.x, o.x, rfl, rfl, _, rfl, ite2 (fun c => ?_) (fun c => ?_)⟩
        · have c' := of_decide_eq_true c
          refine ⟨.ref l.a, rfl, l.a, l.tup, 0, .int l.x, rfl, rfl, SqT.of hl3, atI_nat (j := 0) rfl, .int sp, rfl, l.x, sp, rfl, rfl, o.x, l.x + sp, rfl, rfl, _, rfl, fin _ ?_⟩
          rw [decide_eq_true_eq]
          exact ⟨fun z => ⟨c', z⟩, fun z => z.2⟩
        · refine ⟨false, rfl, fin _ ⟨fun z => (by cases z), fun z => absurd (decide_eq_true z.1) c⟩⟩
      · obtain ⟨s2, hD⟩ := h
        rw [refL_len] at hD
        have s02 : Same H H2 := sm.trans s2
        have hfa2 := s2 _ _ hfa
        refine ⟨D, _, rfl, .inl (SqL.of hD), ?_⟩
        rw [refL_len, inTo_all]
        have hnew : ∀ n : Nat, m ≤ n → cnt sp (xsOf ls) l.x ≤ n → ∀ o ∈ ls.take (i + 1), cnt sp (xsOf ls) o.x ≤ n := fun n h1 h2 o ho => by
          rw [htake] at ho
          rcases List.mem_append.mp ho with z | z
          · exact Nat.le_trans (hle o z) h1
          · rw [List.mem_singleton.mp z]
            exact h2
        refine ⟨.int (cnt sp (xsOf ls) l.x : Int), rfl, .ref fa, rfl, fa, _, 0, .int (m : Int), rfl, rfl, SqT.of hfa2, atI_nat (j := 0) rfl, (cnt sp (xsOf ls) l.x : Int), (m : Int), rfl, rfl, _, rfl, ite2 (fun c => ?_) (fun c => ?_)⟩
        · have c' : (m : Int) < (cnt sp (xsOf ls) l.x : Int) := of_decide_eq_true c
          refine ⟨.int (cnt sp (xsOf ls) l.x : Int), rfl, .ref l.a, rfl, l.a, l.tup, 0, .int l.x, rfl, rfl, SqT.of (s2 _ _ hlamp), atI_nat (j := 0) rfl, sz100 (by show 2 ≤ 100; decide), fun g ng => ?_⟩
          exact ⟨g, cnt sp (xsOf ls) l.x, .int l.x, _, _, rfl, s02.trans (same_new ng), upd_same, hnew _ (by omega) (Nat.le_refl _), l.x, Nat.le_refl _⟩
        · have c' : ¬ (m : Int) < (cnt sp (xsOf ls) l.x : Int) := fun z => c (decide_eq_true z)
          exact ⟨fa, m, v, _, _, rfl, s02, hfa2, hnew _ (Nat.le_refl _) (by omega), ht⟩
    · obtain ⟨fa, m, v, y3, y4, rfl, sm, hfa, hle, ht⟩ := h
      rw [refL_len, List.take_length] at hle
      refine ⟨.ref fa, rfl, q H1 fa m v sm hfa (isW_of_members (fun y hy => ?_) ht)⟩
      obtain ⟨l, hl, e⟩ := List.mem_map.mp hy
      rw [← e]
      exact hle l hl
end
end K16

set_option Elab.async false
set_option linter.all false
set_option maxRecDepth 100000
set_option maxHeartbeats 4000000
namespace K16
open PySem PySem.Spec PyProof.Rows L2
section
variable {P : Program} {w : World} {K : PySem.W.Frag} {mg : Str → Option Value} {base : Heap}
/-! ### _law_has_rows -/
def spHas : Sp := fun vs H Q _ => ∃ (p : Addr) (ls : List Lamp) (s : Int) (m : Nat), vs = [.ref p, .int s, .int (m : Int)] ∧ Pic H p ls ∧ ls.length < 8 ∧ m < 8 ∧
  ∀ H' (b : Bool), Same H H' → (b = true ↔ ∃ rows, Sol s m (xsOf ls) rows) → Q (.bl b) H'
/-- tuples of rows with their addresses -/
def RowsAt (H : Hp) (L : List (Addr × List Nat)) : Prop := ∀ q ∈ L, H q.1 = some (.tup (vN q.2))
def refR (L : List (Addr × List Nat)) : List V := L.map fun q => V.ref q.1
theorem RowsAt.same {H H' : Hp} {L : List (Addr × List Nat)} (x : RowsAt H L) (e : Same H H') : RowsAt H' L := fun q hq => e _ _ (x q hq)
theorem dp_rows {H : Hp} : ∀ L : List (Addr × List Nat), RowsAt H L → DpAll K H (refR L) ((L.map fun q => q.2.map fun n : Nat => (n : Int)).map fun ns => PyData.tuple (ns.map PyData.int))
  | [], _ => .nil
  | q :: L, h => by
    refine .cons (.tup (xs := vN q.2) (SqT.of (h q List.mem_cons_self)) ?_) (dp_rows L fun r hr => h r (List.mem_cons_of_mem _ hr))
    rw [vN_eq]
    exact dp_ints _
theorem inV_nat (r : Nat) : ∀ l : List Nat, inV (.int (r : Int)) (vN l) = decide (r ∈ l)
  | [] => by
    rw [decide_eq_false (List.not_mem_nil)]
    rfl
  | a :: l => by
    have ih := inV_nat r l
    unfold inV at ih ⊢
    show (eqV (.int (a : Int)) (.int (r : Int)) || (vN l).any fun y => eqV y (.int (r : Int))) = _
    rw [ih]
    have e : eqV (.int (a : Int)) (.int (r : Int)) = decide (a = r) := by
      show ((a : Int) == (r : Int)) = decide (a = r)
      rw [Bool.beq_eq_decide_eq]
      exact decide_eq_decide.mpr (by omega)
    rw [e]
    by_cases c : a = r
    · subst c
      simp
    · have c' : ¬ r = a := fun z => c z.symm
      simp [c, c']
theorem flat_vN (l : List Nat) : (vN l).all flatV = true := by
  refine List.all_eq_true.mpr fun x hx => ?_
  obtain ⟨n, _, e⟩ := List.mem_map.mp hx
  rw [← e]
  rfl
theorem refR_append (a b : List (Addr × List Nat)) : refR (a ++ b) = refR a ++ refR b := List.map_append
theorem refR_len (a : List (Addr × List Nat)) : (refR a).length = a.length := List.length_map _
theorem near_succ {s x y : Int} {l : List (Int × Nat)} {j r : Nat} (h : l[j]? = some (y, r)) : near s x (l.take (j + 1)) = if x - y < s then near s x (l.take j) ++ [r] else near s x (l.take j) := by
  unfold near
  rw [List.take_add_one, h, List.filter_append, List.map_append]
  by_cases c : x - y < s
  · rw [if_pos c]
    show _ ++ List.map _ (List.filter _ [(y, r)]) = _
    rw [List.filter_cons, decide_eq_true c]
    rfl
  · rw [if_neg c]
    show _ ++ List.map _ (List.filter _ [(y, r)]) = _
    rw [List.filter_cons, decide_eq_false c]
    exact List.append_nil _
theorem near_len (s x : Int) (l : List (Int × Nat)) : (near s x l).length ≤ l.length := by
  unfold near
  rw [List.length_map]
  exact List.length_filter_le _ _
def extsTo (barred rows : List Nat) (j : Nat) : List (List Nat) := ((List.range j).filter fun r => !decide (r ∈ barred)).map fun r => rows ++ [r]
theorem extsTo_succ (barred rows : List Nat) (j : Nat) : extsTo barred rows (j + 1) = if j ∈ barred then extsTo barred rows j else extsTo barred rows j ++ [rows ++ [j]] := by
  unfold extsTo
  rw [List.range_succ, List.filter_append, List.map_append]
  by_cases c : j ∈ barred
  · rw [if_pos c]
    show _ ++ List.map _ (List.filter _ [j]) = _
    rw [List.filter_cons, decide_eq_true c]
    exact List.append_nil _
  · rw [if_neg c]
    show _ ++ List.map _ (List.filter _ [j]) = _
    rw [List.filter_cons, decide_eq_false c]
    rfl
theorem extsTo_len (barred rows : List Nat) (j : Nat) : (extsTo barred rows j).length ≤ j := exts_length_le j barred rows
theorem ok_has {f : Addr} {fd : FuncData} {k : Nat} (F : Fun K "_law_has_rows" "_law_has_rows" sHas f fd) (me : mg "enumerate" = none) (ml : mg "len" = none) (mr : mg "range" = none) : FnOk P w K mg base CX0 (k + 1) f fd ["_law_picture", "_law_spacing", "_law_many"] spHas := by
  refine F.ok scHas (fun vs H Q E h => ?_) (fun cdv A outer s H vs Q E hr h => ?_)
  · obtain ⟨p, ls, s, m, rfl, _⟩ := h
    rfl
  · obtain ⟨p, ls, sp, m, rfl, hP, hlen, hm, q⟩ := h
    refine ⟨_, pss_cons (ps_set (i := 3) scHas.nd rfl (.inl rfl) (pe_lst (pa_cons (pe_tup pa_nil) pa_nil)))
      (pss_cons (ps_while PassesOwn.never (pt_cmpR (op_neD hr.units) (pv 3) (pe_lst pa_nil) (nomark _))
        (pss_cons (ps_set (i := 4) scHas.nd rfl (.inr rfl) (pe_bm0 PySem.F.plainAttrs_list PySem.F.slot_list_pop PySem.F.type_list_pop mt_pop (pv 3)))
        (pss_cons (ps_if (pt_cmpR op_eq (pe_callB call_len_seq (by rfl) ml PySem.boot_len (pa_cons (pv 4) pa_nil)) (pe_callB call_len_seq (by rfl) ml PySem.boot_len (pa_cons (pv 0) pa_nil)) (nomark _)) (pss_one (ps_ret pe_bl)) pss_nil)
        (pss_cons (ps_set (i := 5) scHas.nd rfl (.inr rfl) (pe_ix ix_tup (pv 0) (pe_callB call_len_seq (by rfl) ml PySem.boot_len (pa_cons (pv 4) pa_nil)) (fun _ _ => rfl)))
        (pss_cons (ps_set (i := 6) scHas.nd rfl (.inr rfl) (pe_lc (own := [("_law_at", 7), ("_law_row", 8)]) (g := gTup K 2 (gCons (gName 7) (gCons (gName 8) gNil))) rfl scHas.nd (pi_enumT (by rfl) me (pa_cons (pv 4) pa_nil)) (blkOk_by (N := nHas) (sc := defScope sHas) (by decide +kernel))
          (fun _ _ _ _ _ => pg_tup rfl (pgs_cons (pg_name (i := 7) scHas.nd rfl (Or.inl rfl) (Or.inr rfl)) (pgs_cons (pg_name (i := 8) scHas.nd rfl (Or.inl rfl) (Or.inr rfl)) pgs_nil)))
          (fun _ _ _ _ _ => pts_one (pt_cmpR op_lt (pe_op op_sub (pe_ix (r := rIxT K) ix_tup (pv 5) pe_int (fun _ _ => rfl)) (pe_ix (r := rIxT K) ix_tup (pe_ix (r := rIxT K) ix_tup (pv 0) (pv 7) (fun _ _ => rfl)) pe_int (fun _ _ => rfl))) (pv 1) (nomark _)))
          (fun _ _ _ _ _ => pv 8)))
        (pss_one (ps_expr (pe_bm PySem.F.plainAttrs_list PySem.F.slot_list_extend PySem.F.type_list_extend mt_extend (pv 3) (pa_cons
          (pe_lc (own := [("_law_row", 8)]) (g := gName 8) rfl scHas.nd (pi_range1 (by rfl) mr (pa_cons (pv 2) pa_nil)) (blkOk_by (N := nHas) (sc := defScope sHas) (by decide +kernel))
            (fun _ _ _ _ _ => pg_name (i := 8) scHas.nd rfl (Or.inl rfl) (Or.inr rfl))
            (fun _ _ _ _ _ => pts_one (pt_cmpR (r := rIn K true) op_notIn_seq (pv 8) (pv 6) (by rfl)))
            (fun _ _ _ _ _ => pe_op (r := rCatA K) op_catA (pv 4) (pe_tup (pa_cons (pv 8) pa_nil)))) pa_nil)))))))))
      (pss_one (ps_ret pe_bl))), ?_⟩
    -- _law_line = [()]
    refine ⟨sz100 (by decide), fun e0 ne0 => ⟨sz100 (by show 1 ≤ 100; decide), fun ln nln => ?_⟩⟩
    have nlnH : H ln = none := (same_new ne0).free nln
    have s0 : Same H (upd (upd H e0 (.tup [])) ln (.lst [.ref e0])) := (same_new ne0).trans (same_new nln)
    refine ⟨fun μ σ H1 => ∃ (L : List (Addr × List Nat)) (y4 y5 y6 : Option V), σ = [some (.ref p), some (.int sp), some (.int (m : Int)), some (.ref ln), y4, y5, y6, none, none] ∧ Same H H1 ∧ H1 ln = some (.lst (refR L)) ∧ RowsAt H1 L ∧
        μ = left ls.length m (L.map (·.2)) ∧ μ ≤ 960800 ∧ (∀ q ∈ L, Part sp m (xsOf ls) q.2) ∧ (Ex sp m (xsOf ls) (L.map (·.2)) ↔ ∃ sol, Sol sp m (xsOf ls) sol),
      ⟨_, [(e0, [])], none, none, none, rfl, s0, upd_same, fun q' hq' => ?_, rfl, ?_, fun q' hq' => ?_, ex_start⟩, fun μ σ H1 hW => ?_⟩
    · rw [List.mem_singleton.mp hq']
      exact same_new nln _ _ upd_same
    · have h := wt_small m hm ls.length hlen
      show wt m (ls.length - 0) + 0 ≤ 960800
      rw [Nat.sub_zero]
      omega
    · rw [List.mem_singleton.mp hq']
      exact part_nil
    · obtain ⟨L, y4, y5, y6, rfl, sm, hln, hR, rfl, hmu, hpart, hex⟩ := hW
      refine ⟨.ref ln, rfl, Nat.zero_le _, fun c nc => ?_⟩
      have sc : Same H1 (upd H1 c (.lst [])) := same_new nc
      have hc : upd H1 c (.lst []) c = some (.lst []) := upd_same
      generalize upd H1 c (.lst []) = H2 at sc hc
      have s02 : Same H H2 := sm.trans sc
      have hln2 := sc _ _ hln
      have hR2 := hR.same sc
      refine ⟨_, _, Dp.lst (SqL.of hln2) (dp_rows L hR2), Dp.lst (SqL.of hc) DpAll.nil, shaped_tups _, shaped_nil, _, rfl, ?_⟩
      rcases List.eq_nil_or_concat L with rfl | ⟨L0, ⟨a, rows⟩, eL⟩
      · refine iteF ?_
        exact q _ false s02 ⟨fun z => (by cases z), fun z => absurd (hex.mpr z) ex_nil⟩
      · rw [List.concat_eq_append] at eL
        subst eL
        refine ite2 (fun _ => ?_) (fun z => absurd (by rw [eqv_nil]; simp) z)
        refine ⟨_, fun _ _ z => z, ?_⟩
        -- _law_rows = _law_line.pop()
        have hrows : Part sp m (xsOf ls) rows := hpart (a, rows) (List.mem_append_right _ (List.mem_singleton_self _))
        have er : refR (L0 ++ [(a, rows)]) = refR L0 ++ [.ref a] := refR_append _ _
        rw [er] at hln2
        refine ⟨.ref ln, rfl, .inl ⟨rfl, _, SqL.of hln2⟩, ln, _, .ref a, rfl, rfl, hln2, by simp, ?_⟩
        have s03 : Same H (upd H2 ln (.lst (refR L0 ++ [V.ref a]).dropLast)) := same_mut s02 nlnH
        have hln3 : upd H2 ln (.lst (refR L0 ++ [V.ref a]).dropLast) ln = some (.lst (refR L0)) := by rw [upd_same, List.dropLast_concat]
        have hR3 : RowsAt (upd H2 ln (.lst (refR L0 ++ [V.ref a]).dropLast)) (L0 ++ [(a, rows)]) := fun q' hq' => by
          rw [upd_ne (tup_ne (hR2 q' hq') hln2)]
          exact hR2 q' hq'
        generalize upd H2 ln (.lst (refR L0 ++ [V.ref a]).dropLast) = H3 at s03 hln3 hR3
        have ha3 : H3 a = some (.tup (vN rows)) := hR3 (a, rows) (List.mem_append_right _ (List.mem_singleton_self _))
        have hP3 := hP.same s03
        -- if len(_law_rows) == len(_law_picture)
        refine ⟨.ref a, rfl, a, vN rows, rfl, .inr (SqT.of ha3), .ref p, rfl, p, refL ls, rfl, .inr (SqT.of hP3.tup), rfl, _, rfl, ite2 (fun c => ?_) (fun c => ?_)⟩
        · have c' : ((vN rows).length : Int) = ((refL ls).length : Int) := V.int.inj (of_decide_eq_true c)
          rw [vN_len, refL_len] at c'
          exact q _ true s03 ⟨fun _ => ⟨rows, hrows, by rw [xsOf_len]; omega⟩, fun _ => rfl⟩
        · have c' : rows.length < ls.length := by
            have h1 := hrows.len
            rw [xsOf_len] at h1
            have h2 : rows.length ≠ ls.length := fun z => c (decide_eq_true (by rw [vN_len, refL_len, z]))
            omega
          obtain ⟨l, hl⟩ := lamp_at c'
          have hlamp3 := hP3.at hl
          have hx : (xsOf ls)[rows.length]? = some l.x := xsOf_at hl
          -- _law_lamp = _law_picture[len(_law_rows)]
          refine ⟨.ref p, rfl, .ref a, rfl, a, vN rows, rfl, .inr (SqT.of ha3), p, refL ls, ((vN rows).length : Int), .ref l.a, rfl, rfl, SqT.of hP3.tup, atI_nat (by rw [vN_len]; exact refL_at hl), ?_⟩
          -- _law_barred
          refine ⟨.ref a, rfl, a, vN rows, rfl, SqT.of ha3, fun D nD => ?_⟩
          refine lc_it (walk_enumT (K := K) (a := a) (xs := vN rows)) (fun j H4 => Same H3 H4 ∧ H4 D = some (.lst (vN (near sp l.x (((xsOf ls).zip rows).take j))))) ⟨same_new nD, upd_same⟩ (fun j H4 _ h => SqT.of (h.1 _ _ ha3)) (fun j v H4 H5 hj h hy => ?_) (fun H4 h => ?_)
          · obtain ⟨s4, hD⟩ := h
            obtain ⟨T, x1, x2, rfl, nT, rfl, e1, e2⟩ := hy
            have e1' : V.int (j : Int) = x1 := Option.some.inj e1
            subst e1'
            rw [vN_len] at hj
            have hr : rows[j]? = some rows[j] := List.getElem?_eq_getElem hj
            have ex2 : x2 = .int (rows[j] : Int) := Option.some.inj (e2.symm.trans (vN_at hr))
            subst ex2
            obtain ⟨o, ho⟩ := lamp_at (show j < ls.length by omega)
            have s5 : Same H3 (upd H4 T (.tup [.int (j : Int), .int (rows[j] : Int)])) := s4.trans (same_new nT)
            have hD5 : upd H4 T (.tup [.int (j : Int), .int (rows[j] : Int)]) D = some (.lst (vN (near sp l.x (((xsOf ls).zip rows).take j)))) := same_new nT _ _ hD
            have hz : ((xsOf ls).zip rows)[j]? = some (o.x, rows[j]) := List.getElem?_zip_eq_some.mpr ⟨xsOf_at ho, hr⟩
            refine ⟨T, [.int (j : Int), .int (rows[j] : Int)], rfl, SqT.of upd_same, rfl, .int (j : Int), [.int (rows[j] : Int)], rfl, .int (rows[j] : Int), [], rfl, rfl, rfl, ?_⟩
            refine ⟨.ref l.a, rfl, l.a, l.tup, 0, .int l.x, rfl, rfl, SqT.of (s5 _ _ hlamp3), atI_nat (j := 0) rfl, .ref p, rfl, .int (j : Int), rfl, p, refL ls, (j : Int), .ref o.a, rfl, rfl, SqT.of (s5 _ _ hP3.tup), atI_nat (refL_at ho),
              o.a, o.tup, 0, .int o.x, rfl, rfl, SqT.of (s5 _ _ (hP3.at ho)), atI_nat (j := 0) rfl, l.x, o.x, rfl, rfl, .int sp, rfl, _, sp, rfl, rfl, _, rfl, ite2 (fun c2 => ?_) (fun c2 => ?_)⟩
            · have c3 := of_decide_eq_true c2
              refine ⟨.int (rows[j] : Int), rfl, _, hD5, ?_, same_mut s5 nD, ?_⟩
              · rw [vN_len]
                have h1 := near_len sp l.x (((xsOf ls).zip rows).take j)
                rw [List.length_take] at h1
                exact sl100 (by omega)
              · rw [upd_same, near_succ hz, if_pos c3, vN_append]
                rfl
            · have c3 : ¬ l.x - o.x < sp := fun z => c2 (decide_eq_true z)
              refine ⟨s5, ?_⟩
              rw [near_succ hz, if_neg c3]
              exact hD5
          · obtain ⟨s4, hD⟩ := h
            rw [vN_len, List.take_of_length_le (by rw [List.length_zip]; omega)] at hD
            have hln4 := s4 _ _ hln3
            have ha4 := s4 _ _ ha3
            have hb := near_len sp l.x ((xsOf ls).zip rows)
            -- _law_line.extend(..)
            refine ⟨.ref ln, rfl, .inl ⟨rfl, _, SqL.of hln4⟩, .int (m : Int), rfl, (m : Int), rfl, by omega, by omega, fun D2 nD2 => ?_⟩
            refine lc_it (walk_range (lo := 0) (n := (m : Int).toNat)) (fun j H5 => Same H4 H5 ∧ ∃ E' : List (Addr × List Nat), H5 D2 = some (.lst (refR E')) ∧ RowsAt H5 E' ∧ E'.map (·.2) = extsTo (near sp l.x ((xsOf ls).zip rows)) rows j)
              ⟨same_new nD2, [], upd_same, fun q' hq' => (by cases hq'), rfl⟩ (fun _ _ _ _ => trivial) (fun j v H5 H6 hj h hy => ?_) (fun H5 h => ?_)
            · obtain ⟨s5, E', hE, hRE, eE⟩ := h
              obtain ⟨rfl, ev⟩ := hy
              have ev' : v = .int (j : Int) := ev.trans (by show V.int (0 + (j : Int)) = _; rw [Int.zero_add])
              subst ev'
              have hD6 := s5 _ _ hD
              refine ⟨rfl, .int (j : Int), rfl, .ref D, rfl, D, _, rfl, .inl (SqL.of hD6), rfl, flat_vN _, _, rfl, ite2 (fun c2 => ?_) (fun c2 => ?_)⟩
              · rw [if_pos rfl, inV_nat] at c2
                have c3 : j ∉ near sp l.x ((xsOf ls).zip rows) := fun z => by
                  rw [decide_eq_true z] at c2
                  cases c2
                have fin : ∀ (z : Addr) (H7 : Hp), Same H6 H7 → H7 z = some (.tup (vN (rows ++ [j]))) → ∃ acc, H7 D2 = some (.lst acc) ∧ acc.length < sizeLine ∧ (Same H4 (upd H7 D2 (.lst (acc ++ [.ref z]))) ∧
                    ∃ E' : List (Addr × List Nat), upd H7 D2 (.lst (acc ++ [.ref z])) D2 = some (.lst (refR E')) ∧ RowsAt (upd H7 D2 (.lst (acc ++ [.ref z]))) E' ∧ E'.map (·.2) = extsTo (near sp l.x ((xsOf ls).zip rows)) rows (j + 1)) := by
                  intro z H7 s7 hz
                  refine ⟨_, s7 _ _ hE, ?_, same_mut (s5.trans s7) nD2, E' ++ [(z, rows ++ [j])], ?_, fun q' hq' => ?_, ?_⟩
                  · rw [refR_len, ← List.length_map (f := fun q : Addr × List Nat => q.2), eE]
                    exact sl100 (Nat.le_trans (extsTo_len _ _ _) (by omega))
                  · rw [upd_same, refR_append]
                    rfl
                  · have h7 : H7 q'.1 = some (.tup (vN q'.2)) := by
                      rcases List.mem_append.mp hq' with u | u
                      · exact s7 _ _ (hRE q' u)
                      · rw [List.mem_singleton.mp u]
                        exact hz
                    rw [upd_ne (tup_ne h7 (s7 _ _ hE))]
                    exact h7
                  · rw [List.map_append, eE, extsTo_succ, if_neg c3]
                    rfl
                refine ⟨.ref a, rfl, .int (j : Int), rfl, sz100 (by show 1 ≤ 100; decide), fun T nT => ?_⟩
                have s7 : Same H6 (upd H6 T (.tup [.int (j : Int)])) := same_new nT
                refine ⟨a, T, vN rows, [.int (j : Int)], rfl, rfl, SqT.of (s7 _ _ (s5 _ _ ha4)), SqT.of upd_same, szM (by rw [vN_len, List.length_singleton]; omega), fun e => ?_, fun _ e => (by cases e), fun _ _ z nz => ?_⟩
                · refine fin T _ s7 ?_
                  have e' : rows = [] := by
                    cases rows with
                    | nil => rfl
                    | cons r rr => cases e
                  rw [upd_same, e']
                  rfl
                · refine fin z _ (s7.trans (same_new nz)) ?_
                  rw [upd_same, vN_append]
                  rfl
              · rw [if_pos rfl, inV_nat] at c2
                have c3 : j ∈ near sp l.x ((xsOf ls).zip rows) := by
                  by_cases z : j ∈ near sp l.x ((xsOf ls).zip rows)
                  · exact z
                  · exact absurd (by rw [decide_eq_false z]; rfl) c2
                refine ⟨s5, E', hE, hRE, ?_⟩
                rw [extsTo_succ, if_pos c3]
                exact eE
            · obtain ⟨s5, E', hE, hRE, eE⟩ := h
              rw [show (m : Int).toNat = m by omega] at eE
              have eE' : E'.map (·.2) = exts m (near sp l.x ((xsOf ls).zip rows)) rows := eE
              have hln5 := s5 _ _ hln4
              have es : (L0 ++ [(a, rows)]).map (·.2) = L0.map (·.2) ++ [rows] := List.map_append
              have el : (L0 ++ E').map (·.2) = L0.map (·.2) ++ exts m (near sp l.x ((xsOf ls).zip rows)) rows := by rw [List.map_append, eE']
              have hlt : left ls.length m ((L0 ++ E').map (·.2)) < left ls.length m ((L0 ++ [(a, rows)]).map (·.2)) := by
                rw [es, el]
                exact left_turn c'
              have hcount : (L0 ++ E').length ≤ left ls.length m ((L0 ++ E').map (·.2)) := by
                have := left_length ls.length m ((L0 ++ E').map (·.2))
                rw [List.length_map] at this
                exact this
              refine ⟨ln, D2, refR L0, refR E', rfl, rfl, hln5, hE, szM ?_, ?_⟩
              · rw [refR_len, refR_len, ← List.length_append]
                omega
              · have hR5 : RowsAt H5 (L0 ++ E') := fun q' hq' => by
                  rcases List.mem_append.mp hq' with u | u
                  · exact s5 _ _ (s4 _ _ (hR3 q' (List.mem_append_left _ u)))
                  · exact hRE q' u
                refine ⟨_, hlt, L0 ++ E', _, _, _, rfl, same_mut ((s03.trans s4).trans s5) nlnH, by rw [upd_same, refR_append], fun q' hq' => ?_, rfl, by omega, fun q' hq' => ?_, ?_⟩
                · rw [upd_ne (tup_ne (hR5 q' hq') hln5)]
                  exact hR5 q' hq'
                · rcases List.mem_append.mp hq' with u | u
                  · exact hpart q' (List.mem_append_left _ u)
                  · refine part_exts hrows hx _ ?_
                    rw [← eE']
                    exact List.mem_map.mpr ⟨q', u, rfl⟩
                · rw [el, ← ex_turn hx, ← es]
                  exact hex
end
end K16

set_option Elab.async false
set_option linter.all false
set_option maxRecDepth 100000
set_option maxHeartbeats 4000000
namespace K16
open PySem PySem.Spec PyProof.Rows L2
/-! ### dots: pairs of ints -/
def PairsAt (H : Hp) (L : List (Addr × List Int)) : Prop := ∀ q ∈ L, H q.1 = some (.tup (q.2.map V.int))
theorem PairsAt.same {H H' : Hp} {L : List (Addr × List Int)} (x : PairsAt H L) (e : Same H H') : PairsAt H' L := fun q hq => e _ _ (x q hq)
theorem refsOf_len (L : List (Addr × List Int)) : (refsOf L).length = L.length := List.length_map _
theorem refsOf_at {L : List (Addr × List Int)} {i : Nat} {q : Addr × List Int} (h : L[i]? = some q) : (refsOf L)[i]? = some (.ref q.1) := by
  rw [List.getElem?_map, h]
  rfl
theorem refsOf_append (a b : List (Addr × List Int)) : refsOf (a ++ b) = refsOf a ++ refsOf b := List.map_append
def pr (d : Int × Int) : List Int := [d.1, d.2]
theorem snd_at {L : List (Addr × List Int)} {ds : List (Int × Int)} (e : L.map (·.2) = ds.map pr) {i : Nat} {q : Addr × List Int} (h : L[i]? = some q) : ∃ d, ds[i]? = some d ∧ q.2 = pr d := by
  have e1 : (L.map (·.2))[i]? = (ds.map pr)[i]? := by rw [e]
  rw [List.getElem?_map, List.getElem?_map, h] at e1
  cases hd : ds[i]? with
  | none => rw [hd] at e1; cases e1
  | some d =>
    rw [hd] at e1
    exact ⟨d, rfl, Option.some.inj e1⟩
theorem walk_zipT {K : PySem.W.Frag} {a b : Addr} {xs ys : List V} {n : Nat} (hn : n = min xs.length ys.length) : Walk (RZ.ItzT K a b) n (fun H => SqT K H a xs ∧ SqT K H b ys) (YPair (fun i => xs[i]?) (fun i => ys[i]?)) := by
  subst hn
  refine ⟨fun i H hi q => ⟨xs, ys, xs[i]'(by omega), ys[i]'(by omega), q.1, q.2, List.getElem?_eq_getElem _, List.getElem?_eq_getElem _⟩, fun H q => ⟨xs, ys, q.1, q.2, by omega⟩, fun i H v H' _ q y => ?_⟩
  obtain ⟨T, x, z, h1, h2, h3, h4, h5⟩ := y
  exact ⟨T, x, z, h1, h2, h3, h4 xs q.1, h5 ys q.2⟩
section
variable {P : Program} {w : World} {K : PySem.W.Frag} {mg : Str → Option Value} {base : Heap}
/-! ### shape_of -/
def xz (l : Lamp) : Int × Int := (l.x, l.z)
def spShapeOf : Sp := fun vs H Q _ => ∃ (p : Addr) (ls : List Lamp), vs = [.ref p] ∧ Pic H p ls ∧ ls.length ≤ 100 ∧
  ∀ H' t L, Same H H' → H' t = some (.tup (refsOf L)) → PairsAt H' L → L.map (·.2) = (ls.map xz).map pr → Q (.ref t) H'
theorem ok_shapeOf {f : Addr} {fd : FuncData} {k : Nat} (F : Fun K "shape_of" "shape_of" sShapeOf f fd) (mt : mg "tuple" = none) : FnOk P w K mg base CX0 (k + 1) f fd ["picture"] spShapeOf := by
  refine F.ok scShapeOf (fun vs H Q E h => ?_) (fun cdv A outer s H vs Q E hr h => ?_)
  · obtain ⟨p, ls, rfl, _⟩ := h
    rfl
  · obtain ⟨p, ls, rfl, hP, hlen, q⟩ := h
    refine ⟨_, pss_one (ps_ret (pe_callTy call_tuple_of (by rfl) mt (by decide +kernel) (pa_cons
      (pe_lc (own := [("lamp", 1)]) (g := gName 1) (te := tSl (rSlT K) (tVar 1) tNoPart (tPart (tC (.int 2)))) rfl scShapeOf.nd (pi_tup (pv 0)) (blkOk_by (N := ["picture", "lamp"]) (sc := defScope sShapeOf) (by decide +kernel))
        (fun _ _ _ _ _ => pg_name (i := 1) scShapeOf.nd rfl (Or.inl rfl) (Or.inr rfl)) (fun _ _ _ _ _ => pts_nil) (fun _ _ _ _ _ => pe_slice sl_tup (pv 1) po_none (po_some pe_int))) pa_nil))), ?_⟩
    refine ⟨.ref p, rfl, p, rfl, ⟨_, SqT.of hP.tup⟩, fun D nD => ?_⟩
    refine lc_it (walk_tup (K := K) (a := p) (xs := refL ls)) (fun j H2 => Same H H2 ∧ ∃ L, H2 D = some (.lst (refsOf L)) ∧ PairsAt H2 L ∧ L.map (·.2) = ((ls.take j).map xz).map pr) ⟨same_new nD, [], upd_same, fun q' hq' => (by cases hq'), rfl⟩
      (fun j H2 _ h => SqT.of (h.1 _ _ hP.tup)) (fun j v H2 H3 hj h hy => ?_) (fun H2 h => ?_)
    · obtain ⟨s2, L, hD, hL, eL⟩ := h
      obtain ⟨rfl, hv⟩ := hy
      rw [refL_len] at hj
      obtain ⟨l, hl⟩ := lamp_at hj
      have ev : v = .ref l.a := Option.some.inj (hv.symm.trans (refL_at hl))
      subst ev
      have hlamp : H3 l.a = some (.tup l.tup) := s2 _ _ (hP.at hl)
      refine ⟨rfl, .ref l.a, rfl, 2, rfl, l.a, l.tup, rfl, SqT.of hlamp, fun z => absurd z.2 (show ¬ HT.sIx 4 4 (some 2) = 4 by decide), fun d nd => ?_⟩
      have sd : Same H3 (upd H3 d (.tup (cutV l.tup none (some 2)))) := same_new nd
      have hd : upd H3 d (.tup (cutV l.tup none (some 2))) d = some (.tup ([l.x, l.z].map V.int)) := upd_same
      generalize upd H3 d (.tup (cutV l.tup none (some 2))) = H4 at sd hd
      have hD4 := sd _ _ hD
      refine ⟨_, hD4, ?_, same_mut (s2.trans sd) nD, L ++ [(d, [l.x, l.z])], ?_, fun q' hq' => ?_, ?_⟩
      · rw [refsOf_len, ← List.length_map (f := fun q : Addr × List Int => q.2), eL, List.length_map, List.length_map, List.length_take]
        exact sl100 (by omega)
      · rw [upd_same, refsOf_append]
        rfl
      · have h4 : H4 q'.1 = some (.tup (q'.2.map V.int)) := by
          rcases List.mem_append.mp hq' with u | u
          · exact sd _ _ (hL q' u)
          · rw [List.mem_singleton.mp u]
            exact hd
        rw [upd_ne (tup_ne h4 hD4)]
        exact h4
      · rw [List.map_append, eL, List.take_add_one, hl, List.map_append, List.map_append]
        rfl
    · obtain ⟨s2, L, hD, hL, eL⟩ := h
      rw [refL_len, List.take_length] at eL
      refine ⟨D, _, rfl, .inl ⟨SqL.of hD, fun t nt => ?_⟩⟩
      exact q _ t L (s2.trans (same_new nt)) upd_same (hL.same (same_new nt)) eL
/-! ### moved -/
def spMoved : Sp := fun vs H Q _ => ∃ (t : Addr) (L : List (Addr × List Int)) (ds : List (Int × Int)) (x z : Int), vs = [.ref t, .int x, .int z] ∧ H t = some (.tup (refsOf L)) ∧ PairsAt H L ∧ L.map (·.2) = ds.map pr ∧ L.length ≤ 100 ∧
  ∀ H' t' L', Same H H' → H' t' = some (.tup (refsOf L')) → PairsAt H' L' → L'.map (·.2) = (ds.map fun d => (d.1 + x, d.2 + z)).map pr → Q (.ref t') H'
theorem ok_moved {f : Addr} {fd : FuncData} {k : Nat} (F : Fun K "moved" "moved" sMoved f fd) (mt : mg "tuple" = none) : FnOk P w K mg base CX0 (k + 1) f fd ["shape", "x", "z"] spMoved := by
  refine F.ok scMoved (fun vs H Q E h => ?_) (fun cdv A outer s H vs Q E hr h => ?_)
  · obtain ⟨t, L, ds, x, z, rfl, _⟩ := h
    rfl
  · obtain ⟨t, L0, ds, x, z, rfl, hT, hL0, e0, hlen, q⟩ := h
    have hdl : ds.length = L0.length := by
      have e := congrArg List.length e0
      rw [List.length_map, List.length_map] at e
      exact e.symm
    refine ⟨_, pss_one (ps_ret (pe_callTy call_tuple_of (by rfl) mt (by decide +kernel) (pa_cons
      (pe_lc (own := [("one", 3)]) (g := gName 3) rfl scMoved.nd (pi_tup (pv 0)) (blkOk_by (N := ["shape", "x", "z", "one"]) (sc := defScope sMoved) (by decide +kernel))
        (fun _ _ _ _ _ => pg_name (i := 3) scMoved.nd rfl (Or.inl rfl) (Or.inr rfl)) (fun _ _ _ _ _ => pts_nil)
        (fun _ _ _ _ _ => pe_tup (pa_cons (pe_op op_add (pe_ix (r := rIxT K) ix_tup (pv 3) pe_int (fun _ _ => rfl)) (pv 1)) (pa_cons (pe_op op_add (pe_ix (r := rIxT K) ix_tup (pv 3) pe_int (fun _ _ => rfl)) (pv 2)) pa_nil)))) pa_nil))), ?_⟩
    refine ⟨.ref t, rfl, t, rfl, ⟨_, SqT.of hT⟩, fun D nD => ?_⟩
    refine lc_it (walk_tup (K := K) (a := t) (xs := refsOf L0)) (fun j H2 => Same H H2 ∧ ∃ L, H2 D = some (.lst (refsOf L)) ∧ PairsAt H2 L ∧ L.map (·.2) = ((ds.take j).map fun d => (d.1 + x, d.2 + z)).map pr) ⟨same_new nD, [], upd_same, fun q' hq' => (by cases hq'), rfl⟩
      (fun j H2 _ h => SqT.of (h.1 _ _ hT)) (fun j v H2 H3 hj h hy => ?_) (fun H2 h => ?_)
    · obtain ⟨s2, L, hD, hL, eL⟩ := h
      obtain ⟨rfl, hv⟩ := hy
      rw [refsOf_len] at hj
      have hl : L0[j]? = some L0[j] := List.getElem?_eq_getElem hj
      have ev : v = .ref L0[j].1 := Option.some.inj (hv.symm.trans (refsOf_at hl))
      subst ev
      obtain ⟨d0, hd0, ed⟩ := snd_at e0 hl
      have ho : H3 L0[j].1 = some (.tup [.int d0.1, .int d0.2]) := by
        have h1 := s2 _ _ (hL0 _ (List.mem_of_getElem? hl))
        rw [ed] at h1
        exact h1
      refine ⟨rfl, .ref L0[j].1, rfl, _, _, 0, .int d0.1, rfl, rfl, SqT.of ho, atI_nat (j := 0) rfl, .int x, rfl, d0.1, x, rfl, rfl, .ref L0[j].1, rfl, _, _, 1, .int d0.2, rfl, rfl, SqT.of ho, atI_nat (j := 1) rfl, .int z, rfl, d0.2, z, rfl, rfl, sz100 (by show 2 ≤ 100; decide), fun d nd => ?_⟩
      have sd : Same H3 (upd H3 d (.tup [.int (d0.1 + x), .int (d0.2 + z)])) := same_new nd
      have hd : upd H3 d (.tup [.int (d0.1 + x), .int (d0.2 + z)]) d = some (.tup ([d0.1 + x, d0.2 + z].map V.int)) := upd_same
      generalize upd H3 d (.tup [.int (d0.1 + x), .int (d0.2 + z)]) = H4 at sd hd
      have hD4 := sd _ _ hD
      refine ⟨_, hD4, ?_, same_mut (s2.trans sd) nD, L ++ [(d, [d0.1 + x, d0.2 + z])], ?_, fun q' hq' => ?_, ?_⟩
      · rw [refsOf_len, ← List.length_map (f := fun q : Addr × List Int => q.2), eL, List.length_map, List.length_map, List.length_take]
        exact sl100 (by omega)
      · rw [upd_same, refsOf_append]
        rfl
      · have h4 : H4 q'.1 = some (.tup (q'.2.map V.int)) := by
          rcases List.mem_append.mp hq' with u | u
          · exact sd _ _ (hL q' u)
          · rw [List.mem_singleton.mp u]
            exact hd
        rw [upd_ne (tup_ne h4 hD4)]
        exact h4
      · rw [List.map_append, eL, List.take_add_one, hd0, List.map_append, List.map_append]
        rfl
    · obtain ⟨s2, L, hD, hL, eL⟩ := h
      rw [refsOf_len, ← hdl, List.take_length] at eL
      refine ⟨D, _, rfl, .inl ⟨SqL.of hD, fun t' nt => ?_⟩⟩
      exact q _ t' L (s2.trans (same_new nt)) upd_same (hL.same (same_new nt)) eL
/-! ### dots, _law_shape -/
def spDots : Sp := fun vs H Q _ => ∃ (l : Addr) (L : List (Addr × List Int)) (B : Int), vs = [.ref l] ∧ H l = some (.lst (refsOf L)) ∧ PairsAt H L ∧ Pairs B L ∧ L.length < 64 ∧
  ∀ H' t L', Same H H' → H' t = some (.tup (refsOf L')) → (∀ q ∈ L', q ∈ L) → (∀ q ∈ L, q.2 ∈ L'.map (·.2)) → (L'.map (·.2)).Nodup → L'.length < 64 → L'.Pairwise (fun x y => rk B x.2 ≤ rk B y.2) → Q (.ref t) H'
theorem ok_dots {f : Addr} {fd : FuncData} {k : Nat} {tk : Tok} (F : Fun K "dots" "dots" sDots f fd) (mt : mg "tuple" = none) (ms : mg "sorted" = none) (mset : mg "set" = none) (ml : mg "len" = none) (gM : mg "MOST" = some (.int 3000 tk)) :
    FnOk P w K mg base CX0 (k + 1) f fd ["points"] spDots := by
  refine F.ok scDots (fun vs H Q E h => ?_) (fun cdv A outer s H vs Q E hr h => ?_)
  · obtain ⟨l, L, B, rfl, _⟩ := h
    rfl
  · obtain ⟨l, L, B, rfl, hl, hL, hB, h64, q⟩ := h
    refine ⟨_, pss_cons (ps_set (i := 1) scDots.nd rfl (.inl rfl) (pe_callTy call_tuple_of (by rfl) mt (by decide +kernel) (pa_cons (pe_callB (cr_sortedSP rfl) (by rfl) ms (by decide +kernel) (pa_cons (pe_callTy (cr_setOfT rfl hr.units) (by rfl) mset (by decide +kernel) (pa_cons (pv 0) pa_nil)) pa_nil)) pa_nil)))
      (pss_cons (ps_if (pt_cmpR op_gt (pe_callB call_len_seq (by rfl) ml PySem.boot_len (pa_cons (pv 1) pa_nil)) (pe_glob (v := .int 3000) (by rfl) gM ⟨_, rfl⟩) (nomark _)) pss_never pss_nil)
      (pss_one (ps_ret (pv 1)))), ?_⟩
    refine ⟨.ref l, rfl, l, L, rfl, SqL.of hl, fun p hp => SqT.of (hL p hp), h64, fun a L1 na sub all => ?_⟩
    have s1 : Same H (upd H a (SetTO P w a L1)) := same_new na
    refine ⟨a, L1, B, rfl, upd_same, fun p hp => SqT.of (s1 _ _ (hL p (sub p hp))), fun p hp => hB p (sub p hp), fun L' b pm nd l64 pw nb => ?_⟩
    have s2 := s1.trans (same_new (o := .lst (refsOf L')) nb)
    refine ⟨b, _, rfl, .inl ⟨SqL.of upd_same, fun t nt => ?_⟩⟩
    have s3 := s2.trans (same_new (o := .tup (refsOf L')) nt)
    refine ⟨.ref t, rfl, t, _, rfl, .inr (SqT.of upd_same), ((refsOf L').length : Int), 3000, rfl, rfl, _, rfl, ite2 (fun c => ?_) (fun c => ?_)⟩
    · have c' := of_decide_eq_true c
      rw [refsOf_len] at c'
      omega
    · exact ⟨.ref t, rfl, q _ t L' s3 upd_same (fun p hp => sub p (pm.mem_iff.mp hp)) (fun p hp => (pm.map (·.2)).mem_iff.mpr (all p hp)) nd l64 pw⟩
theorem ok_shape {f : Addr} {fd : FuncData} {k : Nat} (F : Fun K "_law_shape" "_law_shape" sShape f fd) (mt : mg "tuple" = none) (ms : mg "sorted" = none) (mset : mg "set" = none) :
    FnOk P w K mg base CX0 (k + 1) f fd ["_law_points"] spDots := by
  refine F.ok scShape (fun vs H Q E h => ?_) (fun cdv A outer s H vs Q E hr h => ?_)
  · obtain ⟨l, L, B, rfl, _⟩ := h
    rfl
  · obtain ⟨l, L, B, rfl, hl, hL, hB, h64, q⟩ := h
    refine ⟨_, pss_one (ps_ret (pe_callTy call_tuple_of (by rfl) mt (by decide +kernel) (pa_cons (pe_callB (cr_sortedSP rfl) (by rfl) ms (by decide +kernel) (pa_cons (pe_callTy (cr_setOfT rfl hr.units) (by rfl) mset (by decide +kernel) (pa_cons (pv 0) pa_nil)) pa_nil)) pa_nil))), ?_⟩
    refine ⟨.ref l, rfl, l, L, rfl, SqL.of hl, fun p hp => SqT.of (hL p hp), h64, fun a L1 na sub all => ?_⟩
    have s1 : Same H (upd H a (SetTO P w a L1)) := same_new na
    refine ⟨a, L1, B, rfl, upd_same, fun p hp => SqT.of (s1 _ _ (hL p (sub p hp))), fun p hp => hB p (sub p hp), fun L' b pm nd l64 pw nb => ?_⟩
    have s2 := s1.trans (same_new (o := .lst (refsOf L')) nb)
    refine ⟨b, _, rfl, .inl ⟨SqL.of upd_same, fun t nt => ?_⟩⟩
    exact q _ t L' (s2.trans (same_new nt)) upd_same (fun p hp => sub p (pm.mem_iff.mp hp)) (fun p hp => (pm.map (·.2)).mem_iff.mpr (all p hp)) nd l64 pw
end
end K16

set_option Elab.async false
set_option linter.all false
set_option maxRecDepth 100000
set_option maxHeartbeats 4000000
namespace K16
open PySem PySem.Spec PyProof.Rows L2
section
variable {P : Program} {w : World} {K : PySem.W.Frag} {mg : Str → Option Value} {base : Heap}
/-! ### mirrored, of one dot -/
def spMirr : Sp := fun vs H Q _ => ∃ (t d : Addr) (a b x B : Int), vs = [.ref t, .int x] ∧ H t = some (.tup [.ref d]) ∧ H d = some (.tup [.int a, .int b]) ∧ 0 ≤ b ∧ b < B ∧
  ∀ H' t' d', Same H H' → H' t' = some (.tup [.ref d']) → H' d' = some (.tup [.int (2 * x - a), .int b]) → Q (.ref t') H'
theorem ok_mirr {f fD : Addr} {fd fdD : FuncData} {k : Nat} {tk : Tok} (F : Fun K "mirrored" "mirrored" sMirr f fd) (FD : Fun K "dots" "dots" sDots fD fdD) (bD : Binds K fdD ["points"] []) (gD : mg "dots" = some (.ref fD))
    (mt : mg "tuple" = none) (ms : mg "sorted" = none) (mset : mg "set" = none) (ml : mg "len" = none) (gM : mg "MOST" = some (.int 3000 tk)) : FnOk P w K mg base CX0 (k + 2) f fd ["shape", "x"] spMirr := by
  have GD : FnOk P w K mg base CX0 (k + 1) fD fdD ["points"] spDots := ok_dots FD mt ms mset ml gM
  refine F.ok scMirr (fun vs H Q E h => ?_) (fun cdv A outer s H vs Q E hr h => ?_)
  · obtain ⟨t, d, a, b, x, B, rfl, _⟩ := h
    rfl
  · obtain ⟨t, d, a, b, x, B, rfl, hT, hd, b0, b1, q⟩ := h
    refine ⟨_, pss_one (ps_ret (pe_call GD hr (by rfl) gD FD.kp bD .nil pass0 (pa_cons
      (pe_lc (own := [("one", 2)]) (g := gName 2) rfl scMirr.nd (pi_tup (pv 0)) (blkOk_by (N := ["shape", "x", "one"]) (sc := defScope sMirr) (by decide +kernel))
        (fun _ _ _ _ _ => pg_name (i := 2) scMirr.nd rfl (Or.inl rfl) (Or.inr rfl)) (fun _ _ _ _ _ => pts_nil)
        (fun _ _ _ _ _ => pe_tup (pa_cons (pe_op op_sub (pe_op op_mul pe_int (pv 1)) (pe_ix (r := rIxT K) ix_tup (pv 2) pe_int (fun _ _ => rfl))) (pa_cons (pe_ix (r := rIxT K) ix_tup (pv 2) pe_int (fun _ _ => rfl)) pa_nil)))) pa_nil))), ?_⟩
    refine ⟨.ref t, rfl, t, rfl, ⟨_, SqT.of hT⟩, fun D nD => ?_⟩
    refine lc_it (walk_tup (K := K) (a := t) (xs := [V.ref d])) (fun j H2 => Same H H2 ∧ ∃ L, H2 D = some (.lst (refsOf L)) ∧ PairsAt H2 L ∧ L.map (·.2) = ([[2 * x - a, b]] : List (List Int)).take j) ⟨same_new nD, [], upd_same, fun q' hq' => (by cases hq'), rfl⟩
      (fun j H2 _ h => SqT.of (h.1 _ _ hT)) (fun j v H2 H3 hj h hy => ?_) (fun H2 h => ?_)
    · obtain ⟨s2, L, hD, hL, eL⟩ := h
      obtain ⟨rfl, hv⟩ := hy
      have hj0 : j = 0 := by
        have : j < 1 := hj
        omega
      subst hj0
      have ev : v = .ref d := (Option.some.inj hv).symm
      subst ev
      have ho := s2 _ _ hd
      have hL0 : L = [] := List.map_eq_nil_iff.mp eL
      subst hL0
      refine ⟨rfl, .int x, rfl, 2, x, rfl, rfl, .inl ⟨by decide, by decide⟩, .ref d, rfl, d, _, 0, .int a, rfl, rfl, SqT.of ho, atI_nat (j := 0) rfl, 2 * x, a, rfl, rfl, .ref d, rfl, d, _, 1, .int b, rfl, rfl, SqT.of ho, atI_nat (j := 1) rfl, sz100 (by show 2 ≤ 100; decide), fun e ne => ?_⟩
      have se : Same H3 (upd H3 e (.tup [.int (2 * x - a), .int b])) := same_new ne
      have he : upd H3 e (.tup [.int (2 * x - a), .int b]) e = some (.tup ([2 * x - a, b].map V.int)) := upd_same
      generalize upd H3 e (.tup [.int (2 * x - a), .int b]) = H4 at se he
      have hD4 := se _ _ hD
      refine ⟨_, hD4, sl100 (by show 0 ≤ 100; decide), same_mut (s2.trans se) nD, [(e, [2 * x - a, b])], by rw [upd_same]; rfl, fun q' hq' => ?_, rfl⟩
      rw [List.mem_singleton.mp hq', upd_ne (tup_ne he hD4)]
      exact he
    · obtain ⟨s2, L, hD, hL, eL⟩ := h
      have eL' : L.map (·.2) = [[2 * x - a, b]] := eL
      refine ⟨D, L, B, rfl, hD, hL, fun p hp => ?_, ?_, fun H' t' L' s' hT' sub all nd l64 pw => ?_⟩
      · have hm : p.2 ∈ L.map (·.2) := List.mem_map.mpr ⟨p, hp, rfl⟩
        rw [eL'] at hm
        exact ⟨_, _, List.mem_singleton.mp hm, b0, b1⟩
      · have e := congrArg List.length eL'
        rw [List.length_map] at e
        rw [e]
        show 1 < 64
        decide
      · have hall : ∀ p ∈ L, p.2 = [2 * x - a, b] := fun p hp => by
          have hm : p.2 ∈ L.map (·.2) := List.mem_map.mpr ⟨p, hp, rfl⟩
          rw [eL'] at hm
          exact List.mem_singleton.mp hm
        obtain ⟨p0, hp0⟩ : ∃ p, p ∈ L := by
          cases L with
          | nil => cases eL'
          | cons p r => exact ⟨p, List.mem_cons_self⟩
        have hm := all p0 hp0
        cases L' with
        | nil => cases hm
        | cons p r =>
          have e1 := hall p (sub p List.mem_cons_self)
          have er : r = [] := by
            cases r with
            | nil => rfl
            | cons p2 r2 =>
              have e2 := hall p2 (sub p2 (List.mem_cons_of_mem _ List.mem_cons_self))
              have n1 := (List.pairwise_cons.mp nd).1 p2.2 List.mem_cons_self
              exact absurd (e1.trans e2.symm) n1
          subst er
          have h1 := s' _ _ (hL p (sub p List.mem_cons_self))
          rw [e1] at h1
          exact q H' t' p.1 (s2.trans s') hT' h1
/-! ### moved_lamps -/
def spMovedL : Sp := fun vs H Q _ => ∃ (p : Addr) (ls : List Lamp) (x z : Int), vs = [.ref p, .int x, .int z] ∧ Pic H p ls ∧ ls.length ≤ 100 ∧
  ∀ H' t ls', Same H H' → Pic H' t ls' → xsOf ls' = (xsOf ls).map (fun y => y + x) → Q (.ref t) H'
/-- a new lamp in the list at D -/
theorem lamp_app {H H3 H4 : Hp} {D d : Addr} {L : List Lamp} {o : Lamp} (nD : H D = none) (s : Same H H4) (hD : H4 D = some (.lst (refL L))) (hL : ∀ l ∈ L, H4 l.a = some (.tup l.tup)) (ho : H4 o.a = some (.tup o.tup)) (hz : L.length ≤ 100) :
    ∃ acc, H4 D = some (.lst acc) ∧ acc.length < sizeLine ∧ (Same H (upd H4 D (.lst (acc ++ [V.ref o.a]))) ∧ upd H4 D (.lst (acc ++ [V.ref o.a])) D = some (.lst (refL (L ++ [o]))) ∧ ∀ l ∈ L ++ [o], upd H4 D (.lst (acc ++ [V.ref o.a])) l.a = some (.tup l.tup)) := by
  refine ⟨_, hD, ?_, same_mut s nD, ?_, fun l hl => ?_⟩
  · rw [refL_len]
    exact sl100 hz
  · rw [upd_same]
    unfold refL
    rw [List.map_append]
    rfl
  · have h4 : H4 l.a = some (.tup l.tup) := by
      rcases List.mem_append.mp hl with u | u
      · exact hL l u
      · rw [List.mem_singleton.mp u]
        exact ho
    rw [upd_ne (tup_ne h4 hD)]
    exact h4
theorem ok_movedL {f fM fS : Addr} {fd fdM fdS : FuncData} {k : Nat} (F : Fun K "moved_lamps" "moved_lamps" sMovedL f fd) (FM : Fun K "moved" "moved" sMoved fM fdM) (bM : Binds K fdM ["shape", "x", "z"] []) (gM : mg "moved" = some (.ref fM))
    (FS : Fun K "shape_of" "shape_of" sShapeOf fS fdS) (bS : Binds K fdS ["picture"] []) (gS : mg "shape_of" = some (.ref fS)) (mt : mg "tuple" = none) (mz : mg "zip" = none) : FnOk P w K mg base CX0 (k + 2) f fd ["picture", "x", "z"] spMovedL := by
  have GM : FnOk P w K mg base CX0 (k + 1) fM fdM ["shape", "x", "z"] spMoved := ok_moved FM mt
  have GS : FnOk P w K mg base CX0 (k + 1) fS fdS ["picture"] spShapeOf := ok_shapeOf FS mt
  refine F.ok scMovedL (fun vs H Q E h => ?_) (fun cdv A outer s H vs Q E hr h => ?_)
  · obtain ⟨p, ls, x, z, rfl, _⟩ := h
    rfl
  · obtain ⟨p, ls, x, z, rfl, hP, hlen, q⟩ := h
    refine ⟨_, pss_one (ps_ret (pe_callTy call_tuple_of (by rfl) mt (by decide +kernel) (pa_cons
      (pe_lc (own := [("dot", 3), ("lamp", 4)]) (g := gTup K 2 (gCons (gName 3) (gCons (gName 4) gNil))) (te := tTup (StX.tStar K (tVar 3) (StX.tStar K (tSl (rSlT K) (tVar 4) (tPart (tC (.int 2))) tNoPart) tNil))) rfl scMovedL.nd
        (RZ.pi_zipA (by rfl) mz (pa_cons (pe_call GM hr (by rfl) gM FM.kp bM .nil pass0 (pa_cons (pe_call GS hr (by rfl) gS FS.kp bS .nil pass0 (pa_cons (pv 0) pa_nil)) (pa_cons (pv 1) (pa_cons (pv 2) pa_nil)))) (pa_cons (pv 0) pa_nil)))
        (blkOk_by (N := ["picture", "x", "z", "dot", "lamp"]) (sc := defScope sMovedL) (by decide +kernel))
        (fun _ _ _ _ _ => pg_tup rfl (pgs_cons (pg_name (i := 3) scMovedL.nd rfl (Or.inl rfl) (Or.inr rfl)) (pgs_cons (pg_name (i := 4) scMovedL.nd rfl (Or.inl rfl) (Or.inr rfl)) pgs_nil)))
        (fun _ _ _ _ _ => pts_nil)
        (fun _ _ _ _ _ => pe_tup (StX.pa_star (pv 3) (StX.pa_star (pe_slice sl_tup (pv 4) (po_some pe_int) po_none) pa_nil)))) pa_nil))), ?_⟩
    refine ⟨.ref p, rfl, p, ls, rfl, hP, hlen, fun H1 t1 L1 s1 hT1 hL1 e1 => ?_⟩
    refine ⟨.int x, rfl, .int z, rfl, t1, L1, ls.map xz, x, z, rfl, hT1, hL1, e1, ?_, fun H2 t2 L2 s12 hT2 hL2 e2 => ?_⟩
    · have e := congrArg List.length e1
      rw [List.length_map, List.length_map, List.length_map] at e
      omega
    · have s2 := s1.trans s12
      have hP2 := hP.same s2
      have hl2 : L2.length = ls.length := by
        have e := congrArg List.length e2
        rw [List.length_map, List.length_map, List.length_map, List.length_map] at e
        exact e
      refine ⟨.ref p, rfl, t2, p, refsOf L2, refL ls, rfl, .inr ⟨SqT.of hT2, SqT.of hP2.tup, fun D nD => ?_⟩⟩
      refine lc_it (walk_zipT (K := K) (a := t2) (b := p) (xs := refsOf L2) (ys := refL ls) (n := ls.length) (by rw [refsOf_len, refL_len]; omega))
        (fun j H3 => Same H2 H3 ∧ ∃ L, H3 D = some (.lst (refL L)) ∧ (∀ l ∈ L, H3 l.a = some (.tup l.tup)) ∧ L.map (·.x) = ((ls.take j).map fun l => l.x + x)) ⟨same_new nD, [], upd_same, fun l hl => (by cases hl), rfl⟩
        (fun j H3 _ h => ⟨SqT.of (h.1 _ _ hT2), SqT.of (h.1 _ _ hP2.tup)⟩) (fun j v H3 H4 hj h hy => ?_) (fun H3 h => ?_)
      · obtain ⟨s3, L, hD, hL, eL⟩ := h
        obtain ⟨T, x1, x2, rfl, nT, rfl, f1, f2⟩ := hy
        obtain ⟨l, hl⟩ := lamp_at hj
        have hq2 : L2[j]? = some (L2[j]'(by omega)) := List.getElem?_eq_getElem (by omega)
        generalize L2[j]'(by omega) = qd at hq2
        have ex1 : x1 = .ref qd.1 := Option.some.inj (f1.symm.trans (refsOf_at hq2))
        have ex2 : x2 = .ref l.a := Option.some.inj (f2.symm.trans (refL_at hl))
        subst ex1 ex2
        obtain ⟨d0, hd0, ed⟩ := snd_at e2 hq2
        rw [List.getElem?_map, List.getElem?_map, hl] at hd0
        have ed0 : (l.x + x, l.z + z) = d0 := Option.some.inj hd0
        have s4 : Same H2 (upd H3 T (.tup [.ref qd.1, .ref l.a])) := s3.trans (same_new nT)
        have s34 : Same H3 (upd H3 T (.tup [.ref qd.1, .ref l.a])) := same_new nT
        have hTT : upd H3 T (.tup [.ref qd.1, .ref l.a]) T = some (.tup [.ref qd.1, .ref l.a]) := upd_same
        generalize upd H3 T (.tup [.ref qd.1, .ref l.a]) = H4 at s4 s34 hTT
        have hdot : H4 qd.1 = some (.tup [.int (l.x + x), .int (l.z + z)]) := by
          have h1 := s4 _ _ (hL2 qd (List.mem_of_getElem? hq2))
          rw [ed, ← ed0] at h1
          exact h1
        have hlamp := s4 _ _ (hP2.at hl)
        refine ⟨T, [.ref qd.1, .ref l.a], rfl, SqT.of hTT, rfl, .ref qd.1, [.ref l.a], rfl, .ref l.a, [], rfl, rfl, rfl, ?_⟩
        refine ⟨.ref qd.1, rfl, qd.1, _, rfl, .inl (SqT.of hdot), .ref l.a, rfl, 2, rfl, l.a, l.tup, rfl, SqT.of hlamp, fun z => absurd z.1 (show ¬ HT.sIx 4 0 (some 2) = 0 by decide), fun u nu => ?_⟩
        have su : Same H4 (upd H4 u (.tup (cutV l.tup (some 2) none))) := same_new nu
        have hu : upd H4 u (.tup (cutV l.tup (some 2) none)) u = some (.tup [l.sh, l.wt]) := upd_same
        generalize upd H4 u (.tup (cutV l.tup (some 2) none)) = H5 at su hu
        refine ⟨u, _, rfl, .inl (SqT.of hu), sz100 (by show 4 ≤ 100; decide), fun o no => ?_⟩
        have so : Same H5 (upd H5 o (.tup [.int (l.x + x), .int (l.z + z), l.sh, l.wt])) := same_new no
        have hlL : L.length ≤ 100 := by
          have e := congrArg List.length eL
          rw [List.length_map, List.length_map, List.length_take] at e
          omega
        obtain ⟨acc, a1, a2, a3, a4, a5⟩ := lamp_app (H := H2) (H3 := H3) (d := D) (H4 := upd H5 o (.tup [.int (l.x + x), .int (l.z + z), l.sh, l.wt])) (D := D) (L := L) (o := ⟨o, l.x + x, l.z + z, l.sh, l.wt⟩) nD (s4.trans (su.trans so))
          (so _ _ (su _ _ (s34 _ _ hD))) (fun l' hl' => so _ _ (su _ _ (s34 _ _ (hL l' hl')))) upd_same hlL
        refine ⟨acc, a1, a2, a3, _, a4, a5, ?_⟩
        rw [List.map_append, eL, List.take_add_one, hl, List.map_append]
        rfl
      · obtain ⟨s3, L, hD, hL, eL⟩ := h
        rw [List.take_length] at eL
        refine ⟨D, _, rfl, .inl ⟨SqL.of hD, fun t' nt => ?_⟩⟩
        refine q _ t' L ((s2.trans s3).trans (same_new nt)) ⟨upd_same, fun l hl => same_new nt _ _ (hL l hl)⟩ ?_
        unfold xsOf
        rw [eL, List.map_map]
        rfl
end
end K16

set_option Elab.async false
set_option linter.all false
set_option maxRecDepth 100000
set_option maxHeartbeats 4000000
namespace K16
open PySem PySem.Spec PyProof.Rows L2
/-! ### mirrored_lamps -/
def keyOf (x : Int) (l : Lamp) : List Key := [.inl (2 * x - l.x), .inl l.z]
def mir (x : Int) (l : Lamp) : List Int := [2 * x - l.x, l.z]
def kvOf (x : Int) (M : List (Lamp × Addr)) : List (List Key × V) := M.map fun m => (keyOf x m.1, V.ref m.2)
theorem keyOf_inj {x : Int} {l l' : Lamp} (h : keyOf x l = keyOf x l') : xz l = xz l' := by
  unfold keyOf at h
  injection h with h1 h2
  injection h2 with h3 _
  injection h1 with h1
  injection h3 with h3
  unfold xz
  rw [show l.x = l'.x by omega, h3]
theorem valV_no {x : Int} {k : List Key} : ∀ M : List (Lamp × Addr), (∀ m ∈ M, keyOf x m.1 ≠ k) → valV (kvOf x M) k = none
  | [], _ => rfl
  | m :: M, h => by
    show valV ((keyOf x m.1, V.ref m.2) :: kvOf x M) k = none
    rw [valV_neg (h m List.mem_cons_self)]
    exact valV_no M fun n hn => h n (List.mem_cons_of_mem _ hn)
theorem valV_yes {x : Int} : ∀ (M : List (Lamp × Addr)), (M.map fun m => xz m.1).Nodup → ∀ m ∈ M, valV (kvOf x M) (keyOf x m.1) = some (.ref m.2)
  | [], _, m, h => by cases h
  | n :: M, nd, m, h => by
    have nd' := List.pairwise_cons.mp nd
    show valV ((keyOf x n.1, V.ref n.2) :: kvOf x M) (keyOf x m.1) = _
    rcases List.mem_cons.mp h with e | h
    · subst e
      rw [valV_pos rfl]
    · have ne : ¬ keyOf x n.1 = keyOf x m.1 := fun z => nd'.1 (xz m.1) (List.mem_map.mpr ⟨m, h, rfl⟩) (keyOf_inj z)
      rw [valV_neg ne]
      exact valV_yes M nd'.2 m h
theorem kvOf_len (x : Int) (M : List (Lamp × Addr)) : (kvOf x M).length = M.length := List.length_map _
theorem kvOf_keys (x : Int) (M : List (Lamp × Addr)) : (kvOf x M).map (·.1) = (M.map fun m => mir x m.1).map fun k => k.map Sum.inl := by
  unfold kvOf
  rw [List.map_map, List.map_map]
  rfl
section
variable {P : Program} {w : World} {K : PySem.W.Frag} {mg : Str → Option Value} {base : Heap}
def spMirrL : Sp := fun vs H Q _ => ∃ (p : Addr) (ls : List Lamp) (x B : Int), vs = [.ref p, .int x] ∧ Pic H p ls ∧ ls.length < 64 ∧ (ls.map xz).Nodup ∧ (∀ l ∈ ls, 0 ≤ l.z ∧ l.z < B) ∧
  ∀ H' t ls', Same H H' → Pic H' t ls' → (xsOf ls').Perm ((xsOf ls).map fun y => 2 * x - y) → (xsOf ls').Pairwise (· ≤ ·) → Q (.ref t) H'
theorem ok_mirrL {f fR fD : Addr} {fd fdR fdD : FuncData} {k : Nat} {tk : Tok} (F : Fun K "mirrored_lamps" "mirrored_lamps" sMirrL f fd) (FR : Fun K "mirrored" "mirrored" sMirr fR fdR) (bR : Binds K fdR ["shape", "x"] []) (gR : mg "mirrored" = some (.ref fR))
    (FD : Fun K "dots" "dots" sDots fD fdD) (bD : Binds K fdD ["points"] []) (gD : mg "dots" = some (.ref fD))
    (mt : mg "tuple" = none) (ms : mg "sorted" = none) (mset : mg "set" = none) (ml : mg "len" = none) (gM : mg "MOST" = some (.int 3000 tk)) : FnOk P w K mg base CX0 (k + 3) f fd ["picture", "x"] spMirrL := by
  have GR : FnOk P w K mg base CX0 (k + 2) fR fdR ["shape", "x"] spMirr := ok_mirr FR FD bD gD mt ms mset ml gM
  refine F.ok scMirrL (fun vs H Q E h => ?_) (fun cdv A outer s H vs Q E hr h => ?_)
  · obtain ⟨p, ls, x, B, rfl, _⟩ := h
    rfl
  · obtain ⟨p, ls, x, B, rfl, hP, hlen, nd, hz, q⟩ := h
    refine ⟨_, pss_cons (ps_set (i := 2) scMirrL.nd rfl (.inr rfl) pe_dnewT)
      (pss_cons (ps_for PassesOwn.never rfl (pi_tup (pv 0)) (pg_name (i := 3) scMirrL.nd rfl (.inl rfl))
        (pss_one (ps_dput (hu_of hr) (pv 2) (pe_ix ix_tup (pe_call GR hr (by rfl) gR FR.kp bR .nil pass0 (pa_cons (pe_tup (pa_cons (pe_slice sl_tup (pv 3) po_none (po_some pe_int)) pa_nil)) (pa_cons (pv 1) pa_nil))) pe_int (fun _ _ => rfl)) (pe_slice sl_tup (pv 3) (po_some pe_int) po_none) rfl)))
      (pss_one (ps_ret (pe_callTy call_tuple_of (by rfl) mt (by decide +kernel) (pa_cons
        (pe_lc (own := [("dot", 4)]) (g := gName 4) (te := tTup (StX.tStar K (tVar 4) (StX.tStar K (tDGet (tVar 2) (tVar 4)) tNil))) rfl scMirrL.nd (pi_list (pe_callB (cr_sortedDP rfl) (by rfl) ms (by decide +kernel) (pa_cons (pv 2) pa_nil)))
          (blkOk_by (N := ["picture", "x", "found", "lamp", "dot"]) (sc := defScope sMirrL) (by decide +kernel))
          (fun _ _ _ _ _ => pg_name (i := 4) scMirrL.nd rfl (Or.inl rfl) (Or.inr rfl)) (fun _ _ _ _ _ => pts_nil)
          (fun _ _ _ _ _ => pe_tup (StX.pa_star (pv 4) (StX.pa_star (pe_dget (hu_of hr) (pv 2) (pv 4) (fun _ _ => rfl)) pa_nil)))) pa_nil))))), ?_⟩
    -- found = {}
    refine fun fa nfa => ?_
    have s0 : Same H (upd H fa (.dT [])) := same_new nfa
    refine ⟨.ref p, rfl, p, rfl, ⟨_, SqT.of (s0 _ _ hP.tup)⟩, for_tup (K := K) (xs := refL ls) (fun i σ H1 => ∃ (M : List (Lamp × Addr)) (y3 : Option V), σ = [some (.ref p), some (.int x), some (.ref fa), y3, none] ∧ Same H H1 ∧
        H1 fa = some (.dT (kvOf x M)) ∧ M.map (·.1) = ls.take i ∧ ∀ m ∈ M, H1 m.2 = some (.tup [m.1.sh, m.1.wt])) ⟨[], none, rfl, s0, upd_same, rfl, fun m hm => (by cases hm)⟩ (fun i σ H1 _ h => ?_) (fun i v σ H1 hx h => ?_) (fun σ H1 h => ?_)⟩
    · obtain ⟨_, _, _, sm, _⟩ := h
      exact SqT.of (sm _ _ hP.tup)
    · obtain ⟨M, y3, rfl, sm, hfa, eM, hM⟩ := h
      have hi : i < ls.length := by
        rw [← refL_len ls]
        exact (List.getElem?_eq_some_iff.mp hx).1
      obtain ⟨l, hl⟩ := lamp_at hi
      have ex : v = .ref l.a := Option.some.inj (hx.symm.trans (refL_at hl))
      subst ex
      have hlamp : H1 l.a = some (.tup l.tup) := sm _ _ (hP.at hl)
      have hlz := hz l (List.mem_of_getElem? hl)
      have hMl : M.length ≤ i := by
        have e := congrArg List.length eM
        rw [List.length_map, List.length_take] at e
        omega
      refine ⟨.ref l.a, rfl, 2, rfl, l.a, l.tup, rfl, SqT.of hlamp, fun z => absurd z.1 (show ¬ HT.sIx 4 0 (some 2) = 0 by decide), fun u nu => ?_⟩
      have su : Same H1 (upd H1 u (.tup (cutV l.tup (some 2) none))) := same_new nu
      have hu : upd H1 u (.tup (cutV l.tup (some 2) none)) u = some (.tup [l.sh, l.wt]) := upd_same
      generalize upd H1 u (.tup (cutV l.tup (some 2) none)) = H2 at su hu
      refine ⟨.ref fa, rfl, .ref l.a, rfl, 2, rfl, l.a, l.tup, rfl, SqT.of (su _ _ hlamp), fun z => absurd z.2 (show ¬ HT.sIx 4 4 (some 2) = 4 by decide), fun d ndd => ?_⟩
      have sd : Same H2 (upd H2 d (.tup (cutV l.tup none (some 2)))) := same_new ndd
      have hd : upd H2 d (.tup (cutV l.tup none (some 2))) d = some (.tup [.int l.x, .int l.z]) := upd_same
      generalize upd H2 d (.tup (cutV l.tup none (some 2))) = H3 at sd hd
      refine ⟨sz100 (by show 1 ≤ 100; decide), fun t nt => ⟨.int x, rfl, t, d, l.x, l.z, x, B, rfl, upd_same, same_new nt _ _ hd, hlz.1, hlz.2, fun H4 t' d' s4 hT' hd' => ?_⟩⟩
      have s14 : Same H1 H4 := su.trans (sd.trans ((same_new nt).trans s4))
      have hu4 : H4 u = some (.tup [l.sh, l.wt]) := s4 _ _ (same_new nt _ _ (sd _ _ hu))
      have hfa4 := s14 _ _ hfa
      refine ⟨t', _, 0, .ref d', rfl, rfl, SqT.of hT', atI_nat (j := 0) rfl, fa, _, rfl, DPut.t (k := keyOf x l) hfa4 hd' (sl100 (by rw [kvOf_len]; omega)), ?_⟩
      have hnew : valV (kvOf x M) (keyOf x l) = none := valV_no M fun m hm e => by
        have h1 : m.1 ∈ ls.take i := by
          rw [← eM]
          exact List.mem_map.mpr ⟨m, hm, rfl⟩
        obtain ⟨j, hj⟩ := List.mem_iff_getElem?.mp h1
        rw [List.getElem?_take] at hj
        by_cases hji : j < i
        · rw [if_pos hji] at hj
          have e1 : (ls.map xz)[j]? = some (xz m.1) := by rw [List.getElem?_map, hj]; rfl
          have e2 : (ls.map xz)[i]? = some (xz m.1) := by rw [List.getElem?_map, hl, keyOf_inj e]; rfl
          have := nd_ix nd e1 e2
          omega
        · rw [if_neg hji] at hj
          cases hj
      rw [putK_new _ hnew]
      refine ⟨M ++ [(l, u)], _, rfl, same_mut (sm.trans s14) nfa, ?_, ?_, fun m hm => ?_⟩
      · rw [upd_same]
        unfold kvOf
        rw [List.map_append]
        rfl
      · rw [List.map_append, eM, List.take_add_one, hl]
        rfl
      · have h4 : H4 m.2 = some (.tup [m.1.sh, m.1.wt]) := by
          rcases List.mem_append.mp hm with z | z
          · exact s14 _ _ (hM m z)
          · rw [List.mem_singleton.mp z]
            exact hu4
        rw [upd_ne (ne_of h4 hfa4 (by intro z; cases z))]
        exact h4
    · obtain ⟨M, y3, rfl, sm, hfa, eM, hM⟩ := h
      rw [refL_len, List.take_length] at eM
      have eks : (M.map fun m => mir x m.1) = ls.map (mir x) := by
        rw [← eM, List.map_map]
        rfl
      have ndM : (M.map fun m => xz m.1).Nodup := by
        have e : (M.map fun m => xz m.1) = ls.map xz := by
          rw [← eM, List.map_map]
          rfl
        rw [e]
        exact nd
      refine ⟨.ref fa, rfl, fa, kvOf x M, ls.map (mir x), B, rfl, hfa, by rw [kvOf_keys, eks], by rw [List.length_map]; exact hlen, fun kk hk => ?_, fun L' b pm hL' pw nb => ?_⟩
      · obtain ⟨l, hl, e⟩ := List.mem_map.mp hk
        exact ⟨_, _, e.symm, (hz l hl).1, (hz l hl).2⟩
      have sb : Same H1 (upd H1 b (.lst (refsOf L'))) := same_new nb
      have hb : upd H1 b (.lst (refsOf L')) b = some (.lst (refsOf L')) := upd_same
      generalize upd H1 b (.lst (refsOf L')) = H2 at sb hb
      have hfa2 := sb _ _ hfa
      refine ⟨b, rfl, ⟨_, SqL.of hb⟩, fun D nD => ?_⟩
      refine lc_it (walk_list (K := K) (a := b) (xs := refsOf L')) (fun j H3 => Same H2 H3 ∧ ∃ L, H3 D = some (.lst (refL L)) ∧ (∀ l ∈ L, H3 l.a = some (.tup l.tup)) ∧ L.map (fun l => pr (xz l)) = (L'.take j).map (·.2)) ⟨same_new nD, [], upd_same, fun l hl => (by cases hl), rfl⟩
        (fun j H3 _ h => SqL.of (h.1 _ _ hb)) (fun j v H3 H4 hj h hy => ?_) (fun H3 h => ?_)
      · obtain ⟨s3, L, hD, hL, eL⟩ := h
        obtain ⟨rfl, hv⟩ := hy
        rw [refsOf_len] at hj
        have hq : L'[j]? = some L'[j] := List.getElem?_eq_getElem hj
        generalize L'[j] = qd at hq
        have ev : v = .ref qd.1 := Option.some.inj (hv.symm.trans (refsOf_at hq))
        subst ev
        have hmem : qd.2 ∈ ls.map (mir x) := pm.mem_iff.mp (List.mem_map.mpr ⟨qd, List.mem_of_getElem? hq, rfl⟩)
        obtain ⟨l, hl, el⟩ := List.mem_map.mp hmem
        have hlM : l ∈ M.map (·.1) := by
          rw [eM]
          exact hl
        obtain ⟨m, hm, em⟩ := List.mem_map.mp hlM
        have hdot : H4 qd.1 = some (.tup ((keyOf x l).map kV)) := by
          have h1 := s3 _ _ (sb _ _ (hL' qd (List.mem_of_getElem? hq)))
          rw [← el] at h1
          exact h1
        have hval : valV (kvOf x M) (keyOf x l) = some (.ref m.2) := by
          rw [← em]
          exact valV_yes M ndM m hm
        have hget : DGet H4 fa (.ref qd.1) (some (.ref m.2)) := by
          rw [← hval]
          exact DGet.t (s3 _ _ hfa2) hdot
        have hm4 : H4 m.2 = some (.tup [l.sh, l.wt]) := by
          have h1 := s3 _ _ (sb _ _ (hM m hm))
          rw [em] at h1
          exact h1
        refine ⟨rfl, .ref qd.1, rfl, qd.1, _, rfl, .inl (SqT.of hdot), .ref fa, rfl, .ref qd.1, rfl, fa, .ref m.2, rfl, hget, m.2, _, rfl, .inl (SqT.of hm4), sz100 (by show 4 ≤ 100; decide), fun o no => ?_⟩
        have so : Same H4 (upd H4 o (.tup [.int (2 * x - l.x), .int l.z, l.sh, l.wt])) := same_new no
        have hlL : L.length ≤ 100 := by
          have e := congrArg List.length eL
          rw [List.length_map, List.length_map, List.length_take] at e
          have e2 := pm.length_eq
          rw [List.length_map, List.length_map] at e2
          omega
        obtain ⟨acc, a1, a2, a3, a4, a5⟩ := lamp_app (H := H2) (H3 := H4) (d := D) (H4 := upd H4 o (.tup [.int (2 * x - l.x), .int l.z, l.sh, l.wt])) (D := D) (L := L) (o := ⟨o, 2 * x - l.x, l.z, l.sh, l.wt⟩) nD (s3.trans so)
          (so _ _ hD) (fun l' hl' => so _ _ (hL l' hl')) upd_same hlL
        refine ⟨acc, a1, a2, a3, _, a4, a5, ?_⟩
        rw [List.map_append, eL, List.take_add_one, hq, List.map_append]
        show _ ++ [pr (xz ⟨o, 2 * x - l.x, l.z, l.sh, l.wt⟩)] = _ ++ [qd.2]
        rw [← el]
        rfl
      · obtain ⟨s3, L, hD, hL, eL⟩ := h
        rw [refsOf_len, List.take_length] at eL
        have hpm : (L.map fun l => pr (xz l)).Perm (ls.map (mir x)) := by
          rw [eL]
          exact pm
        refine ⟨D, _, rfl, .inl ⟨SqL.of hD, fun t' nt => ?_⟩⟩
        refine q _ t' L (((sm.trans sb).trans s3).trans (same_new nt)) ⟨upd_same, fun l hl => same_new nt _ _ (hL l hl)⟩ ?_ ?_
        · have h1 := hpm.map (fun k => k.headD 0)
          rw [List.map_map, List.map_map] at h1
          have e1 : xsOf L = L.map ((fun k : List Int => k.headD 0) ∘ fun l => pr (xz l)) := rfl
          have e2 : ((xsOf ls).map fun y => 2 * x - y) = ls.map ((fun k : List Int => k.headD 0) ∘ mir x) := by
            unfold xsOf
            rw [List.map_map]
            rfl
          rw [e1, e2]
          exact h1
        · have h1 : (L'.map (·.2)).Pairwise (fun a c => rk B a ≤ rk B c) := List.pairwise_map.mpr pw
          rw [← eL, List.pairwise_map] at h1
          unfold xsOf
          rw [List.pairwise_map]
          refine List.Pairwise.imp_of_mem (fun {a c} ha hc hle => ?_) h1
          have bz : ∀ a ∈ L, 0 ≤ a.z ∧ a.z < B := fun a ha => by
            obtain ⟨l, hl, e⟩ := List.mem_map.mp (hpm.mem_iff.mp (List.mem_map.mpr ⟨a, ha, rfl⟩))
            have e' : [2 * x - l.x, l.z] = [a.x, a.z] := e
            injection e' with _ e2
            injection e2 with e3 _
            rw [← e3]
            exact hz l hl
          exact rk_first (bz a ha).1 (bz a ha).2 (bz c hc).1 (bz c hc).2 hle
end
end K16

set_option Elab.async false
set_option linter.all false
set_option maxRecDepth 100000
set_option maxHeartbeats 4000000
namespace K16
open PySem PySem.Spec PyProof.Rows L2
/-- a statement with what is known behind it -/
def tMid (t : TS) : TS := fun D σ H => ∃ M : L2.St → Hp → Prop, t { D with nx := M } σ H ∧ ∀ σ' H', M σ' H' → D.nx σ' H'
theorem ps_mid {X : Cx} {st : Stmt} {t : TS} (h : PS X st t) : PS X st (tMid t) := by
  refine ⟨fun pins s σ H D I q => ?_⟩
  obtain ⟨M, h1, h2⟩ := q
  refine thn (h.run pins s σ H { D with nx := M } I h1) fun f s' r => ?_
  cases f with
  | next =>
    obtain ⟨σ', H', I', m⟩ := r
    exact ⟨σ', H', I', h2 σ' H' m⟩
  | ret v => exact r
  | brk => exact r
  | cont => exact r
/-! ### the bag -/
def bagV (s0 s1 s2 : Int) (c : Addr) : List V := [.int s0, .int s1, .int s2, .ref c]
structure BagAt (H : Hp) (b : Addr) (s0 s1 s2 : Int) (c : Addr) (cells : List Int) : Prop where
  bag : H b = some (.lst (bagV s0 s1 s2 c))
  cel : H c = some (.lst (vI cells))
  ne : c ≠ b
  len : cells.length ≤ 63
def Bag (H : Hp) (b c : Addr) : Prop := ∃ s0 s1 s2 cells, BagAt H b s0 s1 s2 c cells
theorem BagAt.same {H H' : Hp} {b : Addr} {s0 s1 s2 : Int} {c : Addr} {cells : List Int} (x : BagAt H b s0 s1 s2 c cells) (e : Same H H') : BagAt H' b s0 s1 s2 c cells := ⟨e _ _ x.bag, e _ _ x.cel, x.ne, x.len⟩
theorem BagAt.put {H : Hp} {b : Addr} {s0 s1 s2 : Int} {c : Addr} {cells : List Int} (x : BagAt H b s0 s1 s2 c cells) (t0 t1 t2 : Int) : BagAt (upd H b (.lst (bagV t0 t1 t2 c))) b t0 t1 t2 c cells :=
  ⟨upd_same, by rw [upd_ne x.ne]; exact x.cel, x.ne, x.len⟩
theorem BagAt.any {H : Hp} {b : Addr} {s0 s1 s2 : Int} {c : Addr} {cells : List Int} (x : BagAt H b s0 s1 s2 c cells) : Bag H b c := ⟨s0, s1, s2, cells, x⟩
theorem Bag.same {H H' : Hp} {b c : Addr} (x : Bag H b c) (e : Same H H') : Bag H' b c := by
  obtain ⟨s0, s1, s2, cells, h⟩ := x
  exact (h.same e).any
theorem Bag.lst {H : Hp} {b c : Addr} (x : Bag H b c) : ∃ xs, H b = some (.lst xs) := by
  obtain ⟨s0, s1, s2, cells, h⟩ := x
  exact ⟨_, h.bag⟩
theorem Bag.cel {H : Hp} {b c : Addr} (x : Bag H b c) : ∃ xs, H c = some (.lst xs) := by
  obtain ⟨s0, s1, s2, cells, h⟩ := x
  exact ⟨_, h.cel⟩
/-- what is new is not the bag's -/
theorem Bag.off {H : Hp} {b c p : Addr} (x : Bag H b c) (h : H p = none) : p ≠ b ∧ p ≠ c := by
  obtain ⟨xs, hb⟩ := x.lst
  obtain ⟨ys, hc⟩ := x.cel
  exact ⟨fun e => (by rw [e, hb] at h; cases h), fun e => (by rw [e, hc] at h; cases h)⟩
theorem Bag.mut {H : Hp} {b c p : Addr} {o : HO} (x : Bag H b c) (h : p ≠ b ∧ p ≠ c) : Bag (upd H p o) b c := by
  obtain ⟨s0, s1, s2, cells, y⟩ := x
  exact ⟨s0, s1, s2, cells, by rw [upd_ne (Ne.symm h.1)]; exact y.bag, by rw [upd_ne (Ne.symm h.2)]; exact y.cel, y.ne, y.len⟩
theorem Pic.bag {H H' : Hp} {p b c : Addr} {ls : List Lamp} (x : Pic H p ls) (hb : Bag H b c) (e : SameB b H H') : Pic H' p ls := by
  obtain ⟨xs, h⟩ := hb.lst
  exact x.sameB h e
theorem mem_vI {ns : List Int} {v : V} (h : v ∈ vI ns) : ∃ n ∈ ns, v = .int n := by
  obtain ⟨n, hn, e⟩ := List.mem_map.mp h
  exact ⟨n, hn, e.symm⟩
section
variable {P : Program} {w : World} {K : PySem.W.Frag} {mg : Str → Option Value} {base : Heap}
/-! ### _law_bag -/
def spBag (K : PySem.W.Frag) : Sp := fun vs H Q _ => ∃ (a : Addr) (ns : List Int), vs = [.ref a] ∧ SqL K H a (vI ns) ∧ ns.length ≤ 63 ∧ ∀ H' b c, Same H H' → H b = none → Bag H' b c → Q (.ref b) H'
theorem cut_len {xs : List V} {n : Nat} (h : xs.length ≤ n) : cutV xs none (some (n : Int)) = xs := by
  rw [cut_hi]
  exact List.take_of_length_le h
theorem ok_bag {f : Addr} {fd : FuncData} {k : Nat} (F : Fun K "_law_bag" "_law_bag" sBag f fd) (ma : mg "abs" = none) : FnOk P w K mg base CX0 (k + 1) f fd ["_law_script"] (spBag K) := by
  refine F.ok scBag (fun vs H Q E h => ?_) (fun cdv A outer s H vs Q E hr h => ?_)
  · obtain ⟨a, ns, rfl, _⟩ := h
    rfl
  · obtain ⟨a, ns, rfl, hS, hlen, q⟩ := h
    refine ⟨_, pss_one (ps_ret (pe_lst (pa_cons pe_int (pa_cons pe_int (pa_cons pe_int (pa_cons
      (pe_lc (own := [("_law_cell", 1)]) (g := gName 1) rfl scBag.nd (pi_list (pe_slice sl_list (pv 0) po_none (po_some pe_int))) (blkOk_by (N := ["_law_script", "_law_cell"]) (sc := defScope sBag) (by decide +kernel))
        (fun _ _ _ _ _ => pg_name (i := 1) scBag.nd rfl (Or.inl rfl) (Or.inr rfl)) (fun _ _ _ _ _ => pts_nil)
        (fun _ _ _ _ _ => pe_callB call_abs (by rfl) ma (by decide +kernel) (pa_cons (pv 1) pa_nil))) pa_nil)))))), ?_⟩
    refine ⟨.ref a, rfl, 63, rfl, a, vI ns, rfl, hS, fun e ne => ?_⟩
    have se : Same H (upd H e (.lst (cutV (vI ns) none (some 63)))) := same_new ne
    have he : upd H e (.lst (cutV (vI ns) none (some 63))) e = some (.lst (vI ns)) := by
      rw [upd_same]
      have h1 : cutV (vI ns) none (some ((63 : Nat) : Int)) = vI ns := cut_len (by rw [vI_len]; exact hlen)
      have h2 : cutV (vI ns) none (some 63) = vI ns := h1
      rw [h2]
    generalize upd H e (.lst (cutV (vI ns) none (some 63))) = H1 at se he
    refine ⟨e, rfl, ⟨_, SqL.of he⟩, fun D nD => ?_⟩
    refine lc_it (walk_list (K := K) (a := e) (xs := vI ns)) (fun j H2 => Same H1 H2 ∧ ∃ cs, H2 D = some (.lst (vI cs)) ∧ cs.length = j) ⟨same_new nD, [], upd_same, rfl⟩ (fun j H2 _ h => SqL.of (h.1 _ _ he)) (fun j v H2 H3 hj h hy => ?_) (fun H2 h => ?_)
    · obtain ⟨s2, cs, hD, hc⟩ := h
      obtain ⟨rfl, hv⟩ := hy
      rw [vI_len] at hj
      have ev : v = .int ns[j] := Option.some.inj (hv.symm.trans (vI_at (List.getElem?_eq_getElem hj)))
      subst ev
      refine ⟨rfl, .int ns[j], rfl, ns[j], rfl, _, hD, sl100 (by rw [vI_len]; omega), same_mut s2 nD, cs ++ [if ns[j] < 0 then -ns[j] else ns[j]], ?_, ?_⟩
      · rw [upd_same, vI_append]
        rfl
      · rw [List.length_append, List.length_singleton, hc]
    · obtain ⟨s2, cs, hD, hc⟩ := h
      rw [vI_len] at hc
      refine ⟨sz100 (by show 4 ≤ 100; decide), fun b nb => ?_⟩
      have hDb : D ≠ b := ne_of_none hD nb
      have s3 := se.trans s2
      refine q _ b D (s3.trans (same_new nb)) (s3.free nb) ⟨0, 1234567891, 0, cs, upd_same, ?_, hDb, by omega⟩
      rw [upd_ne hDb]
      exact hD
/-! ### _law_take -/
def spTake : Sp := fun vs H Q _ => ∃ (b c : Addr) (many : Int), vs = [.ref b, .int many] ∧ Bag H b c ∧ 0 < many ∧ many < 1073741824 ∧ ∀ H' v, SameB b H H' → Bag H' b c → 0 ≤ v → v < many → Q (.int v) H'
theorem cut_vI (cells : List Int) (lo hi : Option Int) : ∃ cs : List Int, cutV (vI cells) lo hi = vI cs ∧ cs.length ≤ cells.length := by
  refine ⟨(cells.drop (HT.sIx (vI cells).length 0 lo)).take (HT.sIx (vI cells).length (vI cells).length hi - HT.sIx (vI cells).length 0 lo), ?_, ?_⟩
  · unfold cutV
    rw [vI_take, vI_drop]
  · rw [List.length_take, List.length_drop]
    omega
theorem first_of (cs : List Int) : ∃ n : Int, (vI cs ++ [V.int 0])[0]? = some (.int n) := by
  cases cs with
  | nil => exact ⟨0, rfl⟩
  | cons n r => exact ⟨n, rfl⟩
theorem ok_take {f : Addr} {fd : FuncData} {k : Nat} (F : Fun K "_law_take" "_law_take" sTake f fd) (mi : mg "int" = none) : FnOk P w K mg base CX0 (k + 1) f fd ["_law_bag_here", "_law_many"] spTake := by
  refine F.ok scTake (fun vs H Q E h => ?_) (fun cdv A outer s H vs Q E hr h => ?_)
  · obtain ⟨b, c, m, rfl, _⟩ := h
    rfl
  · obtain ⟨b, c, many, rfl, hB, hm0, hm1, q⟩ := h
    refine ⟨_, pss_cons (ps_mid (ps_if (pt_cmpR op_eq (pe_ix ix_list (pv 0) pe_int (fun _ _ => rfl)) pe_int (nomark _))
        (pss_cons (ps_set (i := 2) scTake.nd rfl (.inl rfl) (pe_ix ix_list (pe_op op_cat (pe_slice sl_list (pe_ix ix_list (pv 0) pe_int (fun _ _ => rfl)) (po_some (pe_ix ix_list (pv 0) pe_int (fun _ _ => rfl))) po_none) (pe_lst (pa_cons pe_int pa_nil))) pe_int (fun _ _ => rfl)))
        (pss_cons (ps_augS (pv 0) pe_int get_list pe_int ip_add set_list)
        (pss_cons (ps_mid (ps_if (pt_cmpR op_ge (pv 2) (pe_op op_pow pe_int pe_int) (nomark _)) (pss_one (ps_asg (pv 2) (pg_sub (pv 0) pe_int set_list))) pss_nil))
        (pss_cons (ps_set (i := 3) scTake.nd rfl (.inl rfl) (pe_op op_add (pe_op op_add (pe_op op_mul (pe_ix ix_list (pv 0) pe_int (fun _ _ => rfl)) pe_int) (pe_op op_mod (pe_callTy call_int1 (by rfl) mi (by decide +kernel) (pa_cons (pv 2) pa_nil)) pe_int)) (pe_op op_mul pe_int (pe_ix ix_list (pv 0) pe_int (fun _ _ => rfl)))))
        (pss_one (ps_asg (pe_op op_mod (pe_callTy call_int1 (by rfl) mi (by decide +kernel) (pa_cons (pv 3) pa_nil)) pe_int) (pg_sub (pv 0) pe_int set_list))))))) pss_nil))
      (pss_cons (ps_if (pt_cmpR op_gt (pe_ix ix_list (pv 0) pe_int (fun _ _ => rfl)) pe_int (nomark _))
        (pss_cons (ps_set (i := 4) scTake.nd rfl (.inl rfl) (pe_op op_mod (pe_callTy call_int1 (by rfl) mi (by decide +kernel) (pa_cons (pe_ix ix_list (pv 0) pe_int (fun _ _ => rfl)) pa_nil)) (pv 1)))
        (pss_cons (ps_asg (pe_op op_fdiv (pe_callTy call_int1 (by rfl) mi (by decide +kernel) (pa_cons (pe_ix ix_list (pv 0) pe_int (fun _ _ => rfl)) pa_nil)) (pv 1)) (pg_sub (pv 0) pe_int set_list))
        (pss_one (ps_ret (pv 4))))) pss_nil)
      (pss_cons (ps_set (i := 5) scTake.nd rfl (.inl rfl) (pe_op op_mod (pe_callTy call_int1 (by rfl) mi (by decide +kernel) (pa_cons (pe_op op_mul (pe_op op_add (pe_ix ix_list (pv 0) pe_int (fun _ _ => rfl)) pe_int) pe_int) pa_nil)) pe_int))
      (pss_cons (ps_set (i := 6) scTake.nd rfl (.inl rfl) (pe_op op_mod (pe_callTy call_int1 (by rfl) mi (by decide +kernel) (pa_cons (pe_op op_mul (pe_op op_mod (pe_callTy call_int1 (by rfl) mi (by decide +kernel) (pa_cons (pe_op op_mul (pv 5) (pv 5)) pa_nil)) pe_int) pe_int) pa_nil)) pe_int))
      (pss_one (ps_ret (pe_op op_mod (pe_callTy call_int1 (by rfl) mi (by decide +kernel) (pa_cons (pe_op op_fdiv (pv 6) pe_int) pa_nil)) (pv 1))))))), ?_⟩
    obtain ⟨s0, s1, s2, cells, h0⟩ := hB
    refine ⟨fun σ' H' => ∃ y2 y3, σ' = [some (.ref b), some (.int many), y2, y3, none, none, none] ∧ SameB b H H' ∧ Bag H' b c, ?_, fun σ' H' hM => ?_⟩
    · refine ⟨.ref b, rfl, b, _, 0, .int s0, rfl, rfl, SqL.of h0.bag, atI_nat (j := 0) rfl, rfl, _, rfl, ite2 (fun _ => ?_) (fun _ => ⟨none, none, rfl, SameB.refl _ _, h0.any⟩)⟩
      -- cell
      refine ⟨.ref b, rfl, b, _, 3, .ref c, rfl, rfl, SqL.of h0.bag, atI_nat (j := 3) rfl, .ref b, rfl, b, _, 2, .int s2, rfl, rfl, SqL.of h0.bag, atI_nat (j := 2) rfl, s2, rfl, c, vI cells, rfl, SqL.of h0.cel, fun d nd => ?_⟩
      obtain ⟨cs, ecs, lcs⟩ := cut_vI cells (some s2) none
      rw [ecs]
      have lc := h0.len
      have sd : Same H (upd H d (.lst (vI cs))) := same_new nd
      have hd : upd H d (.lst (vI cs)) d = some (.lst (vI cs)) := upd_same
      generalize upd H d (.lst (vI cs)) = H1 at sd hd
      refine ⟨sz100 (by show 1 ≤ 100; decide), fun e ne => ?_⟩
      have se : Same H1 (upd H1 e (.lst [.int 0])) := same_new ne
      have he : upd H1 e (.lst [.int 0]) e = some (.lst [.int 0]) := upd_same
      generalize upd H1 e (.lst [.int 0]) = H2 at se he
      refine ⟨d, e, _, _, rfl, rfl, se _ _ hd, he, szM (by rw [vI_len, List.length_singleton]; omega), fun g ng => ?_⟩
      obtain ⟨n, hn⟩ := first_of cs
      have sg : Same H2 (upd H2 g (.lst (vI cs ++ [.int 0]))) := same_new ng
      refine ⟨g, _, 0, .int n, rfl, rfl, SqL.of upd_same, atI_nat (j := 0) hn, ?_⟩
      have s3 : Same H (upd H2 g (.lst (vI cs ++ [.int 0]))) := sd.trans (se.trans sg)
      generalize upd H2 g (.lst (vI cs ++ [.int 0])) = H3 at s3
      have h3 := h0.same s3
      -- bag[2] += 1
      refine ⟨.ref b, rfl, b, _, 2, .int s2, rfl, rfl, SqL.of h3.bag, by decide, rfl, s2, 1, rfl, rfl, b, _, 2, 2, rfl, rfl, h3.bag, rfl, ?_⟩
      have h4 : BagAt (upd H3 b (.lst ((bagV s0 s1 s2 c).set 2 (.int (s2 + 1))))) b s0 s1 (s2 + 1) c cells := h3.put s0 s1 (s2 + 1)
      have sb4 : SameB b H (upd H3 b (.lst ((bagV s0 s1 s2 c).set 2 (.int (s2 + 1))))) := (SameB.of s3).set
      generalize upd H3 b (.lst ((bagV s0 s1 s2 c).set 2 (.int (s2 + 1)))) = H4 at h4 sb4
      -- if cell >= 10 ** 18
      refine ⟨fun σ' H' => σ' = [some (.ref b), some (.int many), some (.int n), none, none, none, none] ∧ ∃ s0', SameB b H H' ∧ BagAt H' b s0' s1 (s2 + 1) c cells, ?_, fun σ' H' hM => ?_⟩
      · refine ⟨.int n, rfl, 10, 18, rfl, rfl, ⟨by decide, by decide, by decide⟩, n, _, rfl, rfl, _, rfl, ite2 (fun _ => ?_) (fun _ => ⟨rfl, s0, sb4, h4⟩)⟩
        exact ⟨.int n, rfl, .ref b, rfl, b, _, 0, 0, rfl, rfl, h4.bag, rfl, rfl, n, sb4.set, h4.put n s1 (s2 + 1)⟩
      · obtain ⟨rfl, s0', sb5, h5⟩ := hM
        refine ⟨.ref b, rfl, b, _, 1, .int s1, rfl, rfl, SqL.of h5.bag, atI_nat (j := 1) rfl, s1, 48271, rfl, rfl, .inr ⟨by decide, by decide⟩, .int n, rfl, .inl ⟨n, rfl, n, 2147483647, rfl, rfl, (by show (0 : Int) < 2147483647; decide), _, _, rfl, rfl,
          .ref b, rfl, b, _, 2, .int (s2 + 1), rfl, rfl, SqL.of h5.bag, atI_nat (j := 2) rfl, 7919, s2 + 1, rfl, rfl, .inl ⟨by decide, by decide⟩, _, _, rfl, rfl, ?_⟩⟩
        refine ⟨_, rfl, .inl ⟨_, rfl, _, 2147483647, rfl, rfl, (by show (0 : Int) < 2147483647; decide), .ref b, rfl, b, _, 1, 1, rfl, rfl, h5.bag, rfl, _, _, rfl, sb5.set, ?_⟩⟩
        exact (h5.put s0' _ (s2 + 1)).any
    · obtain ⟨y2, y3, rfl, sb, s0, s1, s2, cells, h⟩ := hM
      refine ⟨.ref b, rfl, b, _, 0, .int s0, rfl, rfl, SqL.of h.bag, atI_nat (j := 0) rfl, s0, 0, rfl, rfl, _, rfl, ite2 (fun _ => ?_) (fun _ => ?_)⟩
      · refine ⟨.ref b, rfl, b, _, 0, .int s0, rfl, rfl, SqL.of h.bag, atI_nat (j := 0) rfl, .inl ⟨s0, rfl, .int many, rfl, s0, many, rfl, rfl, hm0, ?_⟩⟩
        refine ⟨.ref b, rfl, b, _, 0, .int s0, rfl, rfl, SqL.of h.bag, atI_nat (j := 0) rfl, .inl ⟨s0, rfl, .int many, rfl, s0, many, rfl, rfl, ⟨hm0, hm1⟩, .ref b, rfl, b, _, 0, 0, rfl, rfl, h.bag, rfl, .int (s0 % many), rfl, ?_⟩⟩
        exact q _ _ sb.set (h.put (s0 / many) s1 s2).any (Int.emod_nonneg _ (by omega)) (Int.emod_lt_of_pos _ hm0)
      · refine ⟨.ref b, rfl, b, _, 1, .int s1, rfl, rfl, SqL.of h.bag, atI_nat (j := 1) rfl, s1, 1, rfl, rfl, s1 + 1, 39373, rfl, rfl, .inr ⟨by decide, by decide⟩, .inl ⟨_, rfl, _, 1000000007, rfl, rfl, (by show (0 : Int) < 1000000007; decide), ?_⟩⟩
        have b0 : 0 ≤ (s1 + 1) * 39373 % 1000000007 := Int.emod_nonneg _ (by decide)
        have b1 : (s1 + 1) * 39373 % 1000000007 < 1000000007 := Int.emod_lt_of_pos _ (by decide)
        refine ⟨_, rfl, _, rfl, _, _, rfl, rfl, .inl ⟨Int.lt_of_lt_of_le (by decide : -(2 ^ 64 : Int) < 0) b0, Int.lt_trans b1 (by decide)⟩, .inl ⟨_, rfl, _, 998244353, rfl, rfl, (by show (0 : Int) < 998244353; decide), _, 30011, rfl, rfl, .inr ⟨by decide, by decide⟩, .inl ⟨_, rfl, _, 998244353, rfl, rfl, (by show (0 : Int) < 998244353; decide), ?_⟩⟩⟩
        refine ⟨_, rfl, _, 7, rfl, rfl, ⟨by decide, by decide⟩, .inl ⟨_, rfl, .int many, rfl, _, many, rfl, rfl, hm0, ?_⟩⟩
        exact q _ _ sb h.any (Int.emod_nonneg _ (by omega)) (Int.emod_lt_of_pos _ hm0)
end
end K16

set_option Elab.async false
set_option linter.all false
set_option maxRecDepth 100000
set_option maxHeartbeats 4000000
namespace K16
open PySem PySem.Spec PyProof.Rows L2
section
variable {P : Program} {w : World} {K : PySem.W.Frag} {mg : Str → Option Value} {base : Heap}
/-! ### _law_some -/
def spSome : Sp := fun vs H Q _ => ∃ (b c l : Addr) (xs : List V), vs = [.ref b, .ref l] ∧ Bag H b c ∧ H l = some (.lst xs) ∧ xs ≠ [] ∧ xs.length ≤ 100 ∧ l ≠ b ∧ ∀ H' v, SameB b H H' → Bag H' b c → v ∈ xs → Q v H'
theorem ok_some {f fT : Addr} {fd fdT : FuncData} {k : Nat} (F : Fun K "_law_some" "_law_some" sSome f fd) (FT : Fun K "_law_take" "_law_take" sTake fT fdT) (bT : Binds K fdT ["_law_bag_here", "_law_many"] []) (gT : mg "_law_take" = some (.ref fT))
    (mi : mg "int" = none) (ml : mg "len" = none) : FnOk P w K mg base CX0 (k + 2) f fd ["_law_bag_here", "_law_things"] spSome := by
  have GT : FnOk P w K mg base CX0 (k + 1) fT fdT ["_law_bag_here", "_law_many"] spTake := ok_take FT mi
  refine F.ok scSome (fun vs H Q E h => ?_) (fun cdv A outer s H vs Q E hr h => ?_)
  · obtain ⟨b, c, l, xs, rfl, _⟩ := h
    rfl
  · obtain ⟨b, c, l, xs, rfl, hB, hl, hne, hlen, hlb, q⟩ := h
    refine ⟨_, pss_one (ps_ret (pe_ix ix_list (pv 1) (pe_call GT hr (by rfl) gT FT.kp bT .nil pass0 (pa_cons (pv 0) (pa_cons (pe_callB call_len_seq (by rfl) ml PySem.boot_len (pa_cons (pv 1) pa_nil)) pa_nil))) (fun _ _ => rfl))), ?_⟩
    have h0 : 0 < xs.length := List.length_pos_iff.mpr hne
    refine ⟨.ref l, rfl, .ref b, rfl, .ref l, rfl, l, xs, rfl, .inl (SqL.of hl), b, c, (xs.length : Int), rfl, hB, by omega, by omega, fun H' v sb hB' v0 v1 => ?_⟩
    have hlt : v.toNat < xs.length := by omega
    have ev : v = (v.toNat : Int) := by omega
    exact ⟨l, xs, v, xs[v.toNat], rfl, rfl, SqL.of (sb _ _ hlb hl), at_of ev (List.getElem?_eq_getElem hlt), q _ _ sb hB' (List.getElem_mem hlt)⟩
/-! ### _law_shades -/
def spShades : Sp := fun vs H Q _ => ∃ b c : Addr, vs = [.ref b] ∧ Bag H b c ∧ ∀ H' v, SameB b H H' → Bag H' b c → Q v H'
theorem ok_shades {f fS fT : Addr} {fd fdS fdT : FuncData} {k : Nat} (F : Fun K "_law_shades" "_law_shades" sShades f fd) (FS : Fun K "_law_some" "_law_some" sSome fS fdS) (bS : Binds K fdS ["_law_bag_here", "_law_things"] []) (gS : mg "_law_some" = some (.ref fS))
    (FT : Fun K "_law_take" "_law_take" sTake fT fdT) (bT : Binds K fdT ["_law_bag_here", "_law_many"] []) (gT : mg "_law_take" = some (.ref fT)) (mi : mg "int" = none) (ml : mg "len" = none) (mr : mg "range" = none) (mt : mg "tuple" = none) :
    FnOk P w K mg base CX0 (k + 3) f fd ["_law_bag_here"] spShades := by
  have GS : FnOk P w K mg base CX0 (k + 2) fS fdS ["_law_bag_here", "_law_things"] spSome := ok_some FS FT bT gT mi ml
  refine F.ok scShades (fun vs H Q E h => ?_) (fun cdv A outer s H vs Q E hr h => ?_)
  · obtain ⟨b, c, rfl, _⟩ := h
    rfl
  · obtain ⟨b, c, rfl, hB, q⟩ := h
    refine ⟨_, pss_cons (ps_set (i := 1) scShades.nd rfl (.inr rfl) (pe_lst (pa_cons pe_str (pa_cons pe_str (pa_cons pe_str (pa_cons pe_str (pa_cons (pe_op op_rep_n pe_str pe_int) (pa_cons pe_str pa_nil))))))))
      (pss_cons (ps_set (i := 2) scShades.nd rfl (.inl rfl) (pe_callTy call_tuple_of (by rfl) mt (by decide +kernel) (pa_cons
        (pe_lc (own := [("_law_turn", 3)]) (g := gName 3) rfl scShades.nd (pi_range1 (by rfl) mr (pa_cons (pe_call GS hr (by rfl) gS FS.kp bS .nil pass0 (pa_cons (pv 0) (pa_cons (pe_lst (pa_cons pe_int (pa_cons pe_int (pa_cons pe_int (pa_cons pe_int (pa_cons pe_int pa_nil)))))) pa_nil))) pa_nil))
          (blkOk_by (N := ["_law_bag_here", "_law_names", "_law_some_here", "_law_turn"]) (sc := defScope sShades) (by decide +kernel))
          (fun _ _ _ _ _ => pg_name (i := 3) scShades.nd rfl (Or.inl rfl) (Or.inr rfl)) (fun _ _ _ _ _ => pts_nil)
          (fun _ _ _ _ _ => pe_call GS hr (by rfl) gS FS.kp bS .nil pass0 (pa_cons (pv 0) (pa_cons (pv 1) pa_nil)))) pa_nil)))
      (pss_one (ps_ret (pe_op op_repO (pv 2) (pe_call GS hr (by rfl) gS FS.kp bS .nil pass0 (pa_cons (pv 0) (pa_cons (pe_lst (pa_cons pe_int (pa_cons pe_int (pa_cons pe_int (pa_cons pe_int pa_nil))))) pa_nil))))))), ?_⟩
    refine ⟨rfl, rfl, fun z => ⟨sz100 (by show 6 ≤ 100; decide), fun nl nnl => ?_⟩⟩
    have nb1 := hB.off nnl
    have hx : ∃ xs : List V, xs ≠ [] ∧ xs.length ≤ 100 ∧ [V.str (("red" : Str)), .str (("blue" : Str)), .str (("dark" : Str)), .str (("gold" : Str)), .str z, .str (("w" : Str))] = xs := ⟨_, List.cons_ne_nil _ _, by show 6 ≤ 100; decide, rfl⟩
    obtain ⟨xs, xne, xlen, ex⟩ := hx
    have s1 : Same H (upd H nl (.lst xs)) := same_new nnl
    have hnl : upd H nl (.lst xs) nl = some (.lst xs) := upd_same
    rw [← ex] at s1 hnl
    generalize upd H nl (.lst [V.str (("red" : Str)), .str (("blue" : Str)), .str (("dark" : Str)), .str (("gold" : Str)), .str z, .str (("w" : Str))]) = H1 at s1 hnl
    rw [ex] at hnl
    have hB1 := hB.same s1
    refine ⟨.ref b, rfl, sz100 (by show 5 ≤ 100; decide), fun l5 n5 => ?_⟩
    have s2 : Same H1 (upd H1 l5 (.lst (vI [1, 2, 1, 3, 4]))) := same_new n5
    have h5 : upd H1 l5 (.lst (vI [1, 2, 1, 3, 4])) l5 = some (.lst (vI [1, 2, 1, 3, 4])) := upd_same
    have hB2 := hB1.same s2
    refine ⟨b, c, l5, vI [1, 2, 1, 3, 4], rfl, hB2, h5, (by intro z; cases z), by decide, (hB1.off n5).1, fun H2 v sb2 hB2' hv => ?_⟩
    have sbH2 : SameB b H H2 := (SameB.of (s1.trans s2)).trans sb2
    have hnl2 : H2 nl = some (.lst xs) := sb2 _ _ nb1.1 (s2 _ _ hnl)
    obtain ⟨n, hn, rfl⟩ := mem_vI hv
    have hn' : 1 ≤ n ∧ n ≤ 4 := by
      simp only [List.mem_cons, List.not_mem_nil, or_false] at hn
      omega
    refine ⟨n, rfl, by omega, by omega, fun D nD => ?_⟩
    have hDo := hB2'.off nD
    have nDnl : nl ≠ D := ne_of_none hnl2 nD
    refine lc_it (walk_range (lo := 0) (n := n.toNat)) (fun j H3 => SameB b H2 H3 ∧ Bag H3 b c ∧ ∃ acc, H3 D = some (.lst acc) ∧ acc.length = j) ⟨SameB.of (same_new nD), hB2'.mut hDo, [], upd_same, rfl⟩ (fun _ _ _ _ => trivial) (fun j v H3 H4 hj h hy => ?_) (fun H3 h => ?_)
    · obtain ⟨s3, hB3, acc, hD, hacc⟩ := h
      obtain ⟨rfl, _⟩ := hy
      refine ⟨rfl, .ref b, rfl, .ref nl, rfl, b, c, nl, xs, rfl, hB3, s3 _ _ nb1.1 hnl2, xne, xlen, nb1.1, fun H5 u sb5 hB5 _ => ?_⟩
      refine ⟨acc, sb5 _ _ hDo.1 hD, sl100 (by omega), (s3.trans sb5).mut nD, hB5.mut hDo, acc ++ [u], upd_same, ?_⟩
      rw [List.length_append, List.length_singleton, hacc]
    · obtain ⟨s3, hB3, acc, hD, hacc⟩ := h
      have hne : acc ≠ [] := fun e => by
        rw [e] at hacc
        have h0 : 0 = n.toNat := hacc
        omega
      refine ⟨D, acc, rfl, .inl ⟨SqL.of hD, fun t nt => ?_⟩⟩
      have st : Same H3 (upd H3 t (.tup acc)) := same_new nt
      have ht : upd H3 t (.tup acc) t = some (.tup acc) := upd_same
      have hB4 := hB3.same st
      have to := hB3.off nt
      generalize upd H3 t (.tup acc) = H4 at st ht hB4
      have sbH4 : SameB b H H4 := (sbH2.trans s3).trans (SameB.of st)
      -- return _law_some_here * _law_some(..)
      refine ⟨.ref t, rfl, .ref b, rfl, sz100 (by show 4 ≤ 100; decide), fun l4 n4 => ?_⟩
      have s5 : Same H4 (upd H4 l4 (.lst (vI [1, 1, 2, 3]))) := same_new n4
      have h4 : upd H4 l4 (.lst (vI [1, 1, 2, 3])) l4 = some (.lst (vI [1, 1, 2, 3])) := upd_same
      refine ⟨b, c, l4, vI [1, 1, 2, 3], rfl, hB4.same s5, h4, (by intro z; cases z), by decide, (hB4.off n4).1, fun H5 u sb5 hB5 hu => ?_⟩
      obtain ⟨m, hm, rfl⟩ := mem_vI hu
      have hm' : 1 ≤ m ∧ m ≤ 3 := by
        simp only [List.mem_cons, List.not_mem_nil, or_false] at hm
        omega
      have sbH5 : SameB b H H5 := (sbH4.trans (SameB.of s5)).trans sb5
      refine ⟨t, m, acc, rfl, rfl, SqT.of (sb5 _ _ to.1 (s5 _ _ ht)), hne, by omega, by omega, by omega, q _ _ sbH5 hB5, fun p ys np => ?_⟩
      exact q _ _ (sbH5.trans (SameB.of (same_new np))) (hB5.same (same_new np))
/-! ### _law_close_picture -/
def spClose : Sp := fun vs H Q _ => ∃ b c : Addr, vs = [.ref b] ∧ Bag H b c ∧ ∀ H' p ls, SameB b H H' → Bag H' b c → Pic H' p ls → ls.length < 64 → (ls.map xz).Nodup → (xsOf ls).Pairwise (· ≤ ·) →
  (∀ l ∈ ls, -20 ≤ l.x ∧ l.x < 40 ∧ 0 ≤ l.z ∧ l.z < 9) → Q (.ref p) H'
theorem bag_tup {H H' : Hp} {b c a : Addr} {xs : List V} (x : Bag H b c) (e : SameB b H H') (h : H a = some (.tup xs)) : H' a = some (.tup xs) := by
  obtain ⟨ys, hb⟩ := x.lst
  exact e _ _ (tup_ne h hb) h
theorem ok_close {f fH fA fS fT : Addr} {fd fdH fdA fdS fdT : FuncData} {k : Nat} (F : Fun K "_law_close_picture" "_law_close_picture" sClose f fd) (FH : Fun K "_law_shades" "_law_shades" sShades fH fdH) (bH : Binds K fdH ["_law_bag_here"] []) (gH : mg "_law_shades" = some (.ref fH))
    (FA : Fun K "_law_shape" "_law_shape" sShape fA fdA) (bA : Binds K fdA ["_law_points"] []) (gA : mg "_law_shape" = some (.ref fA))
    (FS : Fun K "_law_some" "_law_some" sSome fS fdS) (bS : Binds K fdS ["_law_bag_here", "_law_things"] []) (gS : mg "_law_some" = some (.ref fS))
    (FT : Fun K "_law_take" "_law_take" sTake fT fdT) (bT : Binds K fdT ["_law_bag_here", "_law_many"] []) (gT : mg "_law_take" = some (.ref fT))
    (mi : mg "int" = none) (ml : mg "len" = none) (mr : mg "range" = none) (mt : mg "tuple" = none) (ms : mg "sorted" = none) (mset : mg "set" = none) :
    FnOk P w K mg base CX0 (k + 4) f fd ["_law_bag_here"] spClose := by
  have GH : FnOk P w K mg base CX0 (k + 3) fH fdH ["_law_bag_here"] spShades := ok_shades FH FS bS gS FT bT gT mi ml mr mt
  have GS : FnOk P w K mg base CX0 (k + 2) fS fdS ["_law_bag_here", "_law_things"] spSome := ok_some FS FT bT gT mi ml
  have GT : FnOk P w K mg base CX0 (k + 1) fT fdT ["_law_bag_here", "_law_many"] spTake := ok_take FT mi
  have GA : FnOk P w K mg base CX0 (k + 1) fA fdA ["_law_points"] spDots := ok_shape FA mt ms mset
  refine F.ok scClose (fun vs H Q E h => ?_) (fun cdv A outer s H vs Q E hr h => ?_)
  · obtain ⟨b, c, rfl, _⟩ := h
    rfl
  · obtain ⟨b, c, rfl, hB, q⟩ := h
    have r2 : Room (k + 2) (A.deeper (envOfC "_law_close_picture" (defScope sClose) s.heap.objs.size f cdv)) := hr.mono (by omega)
    have r1 : Room (k + 1) (A.deeper (envOfC "_law_close_picture" (defScope sClose) s.heap.objs.size f cdv)) := hr.mono (by omega)
    refine ⟨_, pss_cons (ps_set (i := 1) scClose.nd rfl (.inr rfl) (pe_call GS r2 (by rfl) gS FS.kp bS .nil pass0 (pa_cons (pv 0) (pa_cons (pe_lst (pa_cons pe_int (pa_cons pe_int (pa_cons pe_int (pa_cons pe_int pa_nil))))) pa_nil))))
      (pss_cons (ps_setLc (i := 2) (own := [("_law_turn", 4)]) (g := gName 4) rfl scClose.nd rfl rfl (sw_true rfl rfl rfl (by decide +kernel))
          (pi_range1 (by rfl) mr (pa_cons (pe_call GS r2 (by rfl) gS FS.kp bS .nil pass0 (pa_cons (pv 0) (pa_cons (pe_lst (pa_cons pe_int (pa_cons pe_int (pa_cons pe_int (pa_cons pe_int (pa_cons pe_int pa_nil)))))) pa_nil))) pa_nil))
          (blkOk_by (N := nClose) (sc := defScope sClose) (by decide +kernel))
          (fun _ _ _ _ _ => pg_name (i := 4) scClose.nd rfl (Or.inl rfl) (Or.inr rfl)) (fun _ _ _ _ _ => pts_nil)
          (fun _ _ _ _ _ => pe_tup (pa_cons (pe_call GT r1 (by rfl) gT FT.kp bT .nil pass0 (pa_cons (pv 0) (pa_cons (pv 1) pa_nil))) (pa_cons (pe_call GT r1 (by rfl) gT FT.kp bT .nil pass0 (pa_cons (pv 0) (pa_cons pe_int pa_nil))) pa_nil))))
      (pss_cons (ps_setLc (i := 3) (own := [("_law_x", 5), ("_law_z", 6)]) (g := gTup K 2 (gCons (gName 5) (gCons (gName 6) gNil))) rfl scClose.nd rfl rfl (sw_true rfl rfl rfl (by decide +kernel))
          (pi_tup (pe_call GA r1 (by rfl) gA FA.kp bA .nil pass0 (pa_cons (pv 2) pa_nil)))
          (blkOk_by (N := nClose) (sc := defScope sClose) (by decide +kernel))
          (fun _ _ _ _ _ => pg_tup rfl (pgs_cons (pg_name (i := 5) scClose.nd rfl (Or.inl rfl) (Or.inr rfl)) (pgs_cons (pg_name (i := 6) scClose.nd rfl (Or.inl rfl) (Or.inr rfl)) pgs_nil))) (fun _ _ _ _ _ => pts_nil)
          (fun _ _ _ _ _ => pe_tup (pa_cons (pe_op op_sub (pv 5) (pe_op op_fdiv (pv 1) pe_int)) (pa_cons (pv 6) (pa_cons (pe_call GH hr (by rfl) gH FH.kp bH .nil pass0 (pa_cons (pv 0) pa_nil))
            (pa_cons (pe_call GS r2 (by rfl) gS FS.kp bS .nil pass0 (pa_cons (pv 0) (pa_cons (pe_lst (pa_cons pe_int (pa_cons pe_int (pa_cons pe_int (pa_cons pe_int (pa_cons pe_int pa_nil)))))) pa_nil))) pa_nil))))))
      (pss_one (ps_ret (pe_callTy call_tuple_of (by rfl) mt (by decide +kernel) (pa_cons (pv 3) pa_nil)))))), ?_⟩
    -- _law_wide
    refine ⟨.ref b, rfl, sz100 (by show 4 ≤ 100; decide), fun l4 n4 => ?_⟩
    have s1 : Same H (upd H l4 (.lst (vI [6, 3, 12, 40]))) := same_new n4
    refine ⟨b, c, l4, vI [6, 3, 12, 40], rfl, hB.same s1, upd_same, (by intro z; cases z), by decide, (hB.off n4).1, fun H1 v sb1 hB1 hv => ?_⟩
    obtain ⟨wd, hwd, rfl⟩ := mem_vI hv
    have hwd' : wd = 6 ∨ wd = 3 ∨ wd = 12 ∨ wd = 40 := by
      simpa only [List.mem_cons, List.not_mem_nil, or_false] using hwd
    have sbH1 : SameB b H H1 := (SameB.of s1).trans sb1
    -- _law_dots
    refine ⟨.ref b, rfl, sz100 (by show 5 ≤ 100; decide), fun l5 n5 => ?_⟩
    have s2 : Same H1 (upd H1 l5 (.lst (vI [9, 4, 14, 0, 1]))) := same_new n5
    refine ⟨b, c, l5, vI [9, 4, 14, 0, 1], rfl, hB1.same s2, upd_same, (by intro z; cases z), by decide, (hB1.off n5).1, fun H2 v sb2 hB2 hv => ?_⟩
    obtain ⟨n, hn, rfl⟩ := mem_vI hv
    have hn' : 0 ≤ n ∧ n ≤ 14 := by
      simp only [List.mem_cons, List.not_mem_nil, or_false] at hn
      omega
    have sbH2 : SameB b H H2 := (sbH1.trans (SameB.of s2)).trans sb2
    refine ⟨n, rfl, by omega, by omega, fun D nD => ?_⟩
    have hDo := hB2.off nD
    refine lc_it (walk_range (lo := 0) (n := n.toNat)) (fun j H3 => SameB b H2 H3 ∧ Bag H3 b c ∧ ∃ L : List (Addr × List Int), H3 D = some (.lst (refsOf L)) ∧ PairsAt H3 L ∧ (∀ q ∈ L, ∃ x z, q.2 = [x, z] ∧ 0 ≤ x ∧ x < wd ∧ 0 ≤ z ∧ z < 9) ∧ L.length = j)
      ⟨SameB.of (same_new nD), hB2.mut hDo, [], upd_same, fun q' hq' => (by cases hq'), fun q' hq' => (by cases hq'), rfl⟩ (fun _ _ _ _ => trivial) (fun j v H3 H4 hj h hy => ?_) (fun H3 h => ?_)
    · obtain ⟨s3, hB3, L, hD, hL, hLb, hLl⟩ := h
      obtain ⟨rfl, _⟩ := hy
      refine ⟨rfl, .ref b, rfl, .int wd, rfl, b, c, wd, rfl, hB3, by omega, by omega, fun H5 x sb5 hB5 x0 x1 => ?_⟩
      refine ⟨.ref b, rfl, b, c, 9, rfl, hB5, by decide, by decide, fun H6 z sb6 hB6 z0 z1 => ?_⟩
      refine ⟨sz100 (by show 2 ≤ 100; decide), fun d nd => ?_⟩
      have sd : Same H6 (upd H6 d (.tup [.int x, .int z])) := same_new nd
      have hd : upd H6 d (.tup [.int x, .int z]) d = some (.tup ([x, z].map V.int)) := upd_same
      have hB7 := hB6.same sd
      generalize upd H6 d (.tup [.int x, .int z]) = H7 at sd hd hB7
      have sb47 : SameB b H4 H7 := (sb5.trans sb6).trans (SameB.of sd)
      have hD7 := sb47 _ _ hDo.1 hD
      refine ⟨_, hD7, sl100 (by rw [refsOf_len]; omega), (s3.trans sb47).mut nD, hB7.mut hDo, L ++ [(d, [x, z])], ?_, fun q' hq' => ?_, fun q' hq' => ?_, ?_⟩
      · rw [upd_same, refsOf_append]
        rfl
      · have h7 : H7 q'.1 = some (.tup (q'.2.map V.int)) := by
          rcases List.mem_append.mp hq' with u | u
          · exact bag_tup hB3 sb47 (hL q' u)
          · rw [List.mem_singleton.mp u]
            exact hd
        rw [upd_ne (tup_ne h7 hD7)]
        exact h7
      · rcases List.mem_append.mp hq' with u | u
        · exact hLb q' u
        · rw [List.mem_singleton.mp u]
          exact ⟨x, z, rfl, x0, x1, z0, z1⟩
      · rw [List.length_append, List.length_singleton, hLl]
    · obtain ⟨s3, hB3, L, hD, hL, hLb, hLl⟩ := h
      have sbH3 : SameB b H H3 := sbH2.trans s3
      -- _law_lamps
      refine ⟨.ref D, rfl, D, L, 9, rfl, hD, hL, fun q' hq' => ?_, by omega, fun H4 t L' s4 hT sub all nd l64 pw => ?_⟩
      · obtain ⟨x, z, e, _, _, z0, z1⟩ := hLb q' hq'
        exact ⟨x, z, e, z0, z1⟩
      have hB4 := hB3.same s4
      have hL' : PairsAt H4 L' := fun q' hq' => s4 _ _ (hL q' (sub q' hq'))
      refine ⟨t, rfl, ⟨_, SqT.of hT⟩, fun D2 nD2 => ?_⟩
      have hD2o := hB4.off nD2
      refine lc_it (walk_tup (K := K) (a := t) (xs := refsOf L')) (fun j H5 => SameB b H4 H5 ∧ Bag H5 b c ∧ ∃ ls : List Lamp, H5 D2 = some (.lst (refL ls)) ∧ (∀ l ∈ ls, H5 l.a = some (.tup l.tup)) ∧ ls.map (fun l => [l.x + wd / 2, l.z]) = (L'.take j).map (·.2))
        ⟨SameB.of (same_new nD2), hB4.mut hD2o, [], upd_same, fun l hl => (by cases hl), rfl⟩ (fun j H5 _ h => SqT.of (bag_tup hB4 h.1 hT)) (fun j v H5 H6 hj h hy => ?_) (fun H5 h => ?_)
      · obtain ⟨s5, hB5, ls, hD2, hls, els⟩ := h
        obtain ⟨rfl, hv⟩ := hy
        rw [refsOf_len] at hj
        have hq : L'[j]? = some L'[j] := List.getElem?_eq_getElem hj
        generalize L'[j] = qd at hq
        have ev : v = .ref qd.1 := Option.some.inj (hv.symm.trans (refsOf_at hq))
        subst ev
        have hqm := List.mem_of_getElem? hq
        obtain ⟨x, z, eq, x0, x1, z0, z1⟩ := hLb qd (sub qd hqm)
        have hdot : H6 qd.1 = some (.tup [.int x, .int z]) := by
          have h1 := bag_tup hB4 s5 (hL' qd hqm)
          rw [eq] at h1
          exact h1
        have hll : ls.length ≤ 64 := by
          have e := congrArg List.length els
          rw [List.length_map, List.length_map, List.length_take] at e
          omega
        refine ⟨qd.1, [.int x, .int z], rfl, SqT.of hdot, rfl, .int x, [.int z], rfl, .int z, [], rfl, rfl, rfl, ?_⟩
        refine ⟨.int x, rfl, .int wd, rfl, wd, 2, rfl, rfl, ⟨by decide, by decide⟩, x, wd / 2, rfl, rfl, .int z, rfl, .ref b, rfl, b, c, rfl, hB5, fun H7 sh sb7 hB7 => ?_⟩
        refine ⟨.ref b, rfl, sz100 (by show 5 ≤ 100; decide), fun l6 n6 => ?_⟩
        have s8 : Same H7 (upd H7 l6 (.lst (vI [1, 1, 0, 3, 2]))) := same_new n6
        refine ⟨b, c, l6, vI [1, 1, 0, 3, 2], rfl, hB7.same s8, upd_same, (by intro z; cases z), by decide, (hB7.off n6).1, fun H9 wv sb9 hB9 _ => ?_⟩
        refine ⟨sz100 (by show 4 ≤ 100; decide), fun o no => ?_⟩
        have so : Same H9 (upd H9 o (.tup [.int (x - wd / 2), .int z, sh, wv])) := same_new no
        have ho : upd H9 o (.tup [.int (x - wd / 2), .int z, sh, wv]) o = some (.tup (Lamp.tup ⟨o, x - wd / 2, z, sh, wv⟩)) := upd_same
        have hB10 := hB9.same so
        generalize upd H9 o (.tup [.int (x - wd / 2), .int z, sh, wv]) = H10 at so ho hB10
        have sb610 : SameB b H6 H10 := ((sb7.trans (SameB.of s8)).trans sb9).trans (SameB.of so)
        have hD10 := sb610 _ _ hD2o.1 hD2
        refine ⟨_, hD10, sl100 (by rw [refL_len]; omega), (s5.trans sb610).mut nD2, hB10.mut hD2o, ls ++ [⟨o, x - wd / 2, z, sh, wv⟩], ?_, fun l hl => ?_, ?_⟩
        · rw [upd_same]
          unfold refL
          rw [List.map_append]
          rfl
        · have h10 : H10 l.a = some (.tup l.tup) := by
            rcases List.mem_append.mp hl with u | u
            · exact bag_tup hB5 sb610 (hls l u)
            · rw [List.mem_singleton.mp u]
              exact ho
          rw [upd_ne (tup_ne h10 hD10)]
          exact h10
        · rw [List.map_append, els, List.take_add_one, hq, List.map_append]
          show _ ++ [[x - wd / 2 + wd / 2, z]] = _ ++ [qd.2]
          rw [eq, show x - wd / 2 + wd / 2 = x by omega]
      · obtain ⟨s5, hB5, ls, hD2, hls, els⟩ := h
        rw [refsOf_len, List.take_length] at els
        have bd : ∀ l ∈ ls, 0 ≤ l.x + wd / 2 ∧ l.x + wd / 2 < wd ∧ 0 ≤ l.z ∧ l.z < 9 := fun l hl => by
          have hm : [l.x + wd / 2, l.z] ∈ L'.map (·.2) := by
            rw [← els]
            exact List.mem_map.mpr ⟨l, hl, rfl⟩
          obtain ⟨q', hq', e⟩ := List.mem_map.mp hm
          obtain ⟨x, z, e2, x0, x1, z0, z1⟩ := hLb q' (sub q' hq')
          have e3 : [x, z] = [l.x + wd / 2, l.z] := e2.symm.trans e
          injection e3 with e4 e5
          injection e5 with e6 _
          rw [← e4, ← e6]
          exact ⟨x0, x1, z0, z1⟩
        have hll : ls.length = L'.length := by
          have e := congrArg List.length els
          rw [List.length_map, List.length_map] at e
          exact e
        refine ⟨.ref D2, rfl, D2, _, rfl, .inl ⟨SqL.of hD2, fun p np => ?_⟩⟩
        have sp : Same H5 (upd H5 p (.tup (refL ls))) := same_new np
        refine q _ p ls (((sbH3.trans (SameB.of s4)).trans s5).trans (SameB.of sp)) (hB5.same sp) ⟨upd_same, fun l hl => sp _ _ (hls l hl)⟩ (by omega) ?_ ?_ (fun l hl => ?_)
        · rw [← els] at nd
          have h1 := List.pairwise_map.mp nd
          refine List.pairwise_map.mpr (List.Pairwise.imp (fun {a c} hne e => hne ?_) h1)
          unfold xz at e
          injection e with e1 e2
          rw [e1, e2]
        · have h1 : (L'.map (·.2)).Pairwise (fun a c => rk 9 a ≤ rk 9 c) := List.pairwise_map.mpr pw
          rw [← els, List.pairwise_map] at h1
          unfold xsOf
          rw [List.pairwise_map]
          refine List.Pairwise.imp_of_mem (fun {a c} ha hc hle => ?_) h1
          have := rk_first (bd a ha).2.2.1 (bd a ha).2.2.2 (bd c hc).2.2.1 (bd c hc).2.2.2 hle
          omega
        · have := bd l hl
          omega
end
end K16

set_option Elab.async false
set_option linter.all false
set_option maxRecDepth 100000
set_option maxHeartbeats 8000000
namespace K16
open PySem PySem.Spec PyProof.Rows L2
/-- an expression with what is known of its value -/
def tMidE (t : TE) : TE := fun σ H Q => ∃ M : V → Hp → Prop, t σ H M ∧ ∀ v H', M v H' → Q v H'
theorem pe_mid {X : Cx} {e : Expr} {t : TE} (h : PE X e t) : PE X e (tMidE t) := by
  refine ⟨fun pins s σ H Q I q => ?_⟩
  obtain ⟨M, h1, h2⟩ := q
  exact thn (h.run pins s σ H M I h1) fun v s' ⟨x, H', I', r, m⟩ => ⟨x, H', I', r, h2 x H' m⟩
/-! ### what the law asks, of the numbers -/
structure Good (ls : List Lamp) : Prop where
  nd : (ls.map xz).Nodup
  srt : (xsOf ls).Pairwise (· ≤ ·)
  bd : ∀ l ∈ ls, -20 ≤ l.x ∧ l.x < 40 ∧ 0 ≤ l.z ∧ l.z < 9
theorem xsOf_take (ls : List Lamp) (n : Nat) : xsOf (ls.take n) = (xsOf ls).take n := List.map_take
theorem xsOf_drop (ls : List Lamp) (n : Nat) : xsOf (ls.drop n) = (xsOf ls).drop n := List.map_drop
theorem xsOf_append (a b : List Lamp) : xsOf (a ++ b) = xsOf a ++ xsOf b := List.map_append
theorem refL_take (ls : List Lamp) (n : Nat) : refL (ls.take n) = (refL ls).take n := List.map_take
theorem refL_drop (ls : List Lamp) (n : Nat) : refL (ls.drop n) = (refL ls).drop n := List.map_drop
theorem refL_append (a b : List Lamp) : refL (a ++ b) = refL a ++ refL b := List.map_append
theorem Good.take {ls : List Lamp} (g : Good ls) (n : Nat) : Good (ls.take n) := by
  refine ⟨?_, ?_, fun l hl => g.bd l (List.mem_of_mem_take hl)⟩
  · rw [List.map_take]
    exact List.Pairwise.sublist (List.take_sublist _ _) g.nd
  · rw [xsOf_take]
    exact List.Pairwise.sublist (List.take_sublist _ _) g.srt
theorem without_sublist {α : Type} (l : List α) (k : Nat) : (l.take k ++ l.drop (k + 1)).Sublist l := by
  have h := (List.Sublist.refl (l.take k)).append (show (l.drop (k + 1)).Sublist (l.drop k) by rw [← List.drop_drop]; exact List.drop_sublist _ _)
  rw [List.take_append_drop] at h
  exact h
theorem sort_without {ls : List Lamp} (g : Good ls) (k : Nat) : (xsOf (ls.take k ++ ls.drop (k + 1))).Pairwise (· ≤ ·) := by
  rw [xsOf_append, xsOf_take, xsOf_drop]
  exact g.srt.sublist (without_sublist _ _)
theorem less_bounds {s : Int} {ls : List Lamp} {n m : Nat} (a : IsW s (xsOf ls) n) (k : Nat) (b : IsW s (xsOf (ls.take k ++ ls.drop (k + 1))) m) : n ≤ m + 1 ∧ m ≤ n := by
  rw [xsOf_append, xsOf_take, xsOf_drop] at b
  obtain ⟨t, ht⟩ := a.hit
  obtain ⟨u, hu⟩ := b.hit
  have h1 := (cnt_without s (xsOf ls) k t).2
  have h2 := (cnt_without s (xsOf ls) k u).1
  have h3 := b.top t
  have h4 := a.top u
  omega
theorem wider_bound {s : Int} {xs : List Int} {n m : Nat} (a : IsW s xs n) (b : IsW (s + 1) xs m) : n ≤ m := a.mono b fun t => ⟨t, cnt_wider (by omega) xs t⟩
/-- a picture's addresses are a tuple's -/
theorem pic_of {H : Hp} {p : Addr} {ls ms : List Lamp} (h : H p = some (.tup (refL ms))) (x : ∀ l ∈ ls, H l.a = some (.tup l.tup)) (sub : ∀ l ∈ ms, l ∈ ls) : Pic H p ms := ⟨h, fun l hl => x l (sub l hl)⟩
theorem take_whole {ls : List Lamp} {n : Nat} (h : HT.sIx (refL ls).length (refL ls).length (some (n : Int)) = (refL ls).length) : ls.take n = ls := by
  rw [HT.sIx_nat, refL_len] at h
  exact List.take_of_length_le (by omega)
section
variable {P : Program} {w : World} {K : PySem.W.Frag} {mg : Str → Option Value} {base : Heap}
def spLaw (K : PySem.W.Frag) : Sp := fun vs H Q _ => ∃ (a : Addr) (ns : List Int), vs = [.ref a] ∧ SqL K H a (ns.map V.int) ∧ ns.length ≤ 63 ∧ ∀ H', Q (.bl true) H'
theorem law_ok {f fBag fClose fSome fTake fRows fMany fHas fMovL fMirL fMost : Addr} {fd dBag dClose dSome dTake dRows dMany dHas dMovL dMirL dMost : FuncData} (F : Fun K "law" "law" sLaw f fd)
    (FBag : Fun K "_law_bag" "_law_bag" sBag fBag dBag) (GBag : FnOk P w K mg base CX0 4 fBag dBag ["_law_script"] (spBag K)) (bBag : Binds K dBag ["_law_script"] []) (gBag : mg "_law_bag" = some (.ref fBag))
    (FClose : Fun K "_law_close_picture" "_law_close_picture" sClose fClose dClose) (GClose : FnOk P w K mg base CX0 4 fClose dClose ["_law_bag_here"] spClose) (bClose : Binds K dClose ["_law_bag_here"] []) (gClose : mg "_law_close_picture" = some (.ref fClose))
    (FSome : Fun K "_law_some" "_law_some" sSome fSome dSome) (GSome : FnOk P w K mg base CX0 4 fSome dSome ["_law_bag_here", "_law_things"] spSome) (bSome : Binds K dSome ["_law_bag_here", "_law_things"] []) (gSome : mg "_law_some" = some (.ref fSome))
    (FTake : Fun K "_law_take" "_law_take" sTake fTake dTake) (GTake : FnOk P w K mg base CX0 4 fTake dTake ["_law_bag_here", "_law_many"] spTake) (bTake : Binds K dTake ["_law_bag_here", "_law_many"] []) (gTake : mg "_law_take" = some (.ref fTake))
    (FRows : Fun K "rows_of" "rows_of" sRows fRows dRows) (GRows : FnOk P w K mg base CX0 4 fRows dRows ["picture", "spacing"] spRows) (bRows : Binds K dRows ["picture", "spacing"] []) (gRows : mg "rows_of" = some (.ref fRows))
    (FMany : Fun K "rows_many" "rows_many" sMany fMany dMany) (GMany : FnOk P w K mg base CX0 4 fMany dMany ["rows"] spMany) (bMany : Binds K dMany ["rows"] []) (gMany : mg "rows_many" = some (.ref fMany))
    (FHas : Fun K "_law_has_rows" "_law_has_rows" sHas fHas dHas) (GHas : FnOk P w K mg base CX0 4 fHas dHas ["_law_picture", "_law_spacing", "_law_many"] spHas) (bHas : Binds K dHas ["_law_picture", "_law_spacing", "_law_many"] []) (gHas : mg "_law_has_rows" = some (.ref fHas))
    (FMovL : Fun K "moved_lamps" "moved_lamps" sMovedL fMovL dMovL) (GMovL : FnOk P w K mg base CX0 4 fMovL dMovL ["picture", "x", "z"] spMovedL) (bMovL : Binds K dMovL ["picture", "x", "z"] []) (gMovL : mg "moved_lamps" = some (.ref fMovL))
    (FMirL : Fun K "mirrored_lamps" "mirrored_lamps" sMirrL fMirL dMirL) (GMirL : FnOk P w K mg base CX0 4 fMirL dMirL ["picture", "x"] spMirrL) (bMirL : Binds K dMirL ["picture", "x"] []) (gMirL : mg "mirrored_lamps" = some (.ref fMirL))
    (FMost : Fun K "most_abreast" "most_abreast" sMost fMost dMost) (GMost : FnOk P w K mg base CX0 4 fMost dMost ["picture", "spacing"] spMost) (bMost : Binds K dMost ["picture", "spacing"] []) (gMost : mg "most_abreast" = some (.ref fMost))
    (ml : mg "len" = none) (mr : mg "range" = none) (mt : mg "tuple" = none) (mm : mg "max" = none) : FnOk P w K mg base CX0 5 f fd ["_law_script"] (spLaw K) := by
  refine F.ok scLaw (fun vs H Q E h => ?_) (fun cdv A outer s H vs Q E hr h => ?_)
  · obtain ⟨a, ns, rfl, _⟩ := h
    rfl
  · obtain ⟨a, ns, rfl, hS, hlen, q⟩ := h
    refine ⟨_, pss_cons (ps_set (i := 1) scLaw.nd rfl (.inl rfl) (pe_call GBag hr (by rfl) gBag FBag.kp bBag .nil pass0 (pa_cons (pv 0) pa_nil)))
      (pss_cons (ps_for PassesOwn.never rfl (pi_range1 (by rfl) mr (pa_cons pe_int pa_nil)) (pg_name (i := 2) scLaw.nd rfl (.inl rfl))
        (pss_cons (ps_par (i := 3) (j := 4) rfl scLaw.nd rfl rfl (by decide) rfl rfl (pa_cons
            (pe_mid (pe_slice sl_tupA (pe_call GClose hr (by rfl) gClose FClose.kp bClose .nil pass0 (pa_cons (pv 1) pa_nil)) po_none (po_some pe_int)))
            (pa_cons (pe_call GSome hr (by rfl) gSome FSome.kp bSome .nil pass0 (pa_cons (pv 1) (pa_cons (pe_lst (pa_cons pe_int (pa_cons pe_int (pa_cons pe_int (pa_cons pe_int pa_nil))))) pa_nil))) pa_nil)) (by rfl))
        (pss_cons (ps_set (i := 5) scLaw.nd rfl (.inl rfl) (pe_call GMany hr (by rfl) gMany FMany.kp bMany .nil pass0 (pa_cons (pe_call GRows hr (by rfl) gRows FRows.kp bRows .nil pass0 (pa_cons (pv 3) (pa_cons (pv 4) pa_nil))) pa_nil)))
        (pss_cons (ps_mid (ps_if (PW.pt (pw_or (pt_not (pt_val (pe_call GHas hr (by rfl) gHas FHas.kp bHas .nil pass0 (pa_cons (pv 3) (pa_cons (pv 4) (pa_cons (pv 5) pa_nil))))))
            (pw_or1 (PW.pt (pw_and (pt_cmpR op_gt (pv 5) pe_int (nomark _)) (pw_and1 (pt_val (pe_call GHas hr (by rfl) gHas FHas.kp bHas .nil pass0 (pa_cons (pv 3) (pa_cons (pv 4) (pa_cons (pe_op op_sub (pv 5) pe_int) pa_nil)))))))))))
            (pss_one (ps_ret pe_bl)) pss_nil))
        (pss_cons (ps_set (i := 6) scLaw.nd rfl (.inl rfl) (pe_call GTake hr (by rfl) gTake FTake.kp bTake .nil pass0 (pa_cons (pv 1) (pa_cons (pe_op op_add (pe_callB call_len_seq (by rfl) ml PySem.boot_len (pa_cons (pv 3) pa_nil)) pe_int) pa_nil))))
        (pss_cons (ps_set (i := 7) scLaw.nd rfl (.inl rfl) (pe_call GMany hr (by rfl) gMany FMany.kp bMany .nil pass0 (pa_cons (pe_call GRows hr (by rfl) gRows FRows.kp bRows .nil pass0 (pa_cons
            (pe_mid (pe_op op_catA (pe_mid (pe_slice sl_tupA (pv 3) po_none (po_some (pv 6)))) (pe_mid (pe_slice sl_tupA (pv 3) (po_some (pe_op op_add (pv 6) pe_int)) po_none)))) (pa_cons (pv 4) pa_nil))) pa_nil)))
        (pss_cons (ps_if (PW.pt (pw_or (pt_not (pt_chain op_le op_le (pe_op op_sub (pv 5) pe_int) (pv 7) (pv 5)))
            (pw_or1 (pt_cmpR op_lt (pe_call GMany hr (by rfl) gMany FMany.kp bMany .nil pass0 (pa_cons (pe_call GRows hr (by rfl) gRows FRows.kp bRows .nil pass0 (pa_cons (pv 3) (pa_cons (pe_op op_add (pv 4) pe_int) pa_nil))) pa_nil)) (pv 5) (nomark _)))))
            (pss_one (ps_ret pe_bl)) pss_nil)
        (pss_cons (ps_par (i := 8) (j := 9) rfl scLaw.nd rfl rfl (by decide) rfl rfl (pa_cons (pe_op op_sub (pe_call GTake hr (by rfl) gTake FTake.kp bTake .nil pass0 (pa_cons (pv 1) (pa_cons pe_int pa_nil))) pe_int)
            (pa_cons (pe_op op_sub (pe_call GTake hr (by rfl) gTake FTake.kp bTake .nil pass0 (pa_cons (pv 1) (pa_cons pe_int pa_nil))) pe_int) pa_nil)) (by rfl))
        (pss_cons (ps_set (i := 10) scLaw.nd rfl (.inl rfl) (pe_lst (pa_cons (pe_call GMovL hr (by rfl) gMovL FMovL.kp bMovL .nil pass0 (pa_cons (pv 3) (pa_cons (pv 8) (pa_cons (pv 9) pa_nil)))) (pa_cons (pe_call GMirL hr (by rfl) gMirL FMirL.kp bMirL .nil pass0 (pa_cons (pv 3) (pa_cons (pv 8) pa_nil))) pa_nil))))
        (pss_cons (ps_for PassesOwn.never rfl (pi_list (pv 10)) (pg_name (i := 11) scLaw.nd rfl (.inl rfl))
          (pss_one (ps_if (PW.pt (pw_or (pt_cmpR op_ne (pe_call GMany hr (by rfl) gMany FMany.kp bMany .nil pass0 (pa_cons (pe_call GRows hr (by rfl) gRows FRows.kp bRows .nil pass0 (pa_cons (pv 11) (pa_cons (pv 4) pa_nil))) pa_nil)) (pv 5) (nomark _))
              (pw_or1 (pt_cmpR op_ne (pe_ix ix_tup (pe_call GMost hr (by rfl) gMost FMost.kp bMost .nil pass0 (pa_cons (pv 11) (pa_cons (pv 4) pa_nil))) pe_int (fun _ _ => rfl)) (pv 5) (nomark _)))))
            (pss_one (ps_ret pe_bl)) pss_nil)))
        (pss_cons (ps_set (i := 12) scLaw.nd rfl (.inl rfl) (pe_callTy call_tuple_of (by rfl) mt (by decide +kernel) (pa_cons
            (pe_lc (own := [("_law_lamp", 14)]) (g := gName 14) (te := tOp (rCatT K) (tTup (tCons (tOp (rI0 fun i j => .int (i + j)) (tOp (rIxT K) (tVar 14) (tC (.int 0))) (tC (.int 1000))) tNil)) (tSl (rSlT K) (tVar 14) (tPart (tC (.int 1))) tNoPart)) rfl scLaw.nd
              (pi_tup (pe_mid (pe_slice sl_tupA (pe_call GClose hr (by rfl) gClose FClose.kp bClose .nil pass0 (pa_cons (pv 1) pa_nil)) po_none (po_some pe_int))))
              (blkOk_by (N := nLaw) (sc := defScope sLaw) (by decide +kernel))
              (fun _ _ _ _ _ => pg_name (i := 14) scLaw.nd rfl (Or.inl rfl) (Or.inr rfl)) (fun _ _ _ _ _ => pts_nil)
              (fun _ _ _ _ _ => pe_op op_catT (pe_tup (pa_cons (pe_op op_add (pe_ix ix_tup (pv 14) pe_int (fun _ _ => rfl)) pe_int) pa_nil)) (pe_slice sl_tup (pv 14) (po_some pe_int) po_none))) pa_nil)))
        (pss_cons (ps_set (i := 13) scLaw.nd rfl (.inl rfl) (pe_call GMany hr (by rfl) gMany FMany.kp bMany .nil pass0 (pa_cons (pe_call GRows hr (by rfl) gRows FRows.kp bRows .nil pass0 (pa_cons (pe_mid (pe_op op_catA (pv 3) (pv 12))) (pa_cons (pv 4) pa_nil))) pa_nil)))
        (pss_one (ps_if (pt_cmpR op_ne (pv 13) (pe_callB (call_max2 rfl) (by rfl) mm (by decide +kernel) (pa_cons (pv 5) (pa_cons (pe_call GMany hr (by rfl) gMany FMany.kp bMany .nil pass0 (pa_cons (pe_call GRows hr (by rfl) gRows FRows.kp bRows .nil pass0 (pa_cons (pv 12) (pa_cons (pv 4) pa_nil))) pa_nil)) pa_nil))) (nomark _))
            (pss_one (ps_ret pe_bl)) pss_nil))))))))))))))
      (pss_one (ps_ret pe_bl))), ?_⟩
    -- _law_bag_here = _law_bag(_law_script)
    refine ⟨.ref a, rfl, a, ns, rfl, hS, hlen, fun H0 b c s0 nb hB0 => ?_⟩
    refine ⟨5, rfl, by decide, by decide, for_it (walk_range (lo := 0) (n := (5 : Int).toNat)) (fun i σ H1 => ∃ y2 y3 y4 y5 y6 y7 y8 y9 y10 y11 y12 y13, σ = [some (.ref a), some (.ref b), y2, y3, y4, y5, y6, y7, y8, y9, y10, y11, y12, y13, none] ∧ Bag H1 b c)
      ⟨none, none, none, none, none, none, none, none, none, none, none, none, rfl, hB0⟩ (fun _ _ _ _ _ => trivial) (fun i v σ H1 H2 hi h hy => ?_) (fun σ H1 h => q H1)⟩
    obtain ⟨y2, y3, y4, y5, y6, y7, y8, y9, y10, y11, y12, y13, rfl, hB⟩ := h
    obtain ⟨rfl, _⟩ := hy
    -- _law_picture, _law_spacing
    refine ⟨fun u H' => ∃ p ls, u = .ref p ∧ Bag H' b c ∧ Pic H' p ls ∧ ls.length ≤ 7 ∧ Good ls, ?_, fun u H3 hM => ?_⟩
    · refine ⟨.ref b, rfl, b, c, rfl, hB, fun H3 p ls sb3 hB3 hP l64 nd srt bd => ⟨7, rfl, p, refL ls, rfl, SqT.of hP.tup, fun hw => ?_, fun _ p' np => ?_⟩⟩
      · have e : ls.take 7 = ls := take_whole hw.2
        refine ⟨p, ls, rfl, hB3, hP, ?_, nd, srt, bd⟩
        have e2 := congrArg List.length e
        rw [List.length_take] at e2
        omega
      · have e : cutV (refL ls) none (some ((7 : Nat) : Int)) = refL (ls.take 7) := by rw [cut_hi, refL_take]
        refine ⟨p', ls.take 7, rfl, hB3.same (same_new np), pic_of (ls := ls) (by rw [upd_same]; exact congrArg (fun x => some (HO.tup x)) e) (fun l hl => same_new np _ _ (hP.lamp l hl)) fun l hl => List.mem_of_mem_take hl, ?_, Good.take ⟨nd, srt, bd⟩ 7⟩
        rw [List.length_take]
        omega
    obtain ⟨p, ls, rfl, hB3, hP3, hl7, hG⟩ := hM
    refine ⟨.ref b, rfl, sz100 (by show 4 ≤ 100; decide), fun l4 n4 => ?_⟩
    have s3 : Same H3 (upd H3 l4 (.lst (vI [2, 1, 3, 4]))) := same_new n4
    refine ⟨b, c, l4, vI [2, 1, 3, 4], rfl, hB3.same s3, upd_same, (by intro z; cases z), by decide, (hB3.off n4).1, fun H4 u sb4 hB4 hu => ?_⟩
    obtain ⟨sp, hsp, rfl⟩ := mem_vI hu
    have hsp' : 1 ≤ sp ∧ sp ≤ 4 := by
      simp only [List.mem_cons, List.not_mem_nil, or_false] at hsp
      omega
    have hP4 : Pic H4 p ls := (hP3.same s3).bag (hB3.same s3) sb4
    refine ⟨.ref p, .int sp, rfl, ?_⟩
    -- _law_many
    refine ⟨.ref p, rfl, .int sp, rfl, p, ls, sp, rfl, hP4, by omega, fun H5 t5 s5 nt5 hT5 => ⟨t5, sp, xsOf ls, rfl, hT5, by omega, hG.srt, by rw [xsOf_len]; omega, fun H6 n s6 iw hrl => ?_⟩⟩
    have hB6 := (hB4.same s5).same s6
    have hP6 := (hP4.same s5).same s6
    have hn7 : n ≤ 7 := by
      have h := iw.le_length
      rw [xsOf_len] at h
      omega
    -- if not _law_has_rows(..) or ..
    refine ⟨fun σ' H' => σ' = [some (.ref a), some (.ref b), some v, some (.ref p), some (.int sp), some (.int (n : Int)), y6, y7, y8, y9, y10, y11, y12, y13, none] ∧ Same H6 H', ?_, fun σ' H7 hM => ?_⟩
    · refine ⟨.ref p, rfl, .int sp, rfl, .int (n : Int), rfl, p, ls, sp, n, rfl, hP6, by omega, by omega, fun H7 r s7 hr7 => ⟨r, rfl, ?_⟩⟩
      have hr : r = true := hr7.mpr ⟨_, ff_sol (by omega) hrl⟩
      subst hr
      refine iteF ?_
      refine ⟨.int (n : Int), rfl, (n : Int), 0, rfl, rfl, _, rfl, ite2 (fun c0 => ?_) (fun c0 => ?_)⟩
      · have c1 : (0 : Int) < (n : Int) := of_decide_eq_true c0
        refine ⟨.ref p, rfl, .int sp, rfl, .int (n : Int), rfl, (n : Int), 1, rfl, rfl, p, ls, sp, n - 1, ?_, hP6.same s7, by omega, by omega, fun H8 r2 s8 hr8 => ⟨r2, rfl, ?_⟩⟩
        · rw [show ((n - 1 : Nat) : Int) = (n : Int) - 1 by omega]
          rfl
        · have hr2 : r2 = false := by
            cases r2 with
            | false => rfl
            | true => exact absurd (hr8.mp rfl) (no_sol iw (by omega))
          subst hr2
          exact iteF ⟨rfl, s7.trans s8⟩
      · exact iteF ⟨rfl, s7⟩
    obtain ⟨rfl, s7⟩ := hM
    have hB7 := hB6.same s7
    have hP7 := hP6.same s7
    -- _law_at
    refine ⟨.ref b, rfl, .ref p, rfl, p, refL ls, rfl, .inr (SqT.of hP7.tup), ((refL ls).length : Int), 1, rfl, rfl, b, c, ((refL ls).length : Int) + 1, rfl, hB7, by omega, by rw [refL_len]; omega, fun H8 av sb8 hB8 a0 a1 => ?_⟩
    obtain ⟨at', rfl⟩ : ∃ k : Nat, av = (k : Int) := ⟨av.toNat, by omega⟩
    have hP8 := hP7.bag hB7 sb8
    -- _law_less
    refine ⟨fun u H' => ∃ d, u = .ref d ∧ Same H8 H' ∧ H' d = some (.tup (refL (ls.take at' ++ ls.drop (at' + 1)))), ?_, fun u H9 hM => ?_⟩
    · refine ⟨fun u H' => ∃ d, u = .ref d ∧ Same H8 H' ∧ H' d = some (.tup (refL (ls.take at'))), ?_, fun u H9 hM => ?_⟩
      · refine ⟨.ref p, rfl, .int (at' : Int), rfl, (at' : Int), rfl, p, refL ls, rfl, SqT.of hP8.tup, fun hw => ?_, fun _ d nd => ?_⟩
        · exact ⟨p, rfl, Same.refl _, by rw [take_whole hw.2]; exact hP8.tup⟩
        · exact ⟨d, rfl, same_new nd, by rw [upd_same, cut_hi, refL_take]⟩
      · obtain ⟨d1, rfl, s9, hd1⟩ := hM
        refine ⟨fun u H' => ∃ d, u = .ref d ∧ Same H9 H' ∧ H' d = some (.tup (refL (ls.drop (at' + 1)))), ?_, fun u H10 hM => ?_⟩
        · refine ⟨.ref p, rfl, .int (at' : Int), rfl, (at' : Int), 1, rfl, rfl, ((at' + 1 : Nat) : Int), rfl, p, refL ls, rfl, SqT.of (s9 _ _ hP8.tup), fun hw => ?_, fun _ d nd => ?_⟩
          · have e0 : min (at' + 1) (refL ls).length = 0 := by
              have h1 := hw.1
              rw [HT.sIx_nat] at h1
              exact h1
            have e1 : ls = [] := List.eq_nil_of_length_eq_zero (by rw [refL_len] at e0; omega)
            refine ⟨p, rfl, Same.refl _, ?_⟩
            have h1 := s9 _ _ hP8.tup
            rw [e1] at h1 ⊢
            exact h1
          · exact ⟨d, rfl, same_new nd, by rw [upd_same, cut_any_lo, refL_drop]⟩
        · obtain ⟨d2, rfl, s10, hd2⟩ := hM
          have hd1' := s10 _ _ hd1
          refine ⟨d1, d2, _, _, rfl, rfl, SqT.of hd1', SqT.of hd2, szM ?_, fun e => ?_, fun _ e => ?_, fun _ _ d nd => ?_⟩
          · rw [refL_len, refL_len, List.length_take, List.length_drop]
            omega
          · exact ⟨d2, rfl, s9.trans s10, by rw [refL_append, e]; exact hd2⟩
          · exact ⟨d1, rfl, s9.trans s10, by rw [refL_append, e, List.append_nil]; exact hd1'⟩
          · exact ⟨d, rfl, (s9.trans s10).trans (same_new nd), by rw [upd_same, refL_append]⟩
    obtain ⟨d, rfl, s9, hd9⟩ := hM
    have hP9 : Pic H9 d (ls.take at' ++ ls.drop (at' + 1)) := pic_of hd9 (hP8.same s9).lamp fun l hl => (without_sublist ls at').mem hl
    have hdl : (ls.take at' ++ ls.drop (at' + 1)).length ≤ 7 := Nat.le_trans (without_sublist ls at').length_le hl7
    refine ⟨.int sp, rfl, d, _, sp, rfl, hP9, by omega, fun H10 t10 s10 nt10 hT10 => ⟨t10, sp, xsOf (ls.take at' ++ ls.drop (at' + 1)), rfl, hT10, by omega, sort_without hG at', by rw [xsOf_len]; omega, fun H11 m s11 iwm hrm => ?_⟩⟩
    obtain ⟨hm1, hm2⟩ := less_bounds iw at' iwm
    have s811 : Same H8 H11 := s9.trans (s10.trans s11)
    have hP11 := hP8.same s811
    have hB11 := hB8.same s811
    -- if not _law_many - 1 <= _law_less <= _law_many or ..
    refine ⟨.int (n : Int), rfl, (n : Int), 1, rfl, rfl, .int (m : Int), rfl, (n : Int) - 1, (m : Int), rfl, rfl, true, congrArg V.bl (decide_eq_true (by omega)), iteT ?_⟩
    refine ⟨.int (n : Int), rfl, (m : Int), (n : Int), rfl, rfl, true, congrArg V.bl (decide_eq_true (by omega)), iteF ?_⟩
    refine ⟨.ref p, rfl, .int sp, rfl, sp, 1, rfl, rfl, p, ls, sp + 1, rfl, hP11, by omega, fun H12 t12 s12 nt12 hT12 => ⟨t12, sp + 1, xsOf ls, rfl, hT12, by omega, hG.srt, by rw [xsOf_len]; omega, fun H13 n2 s13 iw2 hrl2 => ?_⟩⟩
    have hn2 := wider_bound iw iw2
    refine ⟨.int (n : Int), rfl, (n2 : Int), (n : Int), rfl, rfl, false, congrArg V.bl (decide_eq_false (by omega)), iteF ?_⟩
    have s1113 : Same H11 H13 := s12.trans s13
    have hP13 := hP11.same s1113
    have hB13 := hB11.same s1113
    -- _law_x, _law_z
    refine ⟨.ref b, rfl, b, c, 99, rfl, hB13, by decide, by decide, fun H14 x0 sb14 hB14 _ _ => ⟨x0, 50, rfl, rfl, .ref b, rfl, b, c, 99, rfl, hB14, by decide, by decide, fun H15 z0 sb15 hB15 _ _ => ⟨z0, 50, rfl, rfl, .int (x0 - 50), .int (z0 - 50), rfl, ?_⟩⟩⟩
    have hP15 := (hP13.bag hB13 sb14).bag hB14 sb15
    -- _law_others
    refine ⟨.ref p, rfl, .int (x0 - 50), rfl, .int (z0 - 50), rfl, p, ls, x0 - 50, z0 - 50, rfl, hP15, by omega, fun H16 t1 ls1 s16 hP1 ex1 => ?_⟩
    refine ⟨.ref p, rfl, .int (x0 - 50), rfl, p, ls, x0 - 50, 9, rfl, hP15.same s16, by omega, hG.nd, fun l hl => ⟨(hG.bd l hl).2.2.1, (hG.bd l hl).2.2.2⟩, fun H17 t2 ls2 s17 hP2 pm2 srt2 => ?_⟩
    have hl1 : ls1.length = ls.length := by
      have e := congrArg List.length ex1
      rw [List.length_map, xsOf_len, xsOf_len] at e
      exact e
    have hl2 : ls2.length = ls.length := by
      have e := pm2.length_eq
      rw [List.length_map, xsOf_len, xsOf_len] at e
      exact e
    have iw1 : IsW sp (xsOf ls1) n := by
      rw [ex1]
      exact isW_moved iw
    have srt1 : (xsOf ls1).Pairwise (· ≤ ·) := by
      rw [ex1]
      exact List.pairwise_map.mpr (hG.srt.imp fun {a c} h => by omega)
    have iw2' : IsW sp (xsOf ls2) n := isW_perm pm2.symm (isW_mirrored iw)
    refine ⟨sz100 (by show 2 ≤ 100; decide), fun lo nlo => ?_⟩
    have s18 : Same H17 (upd H17 lo (.lst [.ref t1, .ref t2])) := same_new nlo
    have hlo : upd H17 lo (.lst [.ref t1, .ref t2]) lo = some (.lst [.ref t1, .ref t2]) := upd_same
    generalize upd H17 lo (.lst [.ref t1, .ref t2]) = H18 at s18 hlo
    have hP1' : Pic H18 t1 ls1 := (hP1.same s17).same s18
    have hP2' : Pic H18 t2 ls2 := hP2.same s18
    have hB18 := ((hB15.same s16).same s17).same s18
    have hP18 := ((hP15.same s16).same s17).same s18
    -- for _law_one in _law_others
    refine ⟨.ref lo, rfl, lo, rfl, ⟨_, SqL.of hlo⟩, for_it (walk_list (K := K) (a := lo) (xs := [V.ref t1, V.ref t2]))
      (fun i σ' H' => ∃ y, σ' = [some (.ref a), some (.ref b), some v, some (.ref p), some (.int sp), some (.int (n : Int)), some (.int (at' : Int)), some (.int (m : Int)), some (.int (x0 - 50)), some (.int (z0 - 50)), some (.ref lo), y, y12, y13, none] ∧ Same H18 H')
      ⟨y11, rfl, Same.refl _⟩ (fun i σ' H' _ h => ?_) (fun i u σ' H19 H20 hi h hy => ?_) (fun σ' H19 h => ?_)⟩
    · obtain ⟨y, _, sm⟩ := h
      exact SqL.of (sm _ _ hlo)
    · obtain ⟨y, rfl, s19⟩ := h
      obtain ⟨rfl, hu⟩ := hy
      have hti : ∃ ti lsi, u = .ref ti ∧ Pic H18 ti lsi ∧ IsW sp (xsOf lsi) n ∧ (xsOf lsi).Pairwise (· ≤ ·) ∧ lsi.length ≤ 7 := by
        have hi' : i = 0 ∨ i = 1 := by
          have : i < 2 := hi
          omega
        rcases hi' with e | e
        · subst e
          exact ⟨t1, ls1, (Option.some.inj hu).symm, hP1', iw1, srt1, by omega⟩
        · subst e
          exact ⟨t2, ls2, (Option.some.inj hu).symm, hP2', iw2', srt2, by omega⟩
      obtain ⟨ti, lsi, rfl, hPi, iwi, srti, hli⟩ := hti
      have hPi' := hPi.same s19
      refine ⟨.ref ti, rfl, .int sp, rfl, ti, lsi, sp, rfl, hPi', by omega, fun H21 t21 s21 nt21 hT21 => ⟨t21, sp, xsOf lsi, rfl, hT21, by omega, srti, by rw [xsOf_len]; omega, fun H22 n3 s22 iw3 _ => ?_⟩⟩
      have e3 : n3 = n := iw3.uniq iwi
      refine ⟨.int (n : Int), rfl, rfl, false, congrArg V.bl (by rw [e3, decide_eq_true rfl]; rfl), iteF ?_⟩
      have s2022 := s21.trans s22
      refine ⟨.ref ti, rfl, .int sp, rfl, ti, lsi, sp, rfl, hPi'.same s2022, by omega, fun H23 t23 n4 v4 s23 hT23 iw4 => ?_⟩
      have e4 : n4 = n := iw4.uniq iwi
      exact ⟨t23, _, 0, .int (n4 : Int), rfl, rfl, SqT.of hT23, atI_nat (j := 0) rfl, .int (n : Int), rfl, rfl, false, congrArg V.bl (by rw [e4, decide_eq_true rfl]; rfl), iteF ⟨_, rfl, s19.trans (s2022.trans s23)⟩⟩
    obtain ⟨y, rfl, s19⟩ := h
    have hB19 := hB18.same s19
    have hP19 := hP18.same s19
    -- _law_other
    refine ⟨fun u H' => ∃ p2 lsq, u = .ref p2 ∧ SameB b H19 H' ∧ Bag H' b c ∧ Pic H' p2 lsq ∧ lsq.length ≤ 7 ∧ Good lsq, ?_, fun u H20 hM => ?_⟩
    · refine ⟨.ref b, rfl, b, c, rfl, hB19, fun H20 p2 lsq sb20 hB20 hP2 l64 nd srt bd => ⟨7, rfl, p2, refL lsq, rfl, SqT.of hP2.tup, fun hw => ?_, fun _ p' np => ?_⟩⟩
      · have e : lsq.take 7 = lsq := take_whole hw.2
        refine ⟨p2, lsq, rfl, sb20, hB20, hP2, ?_, nd, srt, bd⟩
        have e2 := congrArg List.length e
        rw [List.length_take] at e2
        omega
      · have e : cutV (refL lsq) none (some ((7 : Nat) : Int)) = refL (lsq.take 7) := by rw [cut_hi, refL_take]
        refine ⟨p', lsq.take 7, rfl, sb20.trans (SameB.of (same_new np)), hB20.same (same_new np), pic_of (ls := lsq) (by rw [upd_same]; exact congrArg (fun x => some (HO.tup x)) e) (fun l hl => same_new np _ _ (hP2.lamp l hl)) fun l hl => List.mem_of_mem_take hl, ?_, Good.take ⟨nd, srt, bd⟩ 7⟩
        rw [List.length_take]
        omega
    obtain ⟨p2, lsq, rfl, sb20, hB20, hQ20, hq7, hGq⟩ := hM
    have hP20 := hP19.bag hB19 sb20
    refine ⟨p2, rfl, ⟨_, SqT.of hQ20.tup⟩, fun D nD => ?_⟩
    refine lc_it (walk_tup (K := K) (a := p2) (xs := refL lsq)) (fun j H21 => Same H20 H21 ∧ ∃ L : List Lamp, H21 D = some (.lst (refL L)) ∧ (∀ l ∈ L, H21 l.a = some (.tup l.tup)) ∧ L.map (·.x) = ((lsq.take j).map fun l => l.x + 1000))
      ⟨same_new nD, [], upd_same, fun l hl => (by cases hl), rfl⟩ (fun j H21 _ h => SqT.of (h.1 _ _ hQ20.tup)) (fun j u H21 H22 hj h hy => ?_) (fun H21 h => ?_)
    · obtain ⟨s21, L, hD, hL, eL⟩ := h
      obtain ⟨rfl, hu⟩ := hy
      rw [refL_len] at hj
      obtain ⟨l, hl⟩ := lamp_at hj
      have eu : u = .ref l.a := Option.some.inj (hu.symm.trans (refL_at hl))
      subst eu
      have hlamp : H22 l.a = some (.tup l.tup) := s21 _ _ (hQ20.at hl)
      refine ⟨rfl, .ref l.a, rfl, l.a, l.tup, 0, .int l.x, rfl, rfl, SqT.of hlamp, atI_nat (j := 0) rfl, l.x, 1000, rfl, rfl, sz100 (by show 1 ≤ 100; decide), fun d1 nd1 => ?_⟩
      have s23 : Same H22 (upd H22 d1 (.tup [.int (l.x + 1000)])) := same_new nd1
      have hd1 : upd H22 d1 (.tup [.int (l.x + 1000)]) d1 = some (.tup [.int (l.x + 1000)]) := upd_same
      generalize upd H22 d1 (.tup [.int (l.x + 1000)]) = H23 at s23 hd1
      refine ⟨.ref l.a, rfl, 1, rfl, l.a, l.tup, rfl, SqT.of (s23 _ _ hlamp), fun z => absurd z.1 (show ¬ HT.sIx 4 0 (some 1) = 0 by decide), fun d2 nd2 => ?_⟩
      have s24 : Same H23 (upd H23 d2 (.tup (cutV l.tup (some 1) none))) := same_new nd2
      have hd2 : upd H23 d2 (.tup (cutV l.tup (some 1) none)) d2 = some (.tup [.int l.z, l.sh, l.wt]) := upd_same
      generalize upd H23 d2 (.tup (cutV l.tup (some 1) none)) = H24 at s24 hd2
      refine ⟨d1, d2, _, _, rfl, rfl, SqT.of (s24 _ _ hd1), SqT.of hd2, List.cons_ne_nil _ _, sz100 (by show 4 ≤ 100; decide), fun e => (by cases e), fun _ o no => ?_⟩
      have so : Same H24 (upd H24 o (.tup ([.int (l.x + 1000)] ++ [.int l.z, l.sh, l.wt]))) := same_new no
      have hlL : L.length ≤ 100 := by
        have e := congrArg List.length eL
        rw [List.length_map, List.length_map, List.length_take] at e
        omega
      have s2224 : Same H22 (upd H24 o (.tup ([.int (l.x + 1000)] ++ [.int l.z, l.sh, l.wt]))) := s23.trans (s24.trans so)
      obtain ⟨acc, a1, a2, a3, a4, a5⟩ := lamp_app (H := H20) (H3 := H22) (d := D) (H4 := upd H24 o (.tup ([.int (l.x + 1000)] ++ [.int l.z, l.sh, l.wt]))) (D := D) (L := L) (o := ⟨o, l.x + 1000, l.z, l.sh, l.wt⟩) nD (s21.trans s2224) (s2224 _ _ hD) (fun l' hl' => s2224 _ _ (hL l' hl')) upd_same hlL
      refine ⟨acc, a1, a2, a3, _, a4, a5, ?_⟩
      rw [List.map_append, eL, List.take_add_one, hl, List.map_append]
      rfl
    · obtain ⟨s21, L, hD, hL, eL⟩ := h
      rw [refL_len, List.take_length] at eL
      have exL : xsOf L = (xsOf lsq).map fun x => x + 1000 := by
        unfold xsOf
        rw [eL, List.map_map]
        rfl
      have hLl : L.length = lsq.length := by
        have e := congrArg List.length eL
        rw [List.length_map, List.length_map] at e
        exact e
      refine ⟨D, _, rfl, .inl ⟨SqL.of hD, fun po npo => ?_⟩⟩
      have s22 : Same H21 (upd H21 po (.tup (refL L))) := same_new npo
      have hPo : Pic (upd H21 po (.tup (refL L))) po L := ⟨upd_same, fun l hl => s22 _ _ (hL l hl)⟩
      generalize upd H21 po (.tup (refL L)) = H22 at s22 hPo
      have s2022 := s21.trans s22
      have hP22 := hP20.same s2022
      have hB22 := hB20.same s2022
      have srtL : (xsOf L).Pairwise (· ≤ ·) := by
        rw [exL]
        exact List.pairwise_map.mpr (hGq.srt.imp fun {a c} h => by omega)
      have far : ∀ x ∈ xsOf ls, ∀ y ∈ xsOf L, sp ≤ y - x ∧ x ≤ y := fun x hx y hy => by
        obtain ⟨l, hl, e1⟩ := List.mem_map.mp hx
        rw [exL] at hy
        obtain ⟨y', hy', e2⟩ := List.mem_map.mp hy
        obtain ⟨l', hl', e3⟩ := List.mem_map.mp hy'
        have h1 := hG.bd l hl
        have h2 := hGq.bd l' hl'
        omega
      have srtB : (xsOf (ls ++ L)).Pairwise (· ≤ ·) := by
        rw [xsOf_append]
        exact List.pairwise_append.mpr ⟨hG.srt, srtL, fun x hx y hy => (far x hx y hy).2⟩
      -- _law_both
      refine ⟨fun u H' => ∃ d, u = .ref d ∧ Same H22 H' ∧ H' d = some (.tup (refL (ls ++ L))), ?_, fun u H23 hM => ?_⟩
      · refine ⟨.ref p, rfl, .ref po, rfl, p, po, refL ls, refL L, rfl, rfl, SqT.of hP22.tup, SqT.of hPo.tup, szM (by rw [refL_len, refL_len]; omega), fun e => ?_, fun _ e => ?_, fun _ _ d nd => ?_⟩
        · exact ⟨po, rfl, Same.refl _, by rw [refL_append, e]; exact hPo.tup⟩
        · exact ⟨p, rfl, Same.refl _, by rw [refL_append, e, List.append_nil]; exact hP22.tup⟩
        · exact ⟨d, rfl, same_new nd, by rw [upd_same, refL_append]⟩
      obtain ⟨d, rfl, s23, hd⟩ := hM
      have hPb : Pic H23 d (ls ++ L) := ⟨hd, fun l hl => by
        rcases List.mem_append.mp hl with u | u
        · exact s23 _ _ (hP22.lamp l u)
        · exact s23 _ _ (hPo.lamp l u)⟩
      refine ⟨.int sp, rfl, d, ls ++ L, sp, rfl, hPb, by rw [List.length_append]; omega, fun H24 t24 s24 nt24 hT24 => ⟨t24, sp, xsOf (ls ++ L), rfl, hT24, by omega, srtB, by rw [xsOf_len, List.length_append]; omega, fun H25 nb s25 iwb _ => ?_⟩⟩
      have s2225 := s23.trans (s24.trans s25)
      have hPo' := hPo.same s2225
      -- if _law_both != max(..)
      refine ⟨.int (nb : Int), rfl, .int (n : Int), rfl, .ref po, rfl, .int sp, rfl, po, L, sp, rfl, hPo', by omega, fun H26 t26 s26 nt26 hT26 => ⟨t26, sp, xsOf L, rfl, hT26, by omega, srtL, by rw [xsOf_len]; omega, fun H27 n5 s27 iw5 _ => ?_⟩⟩
      have eb : nb = max n n5 := by
        rw [xsOf_append] at iwb
        exact iwb.uniq (isW_apart (fun x hx y hy => (far x hx y hy).1) iw iw5)
      have ev : (nb : Int) = if (n5 : Int) > (n : Int) then (n5 : Int) else (n : Int) := by
        rw [eb]
        split <;> omega
      refine ⟨(n : Int), (n5 : Int), rfl, rfl, false, congrArg V.bl (by rw [← ev, decide_eq_true rfl]; rfl), iteF ?_⟩
      exact ⟨_, _, _, _, _, _, _, _, _, _, _, _, rfl, (hB22.same s2225).same (s26.trans s27)⟩
end
end K16

set_option Elab.async false
set_option linter.all false
set_option maxRecDepth 100000
set_option maxHeartbeats 8000000
namespace K16
open PySem PySem.Spec PyProof.Rows L2
theorem all_mk {l : PySem.W.OpenLaw} {w : World} {K : PySem.W.Frag} {h : Heap} {mg : Str → Option Value} {fa f1 f2 f3 f4 f5 f6 f7 f8 f9 f10 f11 f12 f13 f14 f15 f16 f17 : Addr} {tkM : Tok} (X : K.In h) (G : h.Ns mainGlobals mg) (hfa : mg "law" = some (.ref fa))
    {od1 an1 od2 an2 od3 an3 od4 an4 od5 an5 od6 an6 od7 an7 od8 an8 od9 an9 od10 an10 od11 an11 od12 an12 od13 an13 od14 an14 od15 an15 od16 an16 od17 an17 : Option Addr} {sl1 sl2 sl3 sl4 sl5 sl6 sl7 sl8 sl9 sl10 sl11 sl12 sl13 sl14 sl15 sl16 sl17 : Array (Option Value)} {oc1 kV1 dc1 pm1 cd1 ct1 oc2 kV2 dc2 pm2 cd2 ct2 oc3 kV3 dc3 pm3 cd3 ct3 oc4 kV4 dc4 pm4 cd4 ct4 oc5 kV5 dc5 pm5 cd5 ct5 oc6 kV6 dc6 pm6 cd6 ct6 oc7 kV7 dc7 pm7 cd7 ct7 oc8 kV8 dc8 pm8 cd8 ct8 oc9 kV9 dc9 pm9 cd9 ct9 oc10 kV10 dc10 pm10 cd10 ct10 oc11 kV11 dc11 pm11 cd11 ct11 oc12 kV12 dc12 pm12 cd12 ct12 oc13 kV13 dc13 pm13 cd13 ct13 oc14 kV14 dc14 pm14 cd14 ct14 oc15 kV15 dc15 pm15 cd15 ct15 oc16 kV16 dc16 pm16 cd16 ct16 oc17 kV17 dc17 pm17 cd17 ct17 : Value}
    (a1 : PySem.W.nsIn K mainGlobals "rows_of" = some (some (.ref f1))) (l1 : K.lookup f1 = some ⟨oc1, od1, .func (PySem.W.fnOf "rows_of" "rows_of" (defArgs sRows) (defBody sRows) (defScope sRows) .none kV1 dc1 pm1 an1 cd1 ct1), sl1⟩) (c1 : PySem.W.codeIn K cd1 "rows_of" = true) (k1 : PySem.W.keepIn K (.ref f1) = true)
    (a2 : PySem.W.nsIn K mainGlobals "rows_many" = some (some (.ref f2))) (l2 : K.lookup f2 = some ⟨oc2, od2, .func (PySem.W.fnOf "rows_many" "rows_many" (defArgs sMany) (defBody sMany) (defScope sMany) .none kV2 dc2 pm2 an2 cd2 ct2), sl2⟩) (c2 : PySem.W.codeIn K cd2 "rows_many" = true) (k2 : PySem.W.keepIn K (.ref f2) = true)
    (a3 : PySem.W.nsIn K mainGlobals "most_abreast" = some (some (.ref f3))) (l3 : K.lookup f3 = some ⟨oc3, od3, .func (PySem.W.fnOf "most_abreast" "most_abreast" (defArgs sMost) (defBody sMost) (defScope sMost) .none kV3 dc3 pm3 an3 cd3 ct3), sl3⟩) (c3 : PySem.W.codeIn K cd3 "most_abreast" = true) (k3 : PySem.W.keepIn K (.ref f3) = true)
    (a4 : PySem.W.nsIn K mainGlobals "dots" = some (some (.ref f4))) (l4 : K.lookup f4 = some ⟨oc4, od4, .func (PySem.W.fnOf "dots" "dots" (defArgs sDots) (defBody sDots) (defScope sDots) .none kV4 dc4 pm4 an4 cd4 ct4), sl4⟩) (c4 : PySem.W.codeIn K cd4 "dots" = true) (k4 : PySem.W.keepIn K (.ref f4) = true)
    (a5 : PySem.W.nsIn K mainGlobals "moved" = some (some (.ref f5))) (l5 : K.lookup f5 = some ⟨oc5, od5, .func (PySem.W.fnOf "moved" "moved" (defArgs sMoved) (defBody sMoved) (defScope sMoved) .none kV5 dc5 pm5 an5 cd5 ct5), sl5⟩) (c5 : PySem.W.codeIn K cd5 "moved" = true) (k5 : PySem.W.keepIn K (.ref f5) = true)
    (a6 : PySem.W.nsIn K mainGlobals "mirrored" = some (some (.ref f6))) (l6 : K.lookup f6 = some ⟨oc6, od6, .func (PySem.W.fnOf "mirrored" "mirrored" (defArgs sMirr) (defBody sMirr) (defScope sMirr) .none kV6 dc6 pm6 an6 cd6 ct6), sl6⟩) (c6 : PySem.W.codeIn K cd6 "mirrored" = true) (k6 : PySem.W.keepIn K (.ref f6) = true)
    (a7 : PySem.W.nsIn K mainGlobals "shape_of" = some (some (.ref f7))) (l7 : K.lookup f7 = some ⟨oc7, od7, .func (PySem.W.fnOf "shape_of" "shape_of" (defArgs sShapeOf) (defBody sShapeOf) (defScope sShapeOf) .none kV7 dc7 pm7 an7 cd7 ct7), sl7⟩) (c7 : PySem.W.codeIn K cd7 "shape_of" = true) (k7 : PySem.W.keepIn K (.ref f7) = true)
    (a8 : PySem.W.nsIn K mainGlobals "moved_lamps" = some (some (.ref f8))) (l8 : K.lookup f8 = some ⟨oc8, od8, .func (PySem.W.fnOf "moved_lamps" "moved_lamps" (defArgs sMovedL) (defBody sMovedL) (defScope sMovedL) .none kV8 dc8 pm8 an8 cd8 ct8), sl8⟩) (c8 : PySem.W.codeIn K cd8 "moved_lamps" = true) (k8 : PySem.W.keepIn K (.ref f8) = true)
    (a9 : PySem.W.nsIn K mainGlobals "mirrored_lamps" = some (some (.ref f9))) (l9 : K.lookup f9 = some ⟨oc9, od9, .func (PySem.W.fnOf "mirrored_lamps" "mirrored_lamps" (defArgs sMirrL) (defBody sMirrL) (defScope sMirrL) .none kV9 dc9 pm9 an9 cd9 ct9), sl9⟩) (c9 : PySem.W.codeIn K cd9 "mirrored_lamps" = true) (k9 : PySem.W.keepIn K (.ref f9) = true)
    (a10 : PySem.W.nsIn K mainGlobals "_law_bag" = some (some (.ref f10))) (l10 : K.lookup f10 = some ⟨oc10, od10, .func (PySem.W.fnOf "_law_bag" "_law_bag" (defArgs sBag) (defBody sBag) (defScope sBag) .none kV10 dc10 pm10 an10 cd10 ct10), sl10⟩) (c10 : PySem.W.codeIn K cd10 "_law_bag" = true) (k10 : PySem.W.keepIn K (.ref f10) = true)
    (a11 : PySem.W.nsIn K mainGlobals "_law_take" = some (some (.ref f11))) (l11 : K.lookup f11 = some ⟨oc11, od11, .func (PySem.W.fnOf "_law_take" "_law_take" (defArgs sTake) (defBody sTake) (defScope sTake) .none kV11 dc11 pm11 an11 cd11 ct11), sl11⟩) (c11 : PySem.W.codeIn K cd11 "_law_take" = true) (k11 : PySem.W.keepIn K (.ref f11) = true)
    (a12 : PySem.W.nsIn K mainGlobals "_law_some" = some (some (.ref f12))) (l12 : K.lookup f12 = some ⟨oc12, od12, .func (PySem.W.fnOf "_law_some" "_law_some" (defArgs sSome) (defBody sSome) (defScope sSome) .none kV12 dc12 pm12 an12 cd12 ct12), sl12⟩) (c12 : PySem.W.codeIn K cd12 "_law_some" = true) (k12 : PySem.W.keepIn K (.ref f12) = true)
    (a13 : PySem.W.nsIn K mainGlobals "_law_shades" = some (some (.ref f13))) (l13 : K.lookup f13 = some ⟨oc13, od13, .func (PySem.W.fnOf "_law_shades" "_law_shades" (defArgs sShades) (defBody sShades) (defScope sShades) .none kV13 dc13 pm13 an13 cd13 ct13), sl13⟩) (c13 : PySem.W.codeIn K cd13 "_law_shades" = true) (k13 : PySem.W.keepIn K (.ref f13) = true)
    (a14 : PySem.W.nsIn K mainGlobals "_law_shape" = some (some (.ref f14))) (l14 : K.lookup f14 = some ⟨oc14, od14, .func (PySem.W.fnOf "_law_shape" "_law_shape" (defArgs sShape) (defBody sShape) (defScope sShape) .none kV14 dc14 pm14 an14 cd14 ct14), sl14⟩) (c14 : PySem.W.codeIn K cd14 "_law_shape" = true) (k14 : PySem.W.keepIn K (.ref f14) = true)
    (a15 : PySem.W.nsIn K mainGlobals "_law_close_picture" = some (some (.ref f15))) (l15 : K.lookup f15 = some ⟨oc15, od15, .func (PySem.W.fnOf "_law_close_picture" "_law_close_picture" (defArgs sClose) (defBody sClose) (defScope sClose) .none kV15 dc15 pm15 an15 cd15 ct15), sl15⟩) (c15 : PySem.W.codeIn K cd15 "_law_close_picture" = true) (k15 : PySem.W.keepIn K (.ref f15) = true)
    (a16 : PySem.W.nsIn K mainGlobals "_law_has_rows" = some (some (.ref f16))) (l16 : K.lookup f16 = some ⟨oc16, od16, .func (PySem.W.fnOf "_law_has_rows" "_law_has_rows" (defArgs sHas) (defBody sHas) (defScope sHas) .none kV16 dc16 pm16 an16 cd16 ct16), sl16⟩) (c16 : PySem.W.codeIn K cd16 "_law_has_rows" = true) (k16 : PySem.W.keepIn K (.ref f16) = true)
    (a17 : PySem.W.nsIn K mainGlobals "law" = some (some (.ref f17))) (l17 : K.lookup f17 = some ⟨oc17, od17, .func (PySem.W.fnOf "law" "law" (defArgs sLaw) (defBody sLaw) (defScope sLaw) .none kV17 dc17 pm17 an17 cd17 ct17), sl17⟩) (c17 : PySem.W.codeIn K cd17 "law" = true) (k17 : PySem.W.keepIn K (.ref f17) = true)
    (aM : PySem.W.nsIn K mainGlobals "MOST" = some (some (.int 3000 tkM)))
    (z1 : PySem.W.nsIn K mainGlobals "enumerate" = some none) (z2 : PySem.W.nsIn K mainGlobals "len" = some none) (z3 : PySem.W.nsIn K mainGlobals "tuple" = some none) (z4 : PySem.W.nsIn K mainGlobals "max" = some none) (z5 : PySem.W.nsIn K mainGlobals "sorted" = some none) (z6 : PySem.W.nsIn K mainGlobals "set" = some none) (z7 : PySem.W.nsIn K mainGlobals "zip" = some none) (z8 : PySem.W.nsIn K mainGlobals "range" = some none) (z9 : PySem.W.nsIn K mainGlobals "abs" = some none) (z10 : PySem.W.nsIn K mainGlobals "int" = some none) :
    ∃ fd : FuncData, (∀ (s : Shared) (v : Value), BindsTo s fd ⟨[v], []⟩ [("_law_script", v)]) ∧ ∀ base : Heap, K.In base → base.Ns mainGlobals mg → FnOk l.prog w K mg base CX0 5 fa fd ["_law_script"] (spLaw K) := by
  have e := hfa.symm.trans (PySem.W.mg_of X G a17)
  cases e
  have F1 := fun_mk (st := sRows) l1 c1 k1
  have b1 := F1.binds (ps := ["picture", "spacing"]) fun _ _ _ _ _ _ us hl => match us, hl with | [_, _], _ => rfl
  have g1 := PySem.W.mg_of X G a1
  have F2 := fun_mk (st := sMany) l2 c2 k2
  have b2 := F2.binds (ps := ["rows"]) fun _ _ _ _ _ _ us hl => match us, hl with | [_], _ => rfl
  have g2 := PySem.W.mg_of X G a2
  have F3 := fun_mk (st := sMost) l3 c3 k3
  have b3 := F3.binds (ps := ["picture", "spacing"]) fun _ _ _ _ _ _ us hl => match us, hl with | [_, _], _ => rfl
  have g3 := PySem.W.mg_of X G a3
  have F4 := fun_mk (st := sDots) l4 c4 k4
  have b4 := F4.binds (ps := ["points"]) fun _ _ _ _ _ _ us hl => match us, hl with | [_], _ => rfl
  have g4 := PySem.W.mg_of X G a4
  have F5 := fun_mk (st := sMoved) l5 c5 k5
  have b5 := F5.binds (ps := ["shape", "x", "z"]) fun _ _ _ _ _ _ us hl => match us, hl with | [_, _, _], _ => rfl
  have g5 := PySem.W.mg_of X G a5
  have F6 := fun_mk (st := sMirr) l6 c6 k6
  have b6 := F6.binds (ps := ["shape", "x"]) fun _ _ _ _ _ _ us hl => match us, hl with | [_, _], _ => rfl
  have g6 := PySem.W.mg_of X G a6
  have F7 := fun_mk (st := sShapeOf) l7 c7 k7
  have b7 := F7.binds (ps := ["picture"]) fun _ _ _ _ _ _ us hl => match us, hl with | [_], _ => rfl
  have g7 := PySem.W.mg_of X G a7
  have F8 := fun_mk (st := sMovedL) l8 c8 k8
  have b8 := F8.binds (ps := ["picture", "x", "z"]) fun _ _ _ _ _ _ us hl => match us, hl with | [_, _, _], _ => rfl
  have g8 := PySem.W.mg_of X G a8
  have F9 := fun_mk (st := sMirrL) l9 c9 k9
  have b9 := F9.binds (ps := ["picture", "x"]) fun _ _ _ _ _ _ us hl => match us, hl with | [_, _], _ => rfl
  have g9 := PySem.W.mg_of X G a9
  have F10 := fun_mk (st := sBag) l10 c10 k10
  have b10 := F10.binds (ps := ["_law_script"]) fun _ _ _ _ _ _ us hl => match us, hl with | [_], _ => rfl
  have g10 := PySem.W.mg_of X G a10
  have F11 := fun_mk (st := sTake) l11 c11 k11
  have b11 := F11.binds (ps := ["_law_bag_here", "_law_many"]) fun _ _ _ _ _ _ us hl => match us, hl with | [_, _], _ => rfl
  have g11 := PySem.W.mg_of X G a11
  have F12 := fun_mk (st := sSome) l12 c12 k12
  have b12 := F12.binds (ps := ["_law_bag_here", "_law_things"]) fun _ _ _ _ _ _ us hl => match us, hl with | [_, _], _ => rfl
  have g12 := PySem.W.mg_of X G a12
  have F13 := fun_mk (st := sShades) l13 c13 k13
  have b13 := F13.binds (ps := ["_law_bag_here"]) fun _ _ _ _ _ _ us hl => match us, hl with | [_], _ => rfl
  have g13 := PySem.W.mg_of X G a13
  have F14 := fun_mk (st := sShape) l14 c14 k14
  have b14 := F14.binds (ps := ["_law_points"]) fun _ _ _ _ _ _ us hl => match us, hl with | [_], _ => rfl
  have g14 := PySem.W.mg_of X G a14
  have F15 := fun_mk (st := sClose) l15 c15 k15
  have b15 := F15.binds (ps := ["_law_bag_here"]) fun _ _ _ _ _ _ us hl => match us, hl with | [_], _ => rfl
  have g15 := PySem.W.mg_of X G a15
  have F16 := fun_mk (st := sHas) l16 c16 k16
  have b16 := F16.binds (ps := ["_law_picture", "_law_spacing", "_law_many"]) fun _ _ _ _ _ _ us hl => match us, hl with | [_, _, _], _ => rfl
  have g16 := PySem.W.mg_of X G a16
  have F17 := fun_mk (st := sLaw) l17 c17 k17
  have gM := PySem.W.mg_of X G aM
  have m1 := PySem.W.mg_none_of X G z1
  have m2 := PySem.W.mg_none_of X G z2
  have m3 := PySem.W.mg_none_of X G z3
  have m4 := PySem.W.mg_none_of X G z4
  have m5 := PySem.W.mg_none_of X G z5
  have m6 := PySem.W.mg_none_of X G z6
  have m7 := PySem.W.mg_none_of X G z7
  have m8 := PySem.W.mg_none_of X G z8
  have m9 := PySem.W.mg_none_of X G z9
  have m10 := PySem.W.mg_none_of X G z10
  refine ⟨PySem.W.fnOf "law" "law" (defArgs sLaw) (defBody sLaw) (defScope sLaw) .none kV17 dc17 pm17 an17 cd17 ct17, fun s v => .of_eq rfl, fun base _ _ => ?_⟩
  have GBag : FnOk l.prog w K mg base CX0 4 f10 _ _ (spBag K) := ok_bag F10 m9
  have GTake : FnOk l.prog w K mg base CX0 1 f11 _ _ spTake := ok_take F11 m10
  have GSome : FnOk l.prog w K mg base CX0 2 f12 _ _ spSome := ok_some F12 F11 b11 g11 m10 m2
  have GClose : FnOk l.prog w K mg base CX0 4 f15 _ _ spClose := ok_close F15 F13 b13 g13 F14 b14 g14 F12 b12 g12 F11 b11 g11 m10 m2 m8 m3 m5 m6
  have GRows : FnOk l.prog w K mg base CX0 1 f1 _ _ spRows := ok_rows F1 m1 m2 m3
  have GMany : FnOk l.prog w K mg base CX0 1 f2 _ _ spMany := ok_many F2 m4
  have GMost : FnOk l.prog w K mg base CX0 1 f3 _ _ spMost := ok_most F3 m2
  have GHas : FnOk l.prog w K mg base CX0 1 f16 _ _ spHas := ok_has F16 m1 m2 m8
  have GMovL : FnOk l.prog w K mg base CX0 2 f8 _ _ spMovedL := ok_movedL F8 F5 b5 g5 F7 b7 g7 m3 m7
  have GMirL : FnOk l.prog w K mg base CX0 3 f9 _ _ spMirrL := ok_mirrL F9 F6 b6 g6 F4 b4 g4 m3 m5 m6 m2 gM
  exact law_ok F17 F10 (GBag.mono (by decide)) b10 g10 F15 (GClose.mono (by decide)) b15 g15 F12 (GSome.mono (by decide)) b12 g12 F11 (GTake.mono (by decide)) b11 g11 F1 (GRows.mono (by decide)) b1 g1 F2 (GMany.mono (by decide)) b2 g2 F16 (GHas.mono (by decide)) b16 g16 F8 (GMovL.mono (by decide)) b8 g8 F9 (GMirL.mono (by decide)) b9 g9 F3 (GMost.mono (by decide)) b3 g3 m2 m8 m3 m4
end K16
open PySem PySem.W PyProof.Rows
set_option maxHeartbeats 0 in
theorem PySem.Challenge.cw_lampsaloft_k16_whole_never_fewer_rows_holds : PySem.Challenge.rw_lampsaloft_k16_whole_never_fewer_rows.Holds := by
  w_on; o_law; k_head; (case hw => w_witness2)
  k_fill
  refine L2.walk_of (l := PySem.Challenge.rw_lampsaloft_k16_whole_never_fewer_rows) (n := 63) (k := 5) (x := "_law_script") (CX := fun _ => L2.CX0) (sp := fun w => K16.spLaw _) rfl (by decide) rfl ⟨rfl, by decide, by decide⟩ (fun w h Y => PySem.W.kIn_of Y) ?F (fun _ _ a ns hl _ hS => ⟨a, ns, rfl, hS, hl, fun _ => rfl⟩) (fun _ _ _ _ _ h => h)
  case F =>
    intro w mg fa h KX G hmg
    refine' K16.all_mk KX G hmg ?a1 ?l1 ?c1 ?k1 ?a2 ?l2 ?c2 ?k2 ?a3 ?l3 ?c3 ?k3 ?a4 ?l4 ?c4 ?k4 ?a5 ?l5 ?c5 ?k5 ?a6 ?l6 ?c6 ?k6 ?a7 ?l7 ?c7 ?k7 ?a8 ?l8 ?c8 ?k8 ?a9 ?l9 ?c9 ?k9 ?a10 ?l10 ?c10 ?k10 ?a11 ?l11 ?c11 ?k11 ?a12 ?l12 ?c12 ?k12 ?a13 ?l13 ?c13 ?k13 ?a14 ?l14 ?c14 ?k14 ?a15 ?l15 ?c15 ?k15 ?a16 ?l16 ?c16 ?k16 ?a17 ?l17 ?c17 ?k17 ?aM ?z1 ?z2 ?z3 ?z4 ?z5 ?z6 ?z7 ?z8 ?z9 ?z10
    (case a1 => k_is); (case l1 => k_is); (case c1 => k_is); (case k1 => k_is); (case a2 => k_is); (case l2 => k_is); (case c2 => k_is); (case k2 => k_is); (case a3 => k_is); (case l3 => k_is); (case c3 => k_is); (case k3 => k_is); (case a4 => k_is); (case l4 => k_is); (case c4 => k_is); (case k4 => k_is); (case a5 => k_is); (case l5 => k_is); (case c5 => k_is); (case k5 => k_is); (case a6 => k_is); (case l6 => k_is); (case c6 => k_is); (case k6 => k_is); (case a7 => k_is); (case l7 => k_is); (case c7 => k_is); (case k7 => k_is); (case a8 => k_is); (case l8 => k_is); (case c8 => k_is); (case k8 => k_is); (case a9 => k_is); (case l9 => k_is); (case c9 => k_is); (case k9 => k_is); (case a10 => k_is); (case l10 => k_is); (case c10 => k_is); (case k10 => k_is); (case a11 => k_is); (case l11 => k_is); (case c11 => k_is); (case k11 => k_is); (case a12 => k_is); (case l12 => k_is); (case c12 => k_is); (case k12 => k_is); (case a13 => k_is); (case l13 => k_is); (case c13 => k_is); (case k13 => k_is); (case a14 => k_is); (case l14 => k_is); (case c14 => k_is); (case k14 => k_is); (case a15 => k_is); (case l15 => k_is); (case c15 => k_is); (case k15 => k_is); (case a16 => k_is); (case l16 => k_is); (case c16 => k_is); (case k16 => k_is); (case a17 => k_is); (case l17 => k_is); (case c17 => k_is); (case k17 => k_is); (case aM => k_is); (case z1 => k_is); (case z2 => k_is); (case z3 => k_is); (case z4 => k_is); (case z5 => k_is); (case z6 => k_is); (case z7 => k_is); (case z8 => k_is); (case z9 => k_is); (case z10 => k_is)
