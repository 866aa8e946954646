import PyProof.Rows.All
import HandS.Base
import Wide.All
import OpenK.AllK
import Wide.FinOn
import HandS.ForMost
import HandS.Evl
import HandS.Walk
import HandS.IsInst
import HandS.TupAny
import HandS.Zip
import HandS.Rev
import HandS.Conv
import HandS.Strs
import HandS.SetFor
import HandS.Defaults
import HandS.Deep
import HandS.DictComp
import HandS.Flow
import HandS.Style
import HandS.More
import HandS.Head0
import HandS.Head1
import HandS.Head2
import HandS.HeadEnd
import HandS.HeadHook1
import HandS.HeadHook2
import HandS.HeadHook3
import HandS.HeadHook4
import HandS.HeadWalk
import KE.GoesMore
import KE.GoesZip
import KE.GoesEnum
import KE.KDictOf
import KE.KDictCopyH
import KE.KDictDisplayH
import KE.Datum
import HandS.SortInts
import HandS.Star
import KE.SortKeyHeap
import HandS.ExcValue
import KE.KStateDown
import PySem.Challenge.RW_sturdysort_k17_whole_stretches
set_option autoImplicit false
namespace SSort
/-! ### rows, deeds -/
def gd (x : List Int) (k : Nat) : Int := x.getD k 0
def exch (x : List Int) (k : Nat) : List Int := x.take k ++ [gd x (k+1), gd x k] ++ x.drop (k+2)
def desc (x : List Int) (k : Nat) : Bool := decide (gd x (k+1) < gd x k)
def dn (x : List Int) (k : Nat) : List Int := if desc x k = true then exch x k else x
def turned (n : Nat) : List Int := (List.range n).map fun i : Nat => (n : Int) - 1 - (i : Int)
def cnt (x : List Int) (i : Nat) (v : Nat) : Nat := ((x.take i).filter (fun c => decide (c < (v : Int)))).length
def Far (n : Nat) (x g : List Int) : Prop := ∀ i, i ≤ n → ∀ v, v ≤ n → cnt g i v ≤ cnt x i v
structure Row (n : Nat) (x : List Int) : Prop where
  len : x.length = n
  nd : x.Nodup
  bd : ∀ c ∈ x, 0 ≤ c ∧ c < (n : Int)
theorem split_at {x : List Int} {k : Nat} (h : k + 1 < x.length) : ∃ l a b r, x = l ++ a :: b :: r ∧ l.length = k := by
  refine ⟨x.take k, x[k], x[k+1], x.drop (k+2), ?_, by simp; omega⟩
  have h1 : x.drop k = x[k] :: x.drop (k+1) := (List.drop_eq_getElem_cons (by omega))
  have h2 : x.drop (k+1) = x[k+1] :: x.drop (k+2) := (List.drop_eq_getElem_cons (by omega))
  rw [← h2, ← h1, List.take_append_drop]
theorem gd_l {l r : List Int} {a b : Int} {k : Nat} (h : l.length = k) : gd (l ++ a :: b :: r) k = a ∧ gd (l ++ a :: b :: r) (k+1) = b := by
  subst h; unfold gd; constructor
  · simp
  · simp [List.getD_eq_getElem?_getD]
theorem exch_l {l r : List Int} {a b : Int} {k : Nat} (h : l.length = k) : exch (l ++ a :: b :: r) k = l ++ b :: a :: r := by
  unfold exch
  rw [(gd_l h).1, (gd_l h).2]
  subst h
  have e : List.drop (l.length + 2) (l ++ a :: b :: r) = r := by
    rw [List.drop_append]; simp
  rw [e]; simp
theorem desc_l {l r : List Int} {a b : Int} {k : Nat} (h : l.length = k) : desc (l ++ a :: b :: r) k = decide (b < a) := by
  unfold desc; rw [(gd_l h).1, (gd_l h).2]
theorem exch_length {x : List Int} {k : Nat} (h : k + 1 < x.length) : (exch x k).length = x.length := by
  obtain ⟨l, a, b, r, rfl, hl⟩ := split_at h
  rw [exch_l hl]; simp
theorem exch_perm {x : List Int} {k : Nat} (h : k + 1 < x.length) : (exch x k).Perm x := by
  obtain ⟨l, a, b, r, rfl, hl⟩ := split_at h
  rw [exch_l hl]
  exact List.Perm.append_left l (List.Perm.swap a b r)
theorem Row.exch {n : Nat} {x : List Int} {k : Nat} (R : Row n x) (h : k + 1 < n) : Row n (exch x k) := by
  have hp := exch_perm (x := x) (k := k) (by rw [R.len]; exact h)
  exact ⟨by rw [hp.length_eq]; exact R.len, hp.nodup_iff.mpr R.nd, fun c hc => R.bd c (hp.mem_iff.mp hc)⟩
theorem Row.dn {n : Nat} {x : List Int} {k : Nat} (R : Row n x) (h : k + 1 < n) : Row n (dn x k) := by
  unfold SSort.dn; split
  · exact R.exch h
  · exact R
theorem turned_row (n : Nat) : Row n (turned n) := by
  refine ⟨by simp [turned], ?_, ?_⟩
  · unfold turned
    rw [List.nodup_iff_pairwise_ne, List.pairwise_map]
    refine (List.pairwise_lt_range (n := n)).imp ?_
    intro a b h; omega
  · intro c hc
    unfold turned at hc
    obtain ⟨i, hi, rfl⟩ := List.mem_map.mp hc
    have := List.mem_range.mp hi
    omega
/-! ### counting -/
theorem cnt_lo {l : List Int} {z z' : List Int} {i v : Nat} (h : i ≤ l.length) : cnt (l ++ z) i v = cnt (l ++ z') i v := by
  unfold cnt; rw [List.take_append_of_le_length h, List.take_append_of_le_length h]
def ind (a : Int) (v : Nat) : Nat := if a < (v : Int) then 1 else 0
def cf (x : List Int) (v : Nat) : Nat := (x.filter (fun c => decide (c < (v : Int)))).length
theorem cf_cons (a : Int) (x : List Int) (v : Nat) : cf (a :: x) v = ind a v + cf x v := by
  unfold cf ind; rw [List.filter_cons]; split <;> simp_all <;> omega
theorem cf_app (x y : List Int) (v : Nat) : cf (x ++ y) v = cf x v + cf y v := by
  unfold cf; rw [List.filter_append, List.length_append]
theorem cnt_cf (x : List Int) (i v : Nat) : cnt x i v = cf (x.take i) v := rfl
theorem cnt_k {l r : List Int} {a b : Int} {k v : Nat} (h : l.length = k) : cnt (l ++ a :: b :: r) k v = cf l v := by
  subst h; rw [cnt_cf, List.take_append_of_le_length (Nat.le_refl _), List.take_length]
theorem cnt_k1 {l r : List Int} {a b : Int} {k v : Nat} (h : l.length = k) : cnt (l ++ a :: b :: r) (k+1) v = cf l v + ind a v := by
  subst h; rw [cnt_cf, List.take_append]
  have : List.take (l.length + 1 - l.length) (a :: b :: r) = [a] := by rw [Nat.add_sub_cancel_left]; rfl
  rw [this, List.take_of_length_le (by omega), cf_app, cf_cons]; simp [cf]
theorem cnt_hi {l r : List Int} {a b : Int} {k j v : Nat} (h : l.length = k) : cnt (l ++ a :: b :: r) (k+2+j) v = cf l v + (ind a v + (ind b v + cf (r.take j) v)) := by
  subst h; rw [cnt_cf, List.take_append]
  have : List.take (l.length + 2 + j - l.length) (a :: b :: r) = a :: b :: r.take j := by
    have : l.length + 2 + j - l.length = j + 1 + 1 := by omega
    rw [this]; rfl
  rw [this, List.take_of_length_le (by omega), cf_app, cf_cons, cf_cons]
theorem cnt_exch {x : List Int} {k i v : Nat} (h : k + 1 < x.length) (hi : i ≠ k + 1) : cnt (exch x k) i v = cnt x i v := by
  obtain ⟨l, a, b, r, rfl, hl⟩ := split_at h
  rw [exch_l hl]
  by_cases h1 : i ≤ k
  · exact cnt_lo (by omega)
  · obtain ⟨j, rfl⟩ : ∃ j, i = k + 2 + j := ⟨i - (k+2), by omega⟩
    rw [cnt_hi hl, cnt_hi hl]; omega
theorem ind_le (a : Int) (v : Nat) : ind a v ≤ 1 := by unfold ind; split <;> omega
theorem ind_mono {a b : Int} (v : Nat) (h : a ≤ b) : ind b v ≤ ind a v := by unfold ind; split <;> split <;> omega
/-- a list that falls at k is far from as much as at its other places -/
theorem fall_le {y g : List Int} {k v : Nat} (hy : k + 1 < y.length) (hg : k + 1 < g.length) (hd : gd g (k+1) ≤ gd g k) (h0 : cnt g k v ≤ cnt y k v) (h2 : cnt g (k+2) v ≤ cnt y (k+2) v) : cnt g (k+1) v ≤ cnt y (k+1) v := by
  obtain ⟨l, a, b, r, rfl, hl⟩ := split_at hg
  obtain ⟨l', a', b', r', rfl, hl'⟩ := split_at hy
  rw [(gd_l hl).1, (gd_l hl).2] at hd
  rw [cnt_k hl, cnt_k hl'] at h0
  have e1 := cnt_hi (j := 0) (v := v) (r := r) (a := a) (b := b) hl
  have e2 := cnt_hi (j := 0) (v := v) (r := r') (a := a') (b := b') hl'
  simp only [Nat.add_zero, List.take_zero] at e1 e2
  have z : cf [] v = 0 := rfl
  rw [e1, e2, z] at h2
  rw [cnt_k1 hl, cnt_k1 hl']
  have := ind_le a v; have := ind_le b v; have := ind_le a' v; have := ind_le b' v; have := ind_mono v hd
  omega
theorem rise_le {y g : List Int} {k v : Nat} (hy : k + 1 < y.length) (hg : k + 1 < g.length) (hd : gd y k ≤ gd y (k+1)) (h0 : cnt g k v ≤ cnt y k v) (h2 : cnt g (k+2) v ≤ cnt y (k+2) v) : cnt g (k+1) v ≤ cnt y (k+1) v := by
  obtain ⟨l, a, b, r, rfl, hl⟩ := split_at hg
  obtain ⟨l', a', b', r', rfl, hl'⟩ := split_at hy
  rw [(gd_l hl').1, (gd_l hl').2] at hd
  rw [cnt_k hl, cnt_k hl'] at h0
  have e1 := cnt_hi (j := 0) (v := v) (r := r) (a := a) (b := b) hl
  have e2 := cnt_hi (j := 0) (v := v) (r := r') (a := a') (b := b') hl'
  simp only [Nat.add_zero, List.take_zero] at e1 e2
  have z : cf [] v = 0 := rfl
  rw [e1, e2, z] at h2
  rw [cnt_k1 hl, cnt_k1 hl']
  have := ind_le a v; have := ind_le b v; have := ind_le a' v; have := ind_le b' v; have := ind_mono v hd
  omega
theorem Far.refl (n : Nat) (x : List Int) : Far n x x := fun _ _ _ _ => Nat.le_refl _
theorem Far.trans {n : Nat} {x y z : List Int} (h : Far n x y) (h' : Far n y z) : Far n x z := fun i hi v hv => Nat.le_trans (h' i hi v hv) (h i hi v hv)
theorem cnt_dn {x : List Int} {k i v : Nat} (h : k + 1 < x.length) (hi : i ≠ k + 1) : cnt (dn x k) i v = cnt x i v := by
  unfold dn; split
  · exact cnt_exch h hi
  · rfl
theorem dn_rise {x : List Int} {k : Nat} (h : k + 1 < x.length) : gd (dn x k) k ≤ gd (dn x k) (k+1) := by
  obtain ⟨l, a, b, r, rfl, hl⟩ := split_at h
  unfold dn; rw [desc_l hl, exch_l hl]
  by_cases h : b < a
  · rw [if_pos (decide_eq_true h), (gd_l hl).1, (gd_l hl).2]; omega
  · rw [if_neg (by simp; omega), (gd_l hl).1, (gd_l hl).2]; omega
theorem Far.dn_dn {n k : Nat} {x y : List Int} (hx : x.length = n) (hy : y.length = n) (h : k + 1 < n) (H : Far n x y) : Far n (dn x k) (dn y k) := by
  have lx : (dn x k).length = n := by unfold dn; split; rw [exch_length (by omega), hx]; exact hx
  have ly : (dn y k).length = n := by unfold dn; split; rw [exch_length (by omega), hy]; exact hy
  have h1 : ∀ i, i ≤ n → ∀ v, v ≤ n → i ≠ k + 1 → cnt (dn y k) i v ≤ cnt (dn x k) i v := fun i hi v hv hne => by
    rw [cnt_dn (by omega) hne, cnt_dn (by omega) hne]; exact H i hi v hv
  intro i hi v hv
  by_cases hne : i = k + 1
  · subst hne
    exact rise_le (by omega) (by omega) (dn_rise (by omega)) (h1 k (by omega) v hv (by omega)) (h1 (k+2) (by omega) v hv (by omega))
  · exact h1 i hi v hv hne
theorem Far.dn_self {n k : Nat} {x : List Int} (hx : x.length = n) (h : k + 1 < n) : Far n (dn x k) x := by
  intro i hi v hv
  by_cases hne : i = k + 1
  · subst hne
    have lx : (dn x k).length = n := by unfold dn; split; rw [exch_length (by omega), hx]; exact hx
    exact rise_le (by omega) (by omega) (dn_rise (by omega)) (by rw [cnt_dn (by omega) (by omega)]; omega) (by rw [cnt_dn (by omega) (by omega)]; omega)
  · rw [cnt_dn (by omega) hne]; omega
/-- lifting -/
theorem Far.lift {n k : Nat} {y g : List Int} (hy : y.length = n) (hg : g.length = n) (h : k + 1 < n) (H : Far n (dn y k) g) (hd : gd g (k+1) ≤ gd g k) : Far n y g := by
  intro i hi v hv
  have h1 : ∀ i, i ≤ n → i ≠ k + 1 → cnt g i v ≤ cnt y i v := fun i hi hne => by
    have := H i hi v hv
    rw [cnt_dn (by omega) hne] at this; exact this
  by_cases hne : i = k + 1
  · subst hne
    exact fall_le (by omega) (by omega) hd (h1 k (by omega) (by omega)) (h1 (k+2) (by omega) (by omega))
  · exact h1 i hi hne
theorem Far.lift' {n k : Nat} {y g : List Int} (hy : y.length = n) (hg : g.length = n) (h : k + 1 < n) (H : Far n (dn y k) g) (hd : gd g k ≤ gd g (k+1)) : Far n y (exch g k) := by
  have hl : (exch g k).length = n := by rw [exch_length (by omega), hg]
  have hd' : gd (exch g k) (k+1) ≤ gd (exch g k) k := by
    obtain ⟨l, a, b, r, rfl, e⟩ := split_at (x := g) (k := k) (by omega)
    rw [exch_l e, (gd_l e).1, (gd_l e).2]; rw [(gd_l e).1, (gd_l e).2] at hd; exact hd
  intro i hi v hv
  have h1 : ∀ i, i ≤ n → i ≠ k + 1 → cnt (exch g k) i v ≤ cnt y i v := fun i hi hne => by
    have := H i hi v hv
    rw [cnt_dn (by omega) hne] at this
    rw [cnt_exch (by omega) hne]; exact this
  by_cases hne : i = k + 1
  · subst hne
    exact fall_le (by omega) (by omega) hd' (h1 k (by omega) (by omega)) (h1 (k+2) (by omega) (by omega))
  · exact h1 i hi hne
/-- nothing lies beyond the turned row but itself -/
theorem far_turned {n : Nat} {g : List Int} (R : Row n g) (H : Far n (turned n) g) : g = turned n := by
  have key : ∀ i, (hi : i < n) → g[i]'(by rw [R.len]; exact hi) = (n : Int) - 1 - i := by
    intro i
    induction i using Nat.strongRecOn with
    | ind i ih =>
      intro hi
      have hlen := R.len
      have hb := R.bd (g[i]'(by omega)) (List.getElem_mem _)
      have hup : (n : Int) - 1 - i ≤ g[i]'(by omega) := by
        by_cases hc : (n : Int) - 1 - i ≤ g[i]'(by omega)
        · exact hc
        · exfalso
          have h1 := H (i+1) (by omega) (n - 1 - i) (by omega)
          have z : cnt (turned n) (i+1) (n-1-i) = 0 := by
            unfold cnt
            rw [List.length_eq_zero_iff, List.filter_eq_nil_iff]
            intro c hc
            obtain ⟨j, hj, rfl⟩ := List.mem_iff_getElem.mp hc
            have : j < i + 1 := by
              rw [List.length_take] at hj; omega
            rw [List.getElem_take]
            simp [turned]; omega
          rw [z] at h1
          have z2 : cnt g (i+1) (n-1-i) = 0 := by omega
          unfold cnt at z2
          rw [List.length_eq_zero_iff, List.filter_eq_nil_iff] at z2
          have := z2 (g[i]'(by omega)) (by
            rw [List.mem_iff_getElem]
            exact ⟨i, by rw [List.length_take]; omega, by rw [List.getElem_take]⟩)
          simp at this
          omega
      by_cases he : g[i]'(by omega) = (n : Int) - 1 - i
      · exact he
      · exfalso
        obtain ⟨j, hj⟩ : ∃ j : Nat, g[i]'(by omega) = (n : Int) - 1 - j := ⟨((n : Int) - 1 - g[i]'(by omega)).toNat, by omega⟩
        have hji : j < i := by omega
        have := ih j hji (by omega)
        have hne := List.pairwise_iff_getElem.mp (List.nodup_iff_pairwise_ne.mp R.nd) j i (by omega) (by omega) hji
        exact hne (by rw [this, hj])
  apply List.ext_getElem
  · rw [R.len]; simp [turned]
  · intro i h1 h2
    rw [key i (by rw [← R.len]; exact h1)]
    simp [turned]
end SSort
set_option autoImplicit false
namespace SSort
/-! ### runs with places that fail -/
def Wd (n : Nat) (w : List Nat) : Prop := ∀ s ∈ w, s + 1 < n
theorem Wd.head {n s : Nat} {w : List Nat} (h : Wd n (s :: w)) : s + 1 < n := h s List.mem_cons_self
theorem Wd.tail {n s : Nat} {w : List Nat} (h : Wd n (s :: w)) : Wd n w := fun t ht => h t (List.mem_cons_of_mem _ ht)
def runF : List Int → List Nat → Nat → (Nat → Bool) → List Int
  | x, [], _, _ => x
  | x, s :: w, i, F => runF (if F i = true then x else dn x s) w (i+1) F
def reach (g : List Int) : List Nat → Nat → (Nat → Bool) → List Int → Bool
  | [], _, _, y => decide (y = g)
  | s :: w, i, F, y => reach g w (i+1) F y || (!F i && (desc y s && reach g w (i+1) F (exch y s)))
def Path (g : List Int) : List Nat → Nat → (Nat → Bool) → List Int → Prop
  | [], _, _, y => y = g
  | s :: w, i, F, y => if F i = true then Path g w (i+1) F y else desc y s = true ∧ Path g w (i+1) F (exch y s)
def fac (g : List Int) : List Nat → Nat → List Int → List (List Nat)
  | [], _, y => if y = g then [[]] else []
  | s :: w, i, y => (if desc y s = true then fac g w (i+1) (exch y s) else []) ++ (fac g w (i+1) y).map (i :: ·)
def has (I : List Nat) : Nat → Bool := fun p => decide (p ∈ I)
def lotOf : Nat → Nat → (Nat → Bool) → List Nat
  | 0, _, _ => []
  | m+1, i, G => if G i = true then i :: lotOf m (i+1) G else lotOf m (i+1) G
theorem runF_row {n : Nat} : ∀ {w : List Nat} {x : List Int} {i : Nat} {F : Nat → Bool}, Wd n w → Row n x → Row n (runF x w i F)
  | [], _, _, _, _, R => R
  | s :: w, x, i, F, h, R => by
    unfold runF
    refine runF_row h.tail ?_
    split
    · exact R
    · exact R.dn h.head
theorem run_mono {n : Nat} : ∀ {w : List Nat} {x y : List Int} {i : Nat} {F F' : Nat → Bool}, Wd n w → Row n x → Row n y → Far n x y → (∀ j, i ≤ j → F j = true → F' j = true) → Far n (runF x w i F) (runF y w i F')
  | [], _, _, _, _, _, _, _, _, H, _ => H
  | s :: w, x, y, i, F, F', h, Rx, Ry, H, hF => by
    unfold runF
    have hF2 : ∀ j, i + 1 ≤ j → F j = true → F' j = true := fun j hj => hF j (by omega)
    by_cases h1 : F i = true
    · rw [if_pos h1, if_pos (hF i (Nat.le_refl _) h1)]
      exact run_mono h.tail Rx Ry H hF2
    · rw [if_neg h1]
      by_cases h2 : F' i = true
      · rw [if_pos h2]
        exact run_mono h.tail (Rx.dn h.head) Ry ((Far.dn_self Rx.len h.head).trans H) hF2
      · rw [if_neg h2]
        exact run_mono h.tail (Rx.dn h.head) (Ry.dn h.head) (Far.dn_dn Rx.len Ry.len h.head H) hF2
theorem reach_of_far {n : Nat} {g : List Int} (Rg : Row n g) : ∀ {w : List Nat} {y : List Int} {i : Nat} {F : Nat → Bool}, Wd n w → Row n y → Far n (runF y w i F) g → ∃ y', Row n y' ∧ Far n y y' ∧ reach g w i F y' = true
  | [], y, i, F, _, R, H => ⟨g, Rg, H, by simp [reach]⟩
  | s :: w, y, i, F, h, R, H => by
    unfold runF at H
    by_cases h1 : F i = true
    · rw [if_pos h1] at H
      obtain ⟨y', R', H', r⟩ := reach_of_far Rg h.tail R H
      exact ⟨y', R', H', by simp [reach, r]⟩
    · rw [if_neg h1] at H
      obtain ⟨y', R', H', r⟩ := reach_of_far Rg h.tail (R.dn h.head) H
      by_cases hd : gd y' (s+1) ≤ gd y' s
      · exact ⟨y', R', Far.lift R.len R'.len h.head H' hd, by simp [reach, r]⟩
      · have hl := h.head
        refine ⟨exch y' s, R'.exch hl, Far.lift' R.len R'.len hl H' (by omega), ?_⟩
        obtain ⟨l, a, b, r', rfl, e⟩ := split_at (x := y') (k := s) (by rw [R'.len]; exact hl)
        rw [(gd_l e).1, (gd_l e).2] at hd
        have h2 : F i = false := by simpa using h1
        unfold reach
        rw [exch_l e, desc_l e, exch_l e, r, h2]
        simp; right; omega
theorem far_of_reach {n : Nat} {g : List Int} : ∀ {w : List Nat} {y : List Int} {i : Nat} {F : Nat → Bool}, Wd n w → Row n y → reach g w i F y = true → Far n (runF y w i F) g
  | [], y, i, F, _, R, H => by
    simp [reach] at H
    subst H
    exact Far.refl _ _
  | s :: w, y, i, F, h, R, H => by
    unfold reach at H
    rw [Bool.or_eq_true] at H
    unfold runF
    rcases H with H | H
    · refine Far.trans ?_ (far_of_reach h.tail R H)
      split
      · exact Far.refl _ _
      · exact run_mono h.tail (R.dn h.head) R (Far.dn_self R.len h.head) (fun _ _ z => z)
    · simp only [Bool.and_eq_true, Bool.not_eq_true'] at H
      obtain ⟨h1, h2, h3⟩ := H
      rw [if_neg (by rw [h1]; decide)]
      unfold dn
      rw [if_pos h2]
      exact far_of_reach h.tail (R.exch h.head) h3
/-- the subword theorem: what is left reaches the goal exactly if some of its deeds sort the turned row to it -/
theorem far_iff {n : Nat} {g : List Int} {w : List Nat} {F : Nat → Bool} (Rg : Row n g) (h : Wd n w) : Far n (runF (turned n) w 0 F) g ↔ reach g w 0 F (turned n) = true := by
  constructor
  · intro H
    obtain ⟨y', R', H', r⟩ := reach_of_far Rg h (turned_row n) H
    rw [far_turned R' H'] at r
    exact r
  · exact far_of_reach h (turned_row n)
/-! ### paths and facets -/
theorem path_congr {g : List Int} : ∀ {w : List Nat} {i : Nat} {F F' : Nat → Bool} {y : List Int}, (∀ j, i ≤ j → j < i + w.length → F j = F' j) → Path g w i F y → Path g w i F' y
  | [], _, _, _, _, _, h => h
  | s :: w, i, F, F', y, e, h => by
    unfold Path at h ⊢
    rw [← e i (Nat.le_refl _) (by simp)]
    have e' : ∀ j, i + 1 ≤ j → j < i + 1 + w.length → F j = F' j := fun j h1 h2 => e j (by omega) (by simp; omega)
    split
    · rename_i hf
      rw [if_pos hf] at h
      exact path_congr e' h
    · rename_i hf
      rw [if_neg hf] at h
      exact ⟨h.1, path_congr e' h.2⟩
theorem lotOf_congr : ∀ {m i : Nat} {F F' : Nat → Bool}, (∀ j, i ≤ j → j < i + m → F j = F' j) → lotOf m i F = lotOf m i F'
  | 0, _, _, _, _ => rfl
  | m+1, i, F, F', e => by
    unfold lotOf
    rw [← e i (Nat.le_refl _) (by omega), lotOf_congr (m := m) (i := i+1) (F := F) (F' := F') fun j h1 h2 => e j (by omega) (by omega)]
theorem mem_lotOf : ∀ {m i : Nat} {F : Nat → Bool} {p : Nat}, p ∈ lotOf m i F ↔ i ≤ p ∧ p < i + m ∧ F p = true
  | 0, i, F, p => by simp [lotOf]; omega
  | m+1, i, F, p => by
    unfold lotOf
    split
    · rename_i h
      rw [List.mem_cons, mem_lotOf]
      constructor
      · rintro (rfl | h')
        · exact ⟨Nat.le_refl _, by omega, h⟩
        · exact ⟨by omega, by omega, h'.2.2⟩
      · intro h'
        by_cases hp : p = i
        · exact Or.inl hp
        · exact Or.inr ⟨by omega, by omega, h'.2.2⟩
    · rename_i h
      rw [mem_lotOf]
      constructor
      · intro h'
        exact ⟨by omega, by omega, h'.2.2⟩
      · intro h'
        have hp : p ≠ i := fun e => h (e ▸ h'.2.2)
        exact ⟨by omega, by omega, h'.2.2⟩
theorem has_lotOf {m i : Nat} {F : Nat → Bool} {p : Nat} (h1 : i ≤ p) (h2 : p < i + m) : has (lotOf m i F) p = F p := by
  unfold has
  rw [Bool.eq_iff_iff, decide_eq_true_iff, mem_lotOf]
  simp [h1, h2]
theorem fac_of_path {g : List Int} : ∀ {w : List Nat} {i : Nat} {F : Nat → Bool} {y : List Int}, Path g w i F y → lotOf w.length i F ∈ fac g w i y
  | [], i, F, y, h => by
    unfold Path at h
    simp [fac, lotOf, h]
  | s :: w, i, F, y, h => by
    unfold Path at h
    unfold fac
    rw [List.mem_append]
    by_cases hf : F i = true
    · rw [if_pos hf] at h
      right
      rw [List.mem_map]
      exact ⟨_, fac_of_path h, by simp [lotOf, hf]⟩
    · rw [if_neg hf] at h
      left
      rw [if_pos h.1]
      have := fac_of_path h.2
      simpa [lotOf, hf] using this
structure IsFac (g : List Int) (w : List Nat) (i : Nat) (y : List Int) (I : List Nat) : Prop where
  lo : ∀ p ∈ I, i ≤ p ∧ p < i + w.length
  eq : lotOf w.length i (has I) = I
  path : Path g w i (has I) y
theorem isFac_of {g : List Int} : ∀ {w : List Nat} {i : Nat} {y : List Int} {I : List Nat}, I ∈ fac g w i y → IsFac g w i y I
  | [], i, y, I, h => by
    unfold fac at h
    split at h
    · rename_i e
      simp at h
      subst h
      exact ⟨by simp, rfl, e⟩
    · simp at h
  | s :: w, i, y, I, h => by
    unfold fac at h
    rw [List.mem_append] at h
    rcases h with h | h
    · split at h
      · rename_i hd
        have f := isFac_of h
        have hn : has I i = false := by
          unfold has
          rw [decide_eq_false_iff_not]
          intro hm
          have := (f.lo i hm).1
          omega
        refine ⟨fun p hp => ?_, ?_, ?_⟩
        · have := f.lo p hp
          simp; omega
        · simp only [List.length_cons]
          unfold lotOf
          rw [if_neg (by rw [hn]; decide)]
          exact f.eq
        · unfold Path
          rw [if_neg (by rw [hn]; decide)]
          exact ⟨hd, f.path⟩
      · simp at h
    · rw [List.mem_map] at h
      obtain ⟨J, hJ, rfl⟩ := h
      have f := isFac_of hJ
      have hy : has (i :: J) i = true := by simp [has]
      have hs : ∀ j, i + 1 ≤ j → has J j = has (i :: J) j := fun j hj => by
        unfold has
        rw [Bool.eq_iff_iff, decide_eq_true_iff, decide_eq_true_iff, List.mem_cons]
        constructor
        · exact Or.inr
        · rintro (h | h)
          · omega
          · exact h
      refine ⟨fun p hp => ?_, ?_, ?_⟩
      · rcases List.mem_cons.mp hp with rfl | hp
        · simp
        · have := f.lo p hp
          simp; omega
      · simp only [List.length_cons]
        unfold lotOf
        rw [if_pos hy, ← lotOf_congr (F := has J) (fun j h1 _ => hs j h1), f.eq]
      · unfold Path
        rw [if_pos hy]
        exact path_congr (fun j h1 _ => hs j h1) f.path
theorem mem_fac {g : List Int} {w : List Nat} {i : Nat} {y : List Int} {I : List Nat} : I ∈ fac g w i y ↔ IsFac g w i y I :=
  ⟨isFac_of, fun f => by rw [← f.eq]; exact fac_of_path f.path⟩
/-! ### the order -/
def Bef (I J : List Nat) : Prop := ∃ p, (∀ j, j < p → (j ∈ I ↔ j ∈ J)) ∧ p ∉ I ∧ p ∈ J
theorem Bef.asymm {I J : List Nat} (h : Bef I J) (h' : Bef J I) : False := by
  obtain ⟨p, e, n, m⟩ := h
  obtain ⟨q, e', n', m'⟩ := h'
  rcases Nat.lt_trichotomy p q with hl | rfl | hl
  · exact n ((e' p hl).mp m)
  · exact n m'
  · exact n' ((e q hl).mp m')
theorem fac_pairwise {g : List Int} : ∀ {w : List Nat} {i : Nat} {y : List Int}, (fac g w i y).Pairwise Bef
  | [], i, y => by
    unfold fac
    split <;> simp
  | s :: w, i, y => by
    unfold fac
    rw [List.pairwise_append]
    refine ⟨?_, ?_, ?_⟩
    · split
      · exact fac_pairwise
      · exact List.Pairwise.nil
    · rw [List.pairwise_map]
      refine (List.Pairwise.and_mem.mp fac_pairwise).imp ?_
      rintro I J ⟨hI, hJ, p, e, n, m⟩
      have hp := (isFac_of hJ).lo p m
      refine ⟨p, fun j hj => ?_, ?_, List.mem_cons_of_mem _ m⟩
      · rw [List.mem_cons, List.mem_cons, e j hj]
      · rw [List.mem_cons]
        rintro (h | h)
        · omega
        · exact n h
    · intro I hI J hJ
      split at hI
      · obtain ⟨J', hJ', rfl⟩ := List.mem_map.mp hJ
        have f := isFac_of hI
        have f' := isFac_of hJ'
        refine ⟨i, fun j hj => ?_, fun h => ?_, List.mem_cons_self⟩
        · constructor
          · intro h
            have := (f.lo j h).1
            omega
          · intro h
            rcases List.mem_cons.mp h with h | h
            · omega
            · have := (f'.lo j h).1
              omega
        · have := (f.lo i h).1
          omega
      · simp at hI
/-! ### the greatest lots that have all of a lot -/
def sup (F : Nat → Bool) (m i : Nat) (I : List Nat) : Bool := (List.range m).all fun k => !F (i + k) || has I (i + k)
theorem sup_iff {F : Nat → Bool} {m i : Nat} {I : List Nat} : sup F m i I = true ↔ ∀ p, i ≤ p → p < i + m → F p = true → p ∈ I := by
  unfold sup
  rw [List.all_eq_true]
  constructor
  · intro h p h1 h2 h3
    have := h (p - i) (List.mem_range.mpr (by omega))
    have e : i + (p - i) = p := by omega
    rw [e, h3] at this
    simpa [has] using this
  · intro h k hk
    have := List.mem_range.mp hk
    cases hf : F (i + k) with
    | false => rfl
    | true => simpa [has] using h (i + k) (by omega) (by omega) hf
def greedy (g : List Int) : List Nat → Nat → (Nat → Bool) → List Int → List Nat
  | [], _, _, _ => []
  | s :: w, i, F, y => if (!F i && (desc y s && reach g w (i+1) F (exch y s))) = true then greedy g w (i+1) F (exch y s) else i :: greedy g w (i+1) F y
def near (g : List Int) (w : List Nat) (i : Nat) (F : Nat → Bool) (y : List Int) : List (List Nat) := (fac g w i y).filter (sup F w.length i)
theorem near_cons {g : List Int} {s : Nat} {w : List Nat} {i : Nat} {F : Nat → Bool} {y : List Int} :
    near g (s :: w) i F y = (if (!F i && desc y s) = true then near g w (i+1) F (exch y s) else []) ++ (near g w (i+1) F y).map (i :: ·) := by
  unfold near
  rw [fac, List.filter_append]
  congr 1
  · by_cases hd : desc y s = true
    · rw [if_pos hd]
      cases hf : F i with
      | true =>
        simp only [Bool.not_true, Bool.false_and, Bool.false_eq_true, if_false]
        rw [List.filter_eq_nil_iff]
        intro I hI h
        have := sup_iff.mp h i (Nat.le_refl _) (by simp) hf
        have := ((isFac_of hI).lo i this).1
        omega
      | false =>
        simp only [Bool.not_false, Bool.true_and, hd, if_true]
        refine List.filter_congr fun I hI => ?_
        rw [Bool.eq_iff_iff, sup_iff, sup_iff]
        simp only [List.length_cons]
        constructor
        · intro h p h1 h2 h3
          exact h p (by omega) (by omega) h3
        · intro h p h1 h2 h3
          have : p ≠ i := fun e => by rw [e, hf] at h3; cases h3
          exact h p (by omega) (by omega) h3
    · rw [if_neg hd, if_neg (by simp [hd])]; rfl
  · rw [List.filter_map]
    congr 1
    refine List.filter_congr fun I hI => ?_
    simp only [Function.comp_apply]
    rw [Bool.eq_iff_iff, sup_iff, sup_iff]
    simp only [List.length_cons]
    constructor
    · intro h p h1 h2 h3
      rcases List.mem_cons.mp (h p (by omega) (by omega) h3) with e | e
      · omega
      · exact e
    · intro h p h1 h2 h3
      by_cases e : p = i
      · exact List.mem_cons.mpr (Or.inl e)
      · exact List.mem_cons_of_mem _ (h p (by omega) (by omega) h3)
theorem near_nil {g : List Int} {i : Nat} {F : Nat → Bool} {y : List Int} : near g [] i F y = if y = g then [[]] else [] := by
  unfold near fac
  split <;> simp [sup]
theorem near_head {g : List Int} : ∀ {w : List Nat} {i : Nat} {F : Nat → Bool} {y : List Int}, (reach g w i F y = true → (near g w i F y).head? = some (greedy g w i F y)) ∧ (reach g w i F y = false → near g w i F y = [])
  | [], i, F, y => by
    rw [near_nil]
    by_cases h : y = g <;> simp [reach, greedy, h]
  | s :: w, i, F, y => by
    have ih1 := near_head (g := g) (w := w) (i := i+1) (F := F) (y := y)
    have ih2 := near_head (g := g) (w := w) (i := i+1) (F := F) (y := exch y s)
    rw [near_cons]
    unfold reach greedy
    by_cases h1 : (!F i && desc y s) = true
    · have h1' := h1
      rw [Bool.and_eq_true] at h1'
      rw [if_pos h1, h1'.1, h1'.2]
      simp only [Bool.true_and]
      cases hr : reach g w (i+1) F (exch y s) with
      | true =>
        simp only [Bool.or_true, if_true]
        refine ⟨fun _ => ?_, fun h => by cases h⟩
        rw [List.head?_append, ih2.1 hr]; rfl
      | false =>
        simp only [Bool.or_false, Bool.false_eq_true, if_false]
        rw [ih2.2 hr, List.nil_append]
        refine ⟨fun h => ?_, fun h => by rw [ih1.2 h]; rfl⟩
        rw [List.head?_map, ih1.1 h]; rfl
    · have h2 : (!F i && (desc y s && reach g w (i+1) F (exch y s))) = false := by
        rw [← Bool.and_assoc]
        simp only [Bool.not_eq_true] at h1
        rw [h1]; rfl
      rw [if_neg h1, h2, List.nil_append]
      simp only [Bool.or_false, Bool.false_eq_true, if_false]
      refine ⟨fun h => ?_, fun h => by rw [ih1.2 h]; rfl⟩
      rw [List.head?_map, ih1.1 h]; rfl
end SSort
set_option autoImplicit false
namespace SSort
theorem runF_app : ∀ {w w' : List Nat} {x : List Int} {i : Nat} {F : Nat → Bool}, runF x (w ++ w') i F = runF (runF x w i F) w' (i + w.length) F
  | [], _, _, _, _ => rfl
  | s :: w, w', x, i, F => by
    show runF _ (w ++ w') (i+1) F = runF (runF _ w (i+1) F) w' _ F
    rw [runF_app]
    have : i + 1 + w.length = i + (s :: w).length := by simp; omega
    rw [this]
theorem runF_snoc {w : List Nat} {x : List Int} {F : Nat → Bool} {k s : Nat} (h : w[k]? = some s) : runF x (w.take (k+1)) 0 F = if F k = true then runF x (w.take k) 0 F else dn (runF x (w.take k) 0 F) s := by
  have hk := (List.getElem?_eq_some_iff.mp h).1
  rw [List.take_add_one, h]
  show runF x (w.take k ++ [s]) 0 F = _
  rw [runF_app, Nat.zero_add, List.length_take, Nat.min_eq_left (by omega)]
  rfl
def farB (n : Nat) (x g : List Int) : Bool := (List.range (n+1)).all fun i => (List.range (n+1)).all fun v => decide (cnt g i v ≤ cnt x i v)
theorem farB_iff {n : Nat} {x g : List Int} : farB n x g = true ↔ Far n x g := by
  unfold farB Far
  simp only [List.all_eq_true, List.mem_range, decide_eq_true_eq]
  constructor
  · intro h i hi v hv
    exact h i (by omega) v (by omega)
  · intro h i hi v hv
    exact h i (by omega) v (by omega)
theorem not_farB {n : Nat} {x g : List Int} {i v : Nat} (hi : i ≤ n) (hv : v ≤ n) (h : cnt x i v < cnt g i v) : farB n x g = false := by
  cases hf : farB n x g with
  | false => rfl
  | true =>
    have := farB_iff.mp hf i hi v hv
    omega
end SSort
set_option autoImplicit false
namespace SSort
/-! ### swap runs, pairs met, partners -/
def swp : List Int → List Nat → Nat → (Nat → Bool) → List Int
  | x, [], _, _ => x
  | x, s :: w, i, F => swp (if F i = true then x else exch x s) w (i+1) F
theorem swp_app : ∀ {w w' : List Nat} {x : List Int} {i : Nat} {F : Nat → Bool}, swp x (w ++ w') i F = swp (swp x w i F) w' (i + w.length) F
  | [], _, _, _, _ => rfl
  | s :: w, w', x, i, F => by
    show swp _ (w ++ w') (i+1) F = swp (swp _ w (i+1) F) w' _ F
    rw [swp_app]
    have : i + 1 + w.length = i + (s :: w).length := by simp; omega
    rw [this]
theorem swp_snoc {w : List Nat} {x : List Int} {F : Nat → Bool} {k s : Nat} (h : w[k]? = some s) : swp x (w.take (k+1)) 0 F = if F k = true then swp x (w.take k) 0 F else exch (swp x (w.take k) 0 F) s := by
  have hk := (List.getElem?_eq_some_iff.mp h).1
  rw [List.take_add_one, h]
  show swp x (w.take k ++ [s]) 0 F = _
  rw [swp_app, Nat.zero_add, List.length_take, Nat.min_eq_left (by omega)]
  rfl
theorem swp_row {n : Nat} : ∀ {w : List Nat} {x : List Int} {i : Nat} {F : Nat → Bool}, Wd n w → Row n x → Row n (swp x w i F)
  | [], _, _, _, _, R => R
  | s :: w, x, i, F, h, R => by
    unfold swp
    refine swp_row h.tail ?_
    split
    · exact R
    · exact R.exch h.head
/-- the pair met at place k -/
def mt (x : List Int) (w : List Nat) (F : Nat → Bool) (k : Nat) : Int × Int := (gd (swp x (w.take k) 0 F) (w.getD k 0), gd (swp x (w.take k) 0 F) (w.getD k 0 + 1))
def sp (p : Int × Int) : List Int := if p.1 ≤ p.2 then [p.1, p.2] else [p.2, p.1]
theorem sp_sort {p : Int × Int} {l : List Int} (h : l.Perm [p.1, p.2]) (hs : l.Pairwise (· ≤ ·)) : l = sp p := by
  obtain ⟨a, b⟩ := p
  have hl := h.length_eq
  match l, hl with
  | [c, d], _ =>
    have hcd : c ≤ d := by simpa using hs
    unfold sp
    have h1 : c = a ∨ c = b := by simpa using h.mem_iff (a := c) |>.mp (by simp)
    have hsum := h
    rcases h1 with rfl | rfl
    · have h2 := (List.perm_cons c).mp h
      have h3 := List.perm_singleton.mp h2
      cases h3
      dsimp only at hcd ⊢
      rw [if_pos hcd]
    · have h2 : [c, d].Perm [c, a] := h.trans (List.Perm.swap ..)
      have h3 := List.perm_singleton.mp ((List.perm_cons c).mp h2)
      cases h3
      dsimp only at hcd ⊢
      by_cases he : a ≤ c
      · have : c = a := by omega
        subst this; rw [if_pos he]
      · rw [if_neg he]
/-- the last place below k that is left and meets the pair -/
def lp (m : Nat → Int × Int) (F : Nat → Bool) (key : List Int) : Nat → Option Nat
  | 0 => none
  | k + 1 => if (!F k && decide (sp (m k) = key)) = true then some k else lp m F key k
/-- the place where what is met at p passes -/
def part (n : Nat) (w : List Nat) (L : List Nat) (p : Nat) : Option Nat := lp (mt (turned n) w (has L)) (has L) (sp (mt (turned n) w (has L) p)) w.length
/-- the places whose partner stands behind them -/
def rise (n : Nat) (w : List Nat) (L : List Nat) : List Nat := L.filter fun p => match part n w L p with
  | some q => decide (p < q)
  | none => false
end SSort
set_option autoImplicit false
namespace SSort
/-! ### the table's numbers -/
def ways (g : List Int) : List Nat → List Int → Nat
  | [], x => if x = g then 1 else 0
  | s :: w, x => ways g w x + if desc x s = true then ways g w (exch x s) else 0
theorem fac_len {g : List Int} : ∀ {w : List Nat} {i : Nat} {x : List Int}, (fac g w i x).length = ways g w x
  | [], i, x => by
    unfold fac ways
    split <;> rfl
  | s :: w, i, x => by
    unfold fac ways
    rw [List.length_append, List.length_map, fac_len (x := x), Nat.add_comm]
    congr 1
    split
    · exact fac_len
    · rfl
theorem ways_le {g : List Int} : ∀ {w : List Nat} {x : List Int}, ways g w x ≤ 2 ^ w.length
  | [], x => by unfold ways; split <;> simp
  | s :: w, x => by
    unfold ways
    have h1 := ways_le (g := g) (w := w) (x := x)
    have h2 := ways_le (g := g) (w := w) (x := exch x s)
    rw [List.length_cons, Nat.pow_succ]
    split <;> omega
theorem exch_exch {x : List Int} {k : Nat} (h : k + 1 < x.length) : exch (exch x k) k = x := by
  obtain ⟨l, a, b, r, rfl, hl⟩ := split_at h
  rw [exch_l hl, exch_l hl]
theorem desc_exch {x : List Int} {k : Nat} (h : k + 1 < x.length) : desc (exch x k) k = decide (gd x k < gd x (k+1)) := by
  obtain ⟨l, a, b, r, rfl, hl⟩ := split_at h
  rw [exch_l hl, desc_l hl, (gd_l hl).1, (gd_l hl).2]
/-- what is told when the rows of Ks have been looked at -/
def hst (b : List Int → Nat) (d : Nat) (Ks : List (List Int)) (x : List Int) : Nat := b x + if desc x d = true ∧ exch x d ∈ Ks then b (exch x d) else 0
theorem hst_nil {b : List Int → Nat} {d : Nat} {x : List Int} : hst b d [] x = b x := by unfold hst; rw [if_neg (fun h => by simpa using h.2)]; rfl
theorem hst_asc {n : Nat} {b : List Int → Nat} {d : Nat} {Ks : List (List Int)} {x y : List Int} (hd : d + 1 < n) (Rx : Row n x) (Ry : Row n y) (hy : y ∉ Ks) (ha : gd y d < gd y (d+1)) :
    hst b d (Ks ++ [y]) x = if x = exch y d then hst b d Ks x + b y else hst b d Ks x := by
  have ly : d + 1 < y.length := by rw [Ry.len]; exact hd
  have lx : d + 1 < x.length := by rw [Rx.len]; exact hd
  by_cases he : x = exch y d
  · rw [if_pos he]
    have e1 : exch x d = y := by rw [he, exch_exch ly]
    have e2 : desc x d = true := by rw [he, desc_exch ly]; exact decide_eq_true ha
    unfold hst
    rw [e1, if_pos ⟨e2, by simp⟩, if_neg (fun h => hy h.2)]
    rfl
  · rw [if_neg he]
    have hne : exch x d ≠ y := fun z => he (by rw [← z, exch_exch lx])
    unfold hst
    simp [hne]
theorem hst_desc {n : Nat} {b : List Int → Nat} {d : Nat} {Ks : List (List Int)} {x y : List Int} (hd : d + 1 < n) (Rx : Row n x) (Ry : Row n y) (ha : ¬ gd y d < gd y (d+1)) :
    hst b d (Ks ++ [y]) x = hst b d Ks x := by
  have lx : d + 1 < x.length := by rw [Rx.len]; exact hd
  unfold hst
  by_cases hx : desc x d = true
  · have hne : exch x d ≠ y := fun z => ha (by
      have := desc_exch (x := exch x d) (k := d) (by rw [exch_length lx]; exact lx)
      rw [exch_exch lx, hx, z] at this
      exact of_decide_eq_true this.symm)
    simp [hne]
  · simp [hx]
theorem hst_all {g : List Int} {w : List Nat} {n d : Nat} {Ks : List (List Int)} {x : List Int} (hd : d + 1 < n) (Rx : Row n x) (h : ∀ y, Row n y → ways g w y ≠ 0 → y ∈ Ks) : hst (ways g w) d Ks x = ways g (d :: w) x := by
  rw [show ways g (d :: w) x = ways g w x + if desc x d = true then ways g w (exch x d) else 0 from rfl]
  unfold hst
  congr 1
  by_cases hx : desc x d = true
  · rw [if_pos hx]
    by_cases hm : exch x d ∈ Ks
    · rw [if_pos ⟨hx, hm⟩]
    · rw [if_neg (fun z => hm z.2)]
      by_cases hz : ways g w (exch x d) = 0
      · exact hz.symm
      · exact absurd (h _ (Rx.exch hd) hz) hm
  · rw [if_neg hx, if_neg (fun z => hx z.1)]
/-- the working row -/
def wk (x : List Int) (d : Nat) : Option (List Int) := if desc x d = true then some (exch x d) else none
/-- the ways on when the deed works -/
def wwk (g : List Int) (w : List Nat) (x : List Int) : Nat := match w with
  | [] => 0
  | s :: w => if desc x s = true then ways g w (exch x s) else 0
end SSort
set_option autoImplicit false
namespace SSort
theorem path_at {g : List Int} {F : Nat → Bool} : ∀ {w : List Nat} {i : Nat} {y : List Int}, Path g w i F y → ∀ k s, w[k]? = some s → F (i + k) = false → desc (swp y (w.take k) i F) s = true
  | [], _, _, _, k, s, h, _ => by simp at h
  | s0 :: w, i, y, hp, 0, s, h, hf => by
    simp at h
    subst h
    unfold Path at hp
    rw [Nat.add_zero] at hf
    rw [hf, if_neg (by decide)] at hp
    exact hp.1
  | s0 :: w, i, y, hp, k + 1, s, h, hf => by
    have h' : w[k]? = some s := by simpa using h
    unfold Path at hp
    show desc (swp (if F i = true then y else exch y s0) (w.take k) (i+1) F) s = true
    have hf' : F (i + 1 + k) = false := by rw [show i + 1 + k = i + (k + 1) by omega]; exact hf
    by_cases hc : F i = true
    · rw [if_pos hc] at hp ⊢
      exact path_at hp k s h' hf'
    · rw [if_neg hc] at hp ⊢
      exact path_at hp.2 k s h' hf'
theorem path_end {g : List Int} {F : Nat → Bool} : ∀ {w : List Nat} {i : Nat} {y : List Int}, Path g w i F y → swp y w i F = g
  | [], _, _, hp => hp
  | s0 :: w, i, y, hp => by
    unfold Path at hp
    unfold swp
    by_cases hc : F i = true
    · rw [if_pos hc] at hp ⊢
      exact path_end hp
    · rw [if_neg hc] at hp ⊢
      exact path_end hp.2
theorem wwk_drop {g : List Int} {wd : List Nat} {x : List Int} {k : Nat} (h : k < wd.length) : wwk g (wd.drop k) x = if desc x (wd.getD k 0) = true then ways g (wd.drop (k+1)) (exch x (wd.getD k 0)) else 0 := by
  have : wd.drop k = wd.getD k 0 :: wd.drop (k + 1) := by
    rw [List.drop_eq_getElem_cons h, List.getD_eq_getElem?_getD, List.getElem?_eq_getElem h]; rfl
  rw [this]; rfl
end SSort
set_option autoImplicit false
namespace SSort
def rb (g : List Int) (w : List Nat) (i : Nat) (F : Nat → Bool) (x : List Int) : Nat := if reach g w i F x = true then 1 else 0
theorem rb_pos {g : List Int} {w : List Nat} {i : Nat} {F : Nat → Bool} {x : List Int} : rb g w i F x ≠ 0 ↔ reach g w i F x = true := by
  unfold rb
  by_cases h : reach g w i F x = true
  · rw [if_pos h]; simp [h]
  · rw [if_neg h]; simp [h]
/-- what fails at i keeps the rows behind -/
theorem reach_fail {g : List Int} {d : Nat} {w : List Nat} {i : Nat} {F : Nat → Bool} {x : List Int} (hF : F i = true) : reach g (d :: w) i F x = reach g w (i+1) F x := by
  show (reach g w (i+1) F x || (!F i && (desc x d && reach g w (i+1) F (exch x d)))) = _
  rw [hF]; simp
theorem hst_reach {g : List Int} {w : List Nat} {n d i : Nat} {F : Nat → Bool} {Ks : List (List Int)} {x : List Int} (hd : d + 1 < n) (Rx : Row n x) (hF : F i = false) (h : ∀ y, Row n y → (y ∈ Ks ↔ reach g w (i+1) F y = true)) :
    hst (rb g w (i+1) F) d Ks x ≠ 0 ↔ reach g (d :: w) i F x = true := by
  show _ ↔ (reach g w (i+1) F x || (!F i && (desc x d && reach g w (i+1) F (exch x d)))) = true
  rw [hF]
  have h1 := rb_pos (g := g) (w := w) (i := i+1) (F := F) (x := x)
  have h2 := rb_pos (g := g) (w := w) (i := i+1) (F := F) (x := exch x d)
  have h3 := h _ (Rx.exch hd)
  unfold hst
  by_cases hx : desc x d = true
  · by_cases hr : reach g w (i+1) F (exch x d) = true
    · rw [if_pos ⟨hx, h3.mpr hr⟩, hx, hr]
      have := h2.mpr hr
      simp only [Bool.not_false, Bool.and_self, Bool.or_true, iff_true]
      omega
    · rw [if_neg (fun z => hr (h3.mp z.2)), Nat.add_zero, h1, hx]
      simp only [Bool.not_eq_true] at hr
      rw [hr]; simp
  · rw [if_neg (fun z => hx z.1), Nat.add_zero, h1]
    simp only [Bool.not_eq_true] at hx
    rw [hx]; simp
end SSort
set_option autoImplicit false
namespace SSort
/-! ### transposed cards -/
def tr (a b c : Int) : Int := if c = a then b else if c = b then a else c
theorem tr_a {a b : Int} : tr a b a = b := if_pos rfl
theorem tr_b {a b : Int} : tr a b b = a := by
  unfold tr
  by_cases h : b = a
  · rw [if_pos h, h]
  · rw [if_neg h, if_pos rfl]
theorem tr_o {a b c : Int} (h1 : c ≠ a) (h2 : c ≠ b) : tr a b c = c := by unfold tr; rw [if_neg h1, if_neg h2]
theorem tr_tr {a b c : Int} : tr a b (tr a b c) = c := by
  by_cases h1 : c = a
  · subst h1; rw [tr_a, tr_b]
  · by_cases h2 : c = b
    · subst h2; rw [tr_b, tr_a]
    · rw [tr_o h1 h2, tr_o h1 h2]
theorem tr_inj {a b c d : Int} (h : tr a b c = tr a b d) : c = d := by rw [← tr_tr (a := a) (b := b) (c := c), h, tr_tr]
theorem gd_map {x : List Int} {k : Nat} {f : Int → Int} (h : k < x.length) : gd (x.map f) k = f (gd x k) := by
  unfold gd
  rw [List.getD_eq_getElem?_getD, List.getD_eq_getElem?_getD, List.getElem?_map, List.getElem?_eq_getElem h]; rfl
theorem exch_map {x : List Int} {k : Nat} {f : Int → Int} (h : k + 1 < x.length) : exch (x.map f) k = (exch x k).map f := by
  unfold exch
  rw [gd_map h, gd_map (by omega)]
  simp [List.map_take, List.map_drop]
theorem exch_tr {x : List Int} {k : Nat} (h : k + 1 < x.length) (hn : x.Nodup) : exch x k = x.map (tr (gd x k) (gd x (k+1))) := by
  obtain ⟨l, a, b, r, rfl, hl⟩ := split_at h
  rw [exch_l hl, (gd_l hl).1, (gd_l hl).2, List.map_append, List.map_cons, List.map_cons, tr_a, tr_b]
  have hl' : l.map (tr a b) = l := by
    refine (List.map_congr_left fun c hc => ?_).trans (List.map_id l)
    have h1 := List.nodup_append.mp hn
    exact tr_o (fun z => h1.2.2 c hc a (by simp) z) (fun z => h1.2.2 c hc b (by simp) z)
  have hr' : r.map (tr a b) = r := by
    refine (List.map_congr_left fun c hc => ?_).trans (List.map_id r)
    have h1 := (List.nodup_append.mp hn).2.1
    rw [List.nodup_cons, List.nodup_cons] at h1
    exact tr_o (fun z => h1.1 (by rw [← z]; exact List.mem_cons_of_mem _ hc)) (fun z => h1.2.1 (by rw [← z]; exact hc))
  rw [hl', hr']
theorem swp_map {n : Nat} {f : Int → Int} : ∀ {w : List Nat} {x : List Int} {i : Nat} {F : Nat → Bool}, Wd n w → x.length = n → swp (x.map f) w i F = (swp x w i F).map f
  | [], _, _, _, _, _ => rfl
  | s :: w, x, i, F, h, hl => by
    unfold swp
    by_cases hf : F i = true
    · rw [if_pos hf, if_pos hf]; exact swp_map h.tail hl
    · rw [if_neg hf, if_neg hf, exch_map (by rw [hl]; exact h.head)]
      exact swp_map h.tail (by rw [exch_length (by rw [hl]; exact h.head)]; exact hl)
theorem swp_length {n : Nat} : ∀ {w : List Nat} {x : List Int} {i : Nat} {F : Nat → Bool}, Wd n w → x.length = n → (swp x w i F).length = n
  | [], _, _, _, _, hl => hl
  | s :: w, x, i, F, h, hl => by
    unfold swp
    refine swp_length h.tail ?_
    split
    · exact hl
    · rw [exch_length (by rw [hl]; exact h.head)]; exact hl
theorem exch_inj {x y : List Int} {k : Nat} (hx : k + 1 < x.length) (hy : k + 1 < y.length) (e : exch x k = exch y k) : x = y := by
  rw [← exch_exch hx, e, exch_exch hy]
theorem swp_inj {n : Nat} : ∀ {w : List Nat} {x y : List Int} {i : Nat} {F : Nat → Bool}, Wd n w → x.length = n → y.length = n → swp x w i F = swp y w i F → x = y
  | [], _, _, _, _, _, _, _, e => e
  | s :: w, x, y, i, F, h, hx, hy, e => by
    unfold swp at e
    have hs := h.head
    by_cases hf : F i = true
    · rw [if_pos hf, if_pos hf] at e
      exact swp_inj h.tail hx hy e
    · rw [if_neg hf, if_neg hf] at e
      exact exch_inj (by omega) (by omega) (swp_inj h.tail (by rw [exch_length (by omega)]; exact hx) (by rw [exch_length (by omega)]; exact hy) e)
theorem swp_congr : ∀ {w : List Nat} {x : List Int} {i : Nat} {F F' : Nat → Bool}, (∀ j, i ≤ j → j < i + w.length → F j = F' j) → swp x w i F = swp x w i F'
  | [], _, _, _, _, _ => rfl
  | s :: w, x, i, F, F', h => by
    unfold swp
    rw [h i (Nat.le_refl _) (by simp)]
    exact swp_congr fun j h1 h2 => h j (by omega) (by rw [List.length_cons]; omega)
/-- the unordered pair -/
theorem sp_iff {a b c d : Int} : sp (a, b) = sp (c, d) ↔ (a = c ∧ b = d) ∨ (a = d ∧ b = c) := by
  unfold sp
  dsimp only
  by_cases h1 : a ≤ b <;> by_cases h2 : c ≤ d
  · rw [if_pos h1, if_pos h2]; simp; omega
  · rw [if_pos h1, if_neg h2]; simp; omega
  · rw [if_neg h1, if_pos h2]; simp; omega
  · rw [if_neg h1, if_neg h2]; simp; omega
theorem tr_sp {a b c d : Int} (h : sp (a, b) = sp (c, d)) (e : Int) : tr a b e = tr c d e := by
  rcases sp_iff.mp h with ⟨rfl, rfl⟩ | ⟨rfl, rfl⟩
  · rfl
  · by_cases h1 : e = a
    · subst h1; rw [tr_a, tr_b]
    · by_cases h2 : e = b
      · subst h2; rw [tr_b, tr_a]
      · rw [tr_o h1 h2, tr_o h2 h1]
theorem sp_of_tr {x : List Int} {a b c d : Int} (ha : a ∈ x) (hab : a ≠ b) (hcd : c ≠ d) (h : x.map (tr a b) = x.map (tr c d)) : sp (a, b) = sp (c, d) := by
  have e := List.map_inj_left.mp h a ha
  rw [tr_a] at e
  rw [sp_iff]
  by_cases h1 : a = c
  · subst h1; rw [tr_a] at e; exact .inl ⟨rfl, e⟩
  · by_cases h2 : a = d
    · subst h2; rw [tr_b] at e; exact .inr ⟨rfl, e⟩
    · rw [tr_o h1 h2] at e; exact absurd e.symm hab
theorem sp_map {a b c d e f : Int} (hcd : sp (c, d) = sp (e, f)) : sp (tr a b c, tr a b d) = sp (tr a b e, tr a b f) := by
  rcases sp_iff.mp hcd with ⟨rfl, rfl⟩ | ⟨rfl, rfl⟩
  · rfl
  · exact sp_iff.mpr (.inr ⟨rfl, rfl⟩)
/-! ### two runs that part at one place and meet at another -/
/-- row before place k -/
abbrev rw_ (x : List Int) (w : List Nat) (F : Nat → Bool) (k : Nat) : List Int := swp x (w.take k) 0 F
theorem swp_split {w : List Nat} {x : List Int} {F : Nat → Bool} {k : Nat} (h : k < w.length) : swp x w 0 F = swp (if F k = true then rw_ x w F k else exch (rw_ x w F k) (w.getD k 0)) (w.drop (k+1)) (k+1) F := by
  have hs : w[k]? = some (w.getD k 0) := by rw [List.getD_eq_getElem?_getD, List.getElem?_eq_getElem h]; rfl
  have : w = w.take (k+1) ++ w.drop (k+1) := (List.take_append_drop _ _).symm
  have e1 : swp x w 0 F = swp x (w.take (k+1) ++ w.drop (k+1)) 0 F := by rw [List.take_append_drop]
  rw [e1, swp_app, swp_snoc hs, List.length_take, Nat.min_eq_left (by omega), Nat.zero_add]
/-- from place i to place k -/
theorem swp_mid {w : List Nat} {x : List Int} {F : Nat → Bool} {i k : Nat} (h : i ≤ k) (hk : k ≤ w.length) : rw_ x w F k = swp (rw_ x w F i) ((w.take k).drop i) i F := by
  have e : w.take k = w.take i ++ (w.take k).drop i := by
    conv => lhs; rw [← List.take_append_drop i (w.take k)]
    rw [List.take_take, Nat.min_eq_left h]
  unfold rw_
  conv => lhs; rw [e]
  rw [swp_app, Nat.zero_add, List.length_take, Nat.min_eq_left (by omega)]
theorem wd_getD {n : Nat} {w : List Nat} {k : Nat} (hW : Wd n w) (h : k < w.length) : w.getD k 0 + 1 < n := hW _ (by rw [List.getD_eq_getElem?_getD, List.getElem?_eq_getElem h]; exact List.getElem_mem _)
theorem wd_take {n : Nat} {w : List Nat} {k : Nat} (hW : Wd n w) : Wd n (w.take k) := fun s hs => hW s (List.mem_of_mem_take hs)
theorem wd_drop {n : Nat} {w : List Nat} {k : Nat} (hW : Wd n w) : Wd n (w.drop k) := fun s hs => hW s (List.mem_of_mem_drop hs)
/-- flip the places p, q -/
def flip (F : Nat → Bool) (p q : Nat) : Nat → Bool := fun j => if j = p then false else if j = q then true else F j
theorem row_ne {n : Nat} {x : List Int} {k : Nat} (R : Row n x) (h : k + 1 < n) : gd x k ≠ gd x (k+1) := by
  obtain ⟨l, a, b, r, rfl, hl⟩ := split_at (x := x) (k := k) (by rw [R.len]; exact h)
  rw [(gd_l hl).1, (gd_l hl).2]
  have h1 := (List.nodup_append.mp R.nd).2.1
  rw [List.nodup_cons] at h1
  exact fun z => h1.1 (by rw [z]; simp)
theorem gd_mem {x : List Int} {k : Nat} (h : k < x.length) : gd x k ∈ x := by
  unfold gd
  rw [List.getD_eq_getElem?_getD, List.getElem?_eq_getElem h]; exact List.getElem_mem _
/-- between the two, the row is transposed -/
theorem flip_mid {n : Nat} {w : List Nat} {x : List Int} {F : Nat → Bool} {p q k : Nat} (hW : Wd n w) (Rx : Row n x) (hp : p < w.length) (hF : F p = true) (h1 : p < k) (h2 : k ≤ w.length) (h3 : k ≤ q ∨ w.length ≤ q) :
    rw_ x w (flip F p q) k = (rw_ x w F k).map (tr (mt x w F p).1 (mt x w F p).2) := by
  have hs : w[p]? = some (w.getD p 0) := by rw [List.getD_eq_getElem?_getD, List.getElem?_eq_getElem hp]; rfl
  have Rp : Row n (rw_ x w F p) := swp_row (wd_take hW) Rx
  have hd := wd_getD hW hp
  have e0 : rw_ x w (flip F p q) p = rw_ x w F p := swp_congr fun j _ hj => by
    rw [List.length_take] at hj
    unfold flip; rw [if_neg (by omega), if_neg (by omega)]
  have e1 : rw_ x w (flip F p q) (p+1) = (rw_ x w F p).map (tr (mt x w F p).1 (mt x w F p).2) := by
    have := swp_snoc (x := x) (F := flip F p q) hs
    show swp x (w.take (p+1)) 0 (flip F p q) = _
    rw [this, if_neg (by unfold flip; rw [if_pos rfl]; decide)]
    have e0' : swp x (w.take p) 0 (flip F p q) = rw_ x w F p := e0
    rw [e0', exch_tr (by rw [Rp.len]; exact hd) Rp.nd]; rfl
  have e2 : rw_ x w F (p+1) = rw_ x w F p := by
    show swp x (w.take (p+1)) 0 F = _
    rw [swp_snoc hs, if_pos hF]
  rw [swp_mid (i := p+1) (by omega) h2, swp_mid (x := x) (F := F) (i := p+1) (by omega) h2, e1, e2]
  rw [swp_congr (F := flip F p q) (F' := F) fun j hj1 hj2 => by
    rw [List.length_drop, List.length_take] at hj2
    unfold flip; rw [if_neg (by omega), if_neg (by omega)]]
  exact swp_map (wd_drop (wd_take hW)) Rp.len
theorem exchange_lt {n : Nat} {w : List Nat} {x : List Int} {F : Nat → Bool} {p q : Nat} (hW : Wd n w) (Rx : Row n x) (hpq : p < q) (hq : q < w.length) (hFp : F p = true) (hFq : F q = false) :
    swp x w 0 (flip F p q) = swp x w 0 F ↔ sp (mt x w F p) = sp (mt x w F q) := by
  have hp : p < w.length := by omega
  have hdq := wd_getD hW hq
  have hdp := wd_getD hW hp
  have Rp : Row n (rw_ x w F p) := swp_row (wd_take hW) Rx
  have Rq : Row n (rw_ x w F q) := swp_row (wd_take hW) Rx
  have hm := flip_mid (q := q) hW Rx hp hFp hpq (by omega) (.inl (Nat.le_refl _))
  rw [swp_split hq, swp_split (F := F) hq, if_pos (by unfold flip; rw [if_neg (by omega), if_pos rfl]), hFq, if_neg (by decide), hm]
  rw [swp_congr (F := flip F p q) (F' := F) fun j hj1 _ => by unfold flip; rw [if_neg (by omega), if_neg (by omega)]]
  have hexq := exch_tr (x := rw_ x w F q) (k := w.getD q 0) (by rw [Rq.len]; exact hdq) Rq.nd
  rw [hexq]
  have hnp : (mt x w F p).1 ≠ (mt x w F p).2 := row_ne Rp hdp
  have hnq : (mt x w F q).1 ≠ (mt x w F q).2 := row_ne Rq hdq
  constructor
  · intro e
    have := swp_inj (wd_drop hW) (by rw [List.length_map]; exact Rq.len) (by rw [List.length_map]; exact Rq.len) e
    have hmem : (mt x w F q).1 ∈ rw_ x w F q := gd_mem (by rw [Rq.len]; omega)
    exact (sp_of_tr (x := rw_ x w F q) (a := (mt x w F q).1) (b := (mt x w F q).2) hmem hnq hnp this.symm).symm
  · intro e
    congr 1
    refine List.map_congr_left fun c _ => ?_
    exact tr_sp e c
theorem flip_flip {F : Nat → Bool} {p q : Nat} (hpq : p ≠ q) (hFp : F p = true) (hFq : F q = false) : flip (flip F p q) q p = F := by
  funext j
  unfold flip
  by_cases h1 : j = q
  · rw [if_pos h1, h1, hFq]
  · by_cases h2 : j = p
    · rw [if_neg h1, if_pos h2, h2, hFp]
    · rw [if_neg h1, if_neg h2, if_neg h2, if_neg h1]
theorem sp_tr_pair {a b c d : Int} : sp (tr a b c, tr a b d) = sp (a, b) ↔ sp (c, d) = sp (a, b) := by
  constructor
  · intro h
    have := sp_map (a := a) (b := b) h
    rw [tr_tr, tr_tr, tr_a, tr_b] at this
    rw [this]; exact sp_iff.mpr (.inr ⟨rfl, rfl⟩)
  · intro h
    have := sp_map (a := a) (b := b) h
    rw [tr_a, tr_b] at this
    rw [this]; exact sp_iff.mpr (.inr ⟨rfl, rfl⟩)
theorem exchange {n : Nat} {w : List Nat} {x : List Int} {F : Nat → Bool} {p q : Nat} (hW : Wd n w) (Rx : Row n x) (hp : p < w.length) (hq : q < w.length) (hFp : F p = true) (hFq : F q = false) :
    swp x w 0 (flip F p q) = swp x w 0 F ↔ sp (mt x w F p) = sp (mt x w F q) := by
  rcases Nat.lt_trichotomy p q with hl | rfl | hl
  · exact exchange_lt hW Rx hl hq hFp hFq
  · rw [hFp] at hFq; cases hFq
  · have hne : p ≠ q := by omega
    have hG : flip (flip F p q) q p = F := flip_flip hne hFp hFq
    have hGq : flip F p q q = true := by unfold flip; rw [if_neg (by omega), if_pos rfl]
    have hGp : flip F p q p = false := by unfold flip; rw [if_pos rfl]
    have h1 := exchange_lt (F := flip F p q) hW Rx hl hp hGq hGp
    rw [hG] at h1
    rw [eq_comm, h1]
    -- the pair at q is the same, that at p is transposed
    have eq0 : mt x w (flip F p q) q = mt x w F q := by
      have : rw_ x w (flip F p q) q = rw_ x w F q := swp_congr fun j _ hj => by
        rw [List.length_take] at hj
        unfold flip; rw [if_neg (by omega), if_neg (by omega)]
      unfold mt
      have this' : swp x (w.take q) 0 (flip F p q) = swp x (w.take q) 0 F := this
      rw [this']
    have hm := flip_mid (F := flip F p q) (p := q) (q := p) (k := p) hW Rx hq hGq hl (by omega) (.inl (Nat.le_refl _))
    rw [hG, eq0] at hm
    have Rp : Row n (rw_ x w F p) := swp_row (wd_take hW) Rx
    have RpG : Row n (rw_ x w (flip F p q) p) := swp_row (wd_take hW) Rx
    have hdp := wd_getD hW hp
    have e1 : mt x w F p = (tr (mt x w F q).1 (mt x w F q).2 (mt x w (flip F p q) p).1, tr (mt x w F q).1 (mt x w F q).2 (mt x w (flip F p q) p).2) := by
      have hm' : swp x (w.take p) 0 F = (rw_ x w (flip F p q) p).map (tr (mt x w F q).1 (mt x w F q).2) := hm
      unfold mt
      rw [hm', gd_map (by rw [RpG.len]; omega), gd_map (by rw [RpG.len]; omega)]
      rfl
    rw [eq0]
    rw [show sp (mt x w F p) = sp (tr (mt x w F q).1 (mt x w F q).2 (mt x w (flip F p q) p).1, tr (mt x w F q).1 (mt x w F q).2 (mt x w (flip F p q) p).2) from congrArg sp e1]
    constructor
    · intro h
      exact sp_tr_pair.mpr h.symm
    · intro h
      exact (sp_tr_pair.mp h).symm
end SSort
set_option autoImplicit false
set_option linter.unusedVariables false
namespace SSort
/-! ### places of cards -/
def pos : List Int → Int → Nat
  | [], _ => 0
  | y :: l, e => if e = y then 0 else pos l e + 1
theorem pos_self {y : Int} {l : List Int} : pos (y :: l) y = 0 := if_pos rfl
theorem pos_ne {y e : Int} {l : List Int} (h : e ≠ y) : pos (y :: l) e = pos l e + 1 := if_neg h
/-- a stands before b -/
def bf (x : List Int) (a b : Int) : Prop := pos x a < pos x b
theorem bf_exch {a b c d : Int} (hcd : c ≠ d) {r : List Int} (hn : ¬ (a = c ∧ b = d)) : ∀ {l : List Int}, bf (l ++ c :: d :: r) a b → bf (l ++ d :: c :: r) a b
  | [], h => by
    unfold bf at *
    show pos (d :: c :: r) a < pos (d :: c :: r) b
    have h : pos (c :: d :: r) a < pos (c :: d :: r) b := h
    by_cases ac : a = c
    · subst ac
      by_cases bd : b = d
      · exact absurd ⟨rfl, bd⟩ hn
      · by_cases bc : b = a
        · subst bc; omega
        · rw [pos_ne hcd, pos_self, pos_ne bd, pos_ne bc]; omega
    · by_cases ad : a = d
      · subst ad
        by_cases bc : b = c
        · subst bc
          rw [pos_self] at h; omega
        · by_cases ba : b = a
          · subst ba; omega
          · rw [pos_self, pos_ne ba]; omega
      · by_cases bc : b = c
        · subst bc; rw [pos_self] at h; omega
        · by_cases bd : b = d
          · subst bd
            rw [pos_ne ac, pos_ne ad, pos_ne bc, pos_self] at h; omega
          · rw [pos_ne ac, pos_ne ad, pos_ne bc, pos_ne bd] at h
            rw [pos_ne ad, pos_ne ac, pos_ne bd, pos_ne bc]; exact h
  | y :: l, h => by
    unfold bf at *
    show pos (y :: (l ++ d :: c :: r)) a < pos (y :: (l ++ d :: c :: r)) b
    have h : pos (y :: (l ++ c :: d :: r)) a < pos (y :: (l ++ c :: d :: r)) b := h
    by_cases ay : a = y
    · subst ay
      by_cases bt : b = a
      · subst bt; omega
      · rw [pos_self, pos_ne bt]; omega
    · by_cases bt : b = y
      · subst bt; rw [pos_self] at h; omega
      · rw [pos_ne ay, pos_ne bt] at h ⊢
        have := bf_exch hcd hn (l := l) (show bf (l ++ c :: d :: r) a b from by unfold bf; omega)
        unfold bf at this; omega
theorem bf_adj {c d : Int} (hcd : c ≠ d) {r : List Int} : ∀ {l : List Int}, c ∉ l → d ∉ l → bf (l ++ c :: d :: r) c d
  | [], _, _ => by
    unfold bf
    show pos (c :: d :: r) c < pos (c :: d :: r) d
    rw [pos_self, pos_ne (Ne.symm hcd)]; omega
  | y :: l, h1, h2 => by
    have := bf_adj hcd (r := r) (l := l) (fun z => h1 (List.mem_cons_of_mem _ z)) (fun z => h2 (List.mem_cons_of_mem _ z))
    unfold bf at *
    show pos (y :: (l ++ c :: d :: r)) c < pos (y :: (l ++ c :: d :: r)) d
    rw [pos_ne (fun z => h1 (by rw [z]; exact List.mem_cons_self)), pos_ne (fun z => h2 (by rw [z]; exact List.mem_cons_self))]; omega
theorem bf_split {a b : Int} : ∀ {x : List Int}, b ∈ x → bf x a b → ∃ l s, x = l ++ a :: s ∧ b ∈ s ∧ a ∉ l ∧ b ∉ l
  | [], h, _ => by cases h
  | y :: x, hb, h => by
    unfold bf at h
    by_cases ay : a = y
    · subst ay
      rw [pos_self] at h
      have hne : b ≠ a := fun z => by rw [z, pos_self] at h; omega
      rcases List.mem_cons.mp hb with e | e
      · exact absurd e hne
      · exact ⟨[], x, rfl, e, by simp, by simp⟩
    · have hne : b ≠ y := fun z => by rw [z, pos_self] at h; omega
      rw [pos_ne ay, pos_ne hne] at h
      rcases List.mem_cons.mp hb with e | e
      · exact absurd e hne
      · obtain ⟨l, s, e1, e2, e3, e4⟩ := bf_split e (show bf x a b from by unfold bf; omega)
        refine ⟨y :: l, s, by rw [e1]; rfl, e2, ?_, ?_⟩
        · simp [ay, e3]
        · simp [hne, e4]
/-- a swap keeps what it does not touch -/
theorem bf_keep {n : Nat} {x : List Int} {k : Nat} {a b : Int} (R : Row n x) (hk : k + 1 < n) (hn : ¬ (a = gd x k ∧ b = gd x (k+1))) (h : bf x a b) : bf (exch x k) a b := by
  have hne := row_ne R hk
  obtain ⟨l, c, d, r, rfl, hl⟩ := split_at (x := x) (k := k) (by rw [R.len]; exact hk)
  rw [(gd_l hl).1, (gd_l hl).2] at hn hne
  rw [exch_l hl]
  exact bf_exch hne hn h
theorem bf_pair {n : Nat} {x : List Int} {k : Nat} (R : Row n x) (hk : k + 1 < n) : bf x (gd x k) (gd x (k+1)) ∧ bf (exch x k) (gd x (k+1)) (gd x k) := by
  have hne := row_ne R hk
  obtain ⟨l, c, d, r, rfl, hl⟩ := split_at (x := x) (k := k) (by rw [R.len]; exact hk)
  rw [(gd_l hl).1, (gd_l hl).2] at hne ⊢
  rw [exch_l hl]
  have h1 := List.nodup_append.mp R.nd
  have hc : c ∉ l := fun z => h1.2.2 c z c (by simp) rfl
  have hd : d ∉ l := fun z => h1.2.2 d z d (by simp) rfl
  exact ⟨bf_adj hne hc hd, bf_adj (Ne.symm hne) hd hc⟩
/-- while no working place meets the pair -/
theorem bf_run {n : Nat} {a b : Int} : ∀ {w : List Nat} {x : List Int} {i : Nat} {F : Nat → Bool}, Wd n w → Row n x → bf x a b →
    (∀ k, k < w.length → F (i + k) = false → ¬ (a = gd (swp x (w.take k) i F) (w.getD k 0) ∧ b = gd (swp x (w.take k) i F) (w.getD k 0 + 1))) → bf (swp x w i F) a b
  | [], _, _, _, _, _, h, _ => h
  | s :: w, x, i, F, hW, R, h, hk => by
    unfold swp
    have h0 := hk 0 (by simp)
    refine bf_run hW.tail ?_ ?_ fun k hkl hF => ?_
    · split
      · exact R
      · exact R.exch hW.head
    · by_cases hf : F i = true
      · rw [if_pos hf]; exact h
      · rw [if_neg hf]
        refine bf_keep R hW.head ?_ h
        exact h0 (by simpa using hf)
    · have := hk (k+1) (by simp; omega) (by rw [show i + (k + 1) = i + 1 + k by omega]; exact hF)
      simpa [swp] using this
/-- a row on a path: what is in order stays so, and is not met by a working place -/
theorem path_bf {n : Nat} {g : List Int} {a b : Int} (hab : a < b) : ∀ {w : List Nat} {x : List Int} {i : Nat} {F : Nat → Bool}, Wd n w → Row n x → Path g w i F x → bf x a b →
    bf g a b ∧ ∀ k, k < w.length → F (i + k) = false → sp (gd (swp x (w.take k) i F) (w.getD k 0), gd (swp x (w.take k) i F) (w.getD k 0 + 1)) ≠ sp (a, b)
  | [], x, i, F, _, _, hp, h => by
    have hp : x = g := hp
    subst hp
    exact ⟨h, fun k hk => by simp at hk⟩
  | s :: w, x, i, F, hW, R, hp, h => by
    unfold Path at hp
    by_cases hf : F i = true
    · rw [if_pos hf] at hp
      obtain ⟨h1, h2⟩ := path_bf hab hW.tail R hp h
      refine ⟨h1, fun k hk hF => ?_⟩
      cases k with
      | zero => rw [Nat.add_zero, hf] at hF; cases hF
      | succ k =>
        have := h2 k (by simpa using hk) (by rw [show i + 1 + k = i + (k + 1) by omega]; exact hF)
        simpa [swp, hf] using this
    · rw [if_neg hf] at hp
      have hd := hp.1
      unfold desc at hd
      have hd := of_decide_eq_true hd
      have hpair := bf_pair R hW.head
      have hnot : ¬ (a = gd x s ∧ b = gd x (s+1)) := fun z => by rw [← z.1, ← z.2] at hd; omega
      have hnot2 : ¬ (b = gd x s ∧ a = gd x (s+1)) := fun z => by
        have := hpair.1
        rw [← z.1, ← z.2] at this
        unfold bf at h this; omega
      obtain ⟨h1, h2⟩ := path_bf hab hW.tail (R.exch hW.head) hp.2 (bf_keep R hW.head hnot h)
      refine ⟨h1, fun k hk hF => ?_⟩
      cases k with
      | zero =>
        intro z
        have z : sp (gd x s, gd x (s+1)) = sp (a, b) := z
        rcases sp_iff.mp z with ⟨e1, e2⟩ | ⟨e1, e2⟩
        · exact hnot ⟨e1.symm, e2.symm⟩
        · exact hnot2 ⟨e1.symm, e2.symm⟩
      | succ k =>
        have := h2 k (by simpa using hk) (by rw [show i + 1 + k = i + (k + 1) by omega]; exact hF)
        simpa [swp, hf] using this
/-- the rest of a path -/
theorem path_rest {g : List Int} {F : Nat → Bool} : ∀ {w : List Nat} {i k : Nat} {y : List Int}, k ≤ w.length → Path g w i F y → Path g (w.drop k) (i + k) F (swp y (w.take k) i F)
  | w, i, 0, y, _, h => by simpa [swp] using h
  | [], i, k + 1, y, hk, h => by simp at hk
  | s :: w, i, k + 1, y, hk, h => by
    unfold Path at h
    have e : i + (k + 1) = i + 1 + k := by omega
    rw [e]
    show Path g (w.drop k) (i + 1 + k) F (swp (if F i = true then y else exch y s) (w.take k) (i+1) F)
    by_cases hf : F i = true
    · rw [if_pos hf] at h ⊢
      exact path_rest (by simpa using hk) h
    · rw [if_neg hf] at h ⊢
      exact path_rest (by simpa using hk) h.2
/-- after a working place its pair is in order: it never passes again, and ends in order -/
theorem path_after {n : Nat} {g : List Int} {w : List Nat} {x : List Int} {F : Nat → Bool} {p : Nat} (hW : Wd n w) (R : Row n x) (hp : Path g w 0 F x) (h : p < w.length) (hF : F p = false) :
    bf g (mt x w F p).2 (mt x w F p).1 ∧ ∀ q, p < q → q < w.length → F q = false → sp (mt x w F q) ≠ sp (mt x w F p) := by
  have hs : w[p]? = some (w.getD p 0) := by rw [List.getD_eq_getElem?_getD, List.getElem?_eq_getElem h]; rfl
  have Rp : Row n (rw_ x w F p) := swp_row (wd_take hW) R
  have hd := wd_getD hW h
  have hdesc := path_at hp p _ hs (by rw [Nat.zero_add]; exact hF)
  unfold desc at hdesc
  have hdesc := of_decide_eq_true hdesc
  have hr := path_rest (k := p + 1) (by omega) hp
  rw [swp_snoc hs, if_neg (by rw [hF]; decide), Nat.zero_add] at hr
  have hb := (bf_pair Rp hd).2
  obtain ⟨h1, h2⟩ := path_bf (a := (mt x w F p).2) (b := (mt x w F p).1) hdesc (wd_drop hW) (Rp.exch hd) hr hb
  refine ⟨h1, fun q hpq hq hFq => ?_⟩
  have h3 := h2 (q - (p + 1)) (by rw [List.length_drop]; omega) (by rw [show p + 1 + (q - (p + 1)) = q by omega]; exact hFq)
  have e1 : swp (exch (rw_ x w F p) (w.getD p 0)) ((w.drop (p+1)).take (q - (p+1))) (p+1) F = rw_ x w F q := by
    rw [swp_mid (i := p+1) (k := q) (by omega) (by omega)]
    have : rw_ x w F (p+1) = exch (rw_ x w F p) (w.getD p 0) := by
      show swp x (w.take (p+1)) 0 F = _
      rw [swp_snoc hs, if_neg (by rw [hF]; decide)]
    rw [this, List.drop_take]
  have e2 : (w.drop (p+1)).getD (q - (p+1)) 0 = w.getD q 0 := by
    rw [List.getD_eq_getElem?_getD, List.getD_eq_getElem?_getD, List.getElem?_drop, show p + 1 + (q - (p + 1)) = q by omega]
  have e1' : swp (exch (swp x (w.take p) 0 F) (w.getD p 0)) ((w.drop (p+1)).take (q - (p+1))) (p+1) F = swp x (w.take q) 0 F := e1
  rw [e2, e1'] at h3
  intro z
  apply h3
  show sp (mt x w F q) = sp ((mt x w F p).2, (mt x w F p).1)
  rw [z]
  exact sp_iff.mpr (.inr ⟨rfl, rfl⟩)
/-- a pair passes once -/
theorem pass_once {n : Nat} {g : List Int} {w : List Nat} {x : List Int} {F : Nat → Bool} {p q : Nat} (hW : Wd n w) (R : Row n x) (hp : Path g w 0 F x) (h : p < w.length) (h' : q < w.length) (hF : F p = false) (hF' : F q = false)
    (e : sp (mt x w F p) = sp (mt x w F q)) : p = q := by
  rcases Nat.lt_trichotomy p q with hl | hl | hl
  · exact absurd e.symm ((path_after hW R hp h hF).2 q hl h' hF')
  · exact hl
  · exact absurd e ((path_after hW R hp h' hF').2 p hl h hF)
/-- what is out of order at p and in order at the end passes behind p -/
theorem pass_later {n : Nat} {w : List Nat} {x : List Int} {F : Nat → Bool} {p : Nat} (hW : Wd n w) (R : Row n x) (h : p < w.length) (hF : F p = true)
    (hno : ∀ q, p < q → q < w.length → F q = false → sp (mt x w F q) ≠ sp (mt x w F p)) : bf (swp x w 0 F) (mt x w F p).1 (mt x w F p).2 := by
  have hs : w[p]? = some (w.getD p 0) := by rw [List.getD_eq_getElem?_getD, List.getElem?_eq_getElem h]; rfl
  have Rp : Row n (rw_ x w F p) := swp_row (wd_take hW) R
  have hd := wd_getD hW h
  rw [swp_split h, if_pos hF]
  refine bf_run (wd_drop hW) Rp (bf_pair Rp hd).1 fun k hk hFk hz => ?_
  rw [List.length_drop] at hk
  have e1 : swp (rw_ x w F p) ((w.drop (p+1)).take k) (p+1) F = rw_ x w F (p + 1 + k) := by
    rw [swp_mid (i := p+1) (k := p + 1 + k) (by omega) (by omega)]
    have : rw_ x w F (p+1) = rw_ x w F p := by
      show swp x (w.take (p+1)) 0 F = _
      rw [swp_snoc hs, if_pos hF]
    rw [this, List.drop_take, show p + 1 + k - (p + 1) = k by omega]
  have e2 : (w.drop (p+1)).getD k 0 = w.getD (p + 1 + k) 0 := by
    rw [List.getD_eq_getElem?_getD, List.getD_eq_getElem?_getD, List.getElem?_drop]
  have e1' : swp (swp x (w.take p) 0 F) ((w.drop (p+1)).take k) (p+1) F = swp x (w.take (p + 1 + k)) 0 F := e1
  rw [e2, e1'] at hz
  refine hno (p + 1 + k) (by omega) (by omega) hFk ?_
  exact sp_iff.mpr (.inl ⟨hz.1.symm, hz.2.symm⟩)
end SSort
set_option autoImplicit false
set_option linter.unusedVariables false
namespace SSort
/-! ### inversions -/
def inv : List Int → Nat
  | [] => 0
  | a :: l => (l.filter fun c => decide (c < a)).length + inv l
theorem filt_perm {l l' : List Int} {p : Int → Bool} (h : l.Perm l') : (l.filter p).length = (l'.filter p).length := (h.filter p).length_eq
theorem inv_swap {a b : Int} (h : b < a) {r : List Int} : ∀ {l : List Int}, inv (l ++ a :: b :: r) = inv (l ++ b :: a :: r) + 1
  | [] => by
    show inv (a :: b :: r) = inv (b :: a :: r) + 1
    simp only [inv]
    rw [List.filter_cons_of_pos (by simpa using h), List.filter_cons_of_neg (by simp; omega), List.length_cons]; omega
  | c :: l => by
    show inv (c :: (l ++ a :: b :: r)) = inv (c :: (l ++ b :: a :: r)) + 1
    simp only [inv]
    rw [filt_perm (l := l ++ a :: b :: r) (l' := l ++ b :: a :: r) (List.Perm.append_left l (List.Perm.swap b a r)), inv_swap h]; omega
theorem inv_desc {n : Nat} {x : List Int} {k : Nat} (R : Row n x) (hk : k + 1 < n) (h : desc x k = true) : inv x = inv (exch x k) + 1 := by
  obtain ⟨l, a, b, r, rfl, hl⟩ := split_at (x := x) (k := k) (by rw [R.len]; exact hk)
  rw [desc_l hl] at h
  rw [exch_l hl]
  exact inv_swap (of_decide_eq_true h)
theorem inv_asc {n : Nat} {x : List Int} {k : Nat} (R : Row n x) (hk : k + 1 < n) (h : desc x k = false) : inv (exch x k) = inv x + 1 := by
  have hne := row_ne R hk
  obtain ⟨l, a, b, r, rfl, hl⟩ := split_at (x := x) (k := k) (by rw [R.len]; exact hk)
  rw [desc_l hl, decide_eq_false_iff_not] at h
  rw [(gd_l hl).1, (gd_l hl).2] at hne
  rw [exch_l hl]
  exact inv_swap (by omega)
/-- how many places work -/
def wkc : List Nat → Nat → (Nat → Bool) → Nat
  | [], _, _ => 0
  | _ :: w, i, F => (if F i = true then 0 else 1) + wkc w (i+1) F
theorem inv_run {n : Nat} : ∀ {w : List Nat} {x : List Int} {i : Nat} {F : Nat → Bool}, Wd n w → Row n x → inv x ≤ inv (swp x w i F) + wkc w i F
  | [], x, _, _, _, _ => by show inv x ≤ inv x + 0; omega
  | s :: w, x, i, F, h, R => by
    unfold swp wkc
    by_cases hf : F i = true
    · rw [if_pos hf, if_pos hf]
      have := inv_run (i := i+1) (F := F) h.tail R
      omega
    · rw [if_neg hf, if_neg hf]
      have := inv_run (i := i+1) (F := F) h.tail (R.exch h.head)
      cases hd : desc x s with
      | true => have := inv_desc R h.head hd; omega
      | false => have := inv_asc R h.head hd; omega
theorem path_count {n : Nat} {g : List Int} : ∀ {w : List Nat} {x : List Int} {i : Nat} {F : Nat → Bool}, Wd n w → Row n x → Path g w i F x → inv x = inv g + wkc w i F
  | [], x, _, _, _, _, h => by
    have h : x = g := h
    rw [h]; rfl
  | s :: w, x, i, F, h, R, hp => by
    unfold Path at hp
    unfold wkc
    by_cases hf : F i = true
    · rw [if_pos hf] at hp ⊢
      have := path_count h.tail R hp
      omega
    · rw [if_neg hf] at hp ⊢
      have := path_count h.tail (R.exch h.head) hp.2
      have := inv_desc R h.head hp.1
      omega
theorem path_of_count {n : Nat} {g : List Int} : ∀ {w : List Nat} {x : List Int} {i : Nat} {F : Nat → Bool}, Wd n w → Row n x → swp x w i F = g → inv x = inv g + wkc w i F → Path g w i F x
  | [], x, _, _, _, _, h, _ => h
  | s :: w, x, i, F, h, R, hg, hc => by
    unfold swp at hg
    unfold wkc at hc
    unfold Path
    by_cases hf : F i = true
    · rw [if_pos hf] at hg hc ⊢
      exact path_of_count h.tail R hg (by omega)
    · rw [if_neg hf] at hg hc ⊢
      have h1 := inv_run (i := i+1) (F := F) h.tail (R.exch h.head)
      rw [hg] at h1
      cases hd : desc x s with
      | true =>
        have h2 := inv_desc R h.head hd
        exact ⟨rfl, path_of_count h.tail (R.exch h.head) hg (by omega)⟩
      | false =>
        have h2 := inv_asc R h.head hd
        omega
theorem wkc_lot : ∀ {w : List Nat} {i : Nat} {F : Nat → Bool}, (lotOf w.length i F).length + wkc w i F = w.length
  | [], _, _ => rfl
  | s :: w, i, F => by
    rw [List.length_cons]
    unfold lotOf wkc
    have := wkc_lot (w := w) (i := i+1) (F := F)
    by_cases hf : F i = true
    · rw [if_pos hf, if_pos hf, List.length_cons]; omega
    · rw [if_neg hf, if_neg hf]; omega
theorem wkc_congr : ∀ {w : List Nat} {i : Nat} {F F' : Nat → Bool}, (∀ j, i ≤ j → j < i + w.length → F j = F' j) → wkc w i F = wkc w i F'
  | [], _, _, _, _ => rfl
  | s :: w, i, F, F', h => by
    unfold wkc
    rw [h i (Nat.le_refl _) (by simp), wkc_congr fun j h1 h2 => h j (by omega) (by rw [List.length_cons]; omega)]
/-- one place more works -/
theorem wkc_one : ∀ {w : List Nat} {i p : Nat} {F F' : Nat → Bool}, i ≤ p → p < i + w.length → F p = true → F' p = false → (∀ j, j ≠ p → F' j = F j) → wkc w i F' = wkc w i F + 1
  | [], i, p, _, _, h1, h2, _, _, _ => by simp at h2; omega
  | s :: w, i, p, F, F', h1, h2, h3, h4, h5 => by
    unfold wkc
    by_cases he : i = p
    · subst he
      rw [h3, h4, if_neg (by decide), if_pos rfl]
      rw [wkc_congr (F := F') (F' := F) fun j h6 _ => h5 j (by omega)]; omega
    · rw [h5 i he, wkc_one (by omega) (by rw [List.length_cons] at h2; omega) h3 h4 h5]; omega
theorem wkc_flip {w : List Nat} {F : Nat → Bool} {p q : Nat} (hp : p < w.length) (hq : q < w.length) (hFp : F p = true) (hFq : F q = false) : wkc w 0 (flip F p q) = wkc w 0 F := by
  have hne : p ≠ q := fun z => by rw [z, hFq] at hFp; cases hFp
  have h1 := wkc_one (w := w) (i := 0) (p := p) (F := F) (F' := fun j => if j = p then false else F j) (Nat.zero_le _) (by omega) hFp (if_pos rfl) (fun j hj => if_neg hj)
  have h2 := wkc_one (w := w) (i := 0) (p := q) (F := flip F p q) (F' := fun j => if j = p then false else F j) (Nat.zero_le _) (by omega) (by unfold flip; rw [if_neg (Ne.symm hne), if_pos rfl]) (by rw [if_neg (Ne.symm hne)]; exact hFq) (fun j hj => by
    unfold flip
    by_cases h : j = p
    · rw [if_pos h, if_pos h]
    · rw [if_neg h, if_neg h, if_neg hj])
  omega
/-! ### lots -/
theorem lotOf_lt : ∀ {m i : Nat} {F : Nat → Bool}, (lotOf m i F).Pairwise (· < ·)
  | 0, _, _ => .nil
  | m + 1, i, F => by
    unfold lotOf
    by_cases hf : F i = true
    · rw [if_pos hf]
      exact List.pairwise_cons.mpr ⟨fun p hp => by have := (mem_lotOf.mp hp).1; omega, lotOf_lt⟩
    · rw [if_neg hf]; exact lotOf_lt
theorem asc_ext : ∀ {I J : List Nat}, I.Pairwise (· < ·) → J.Pairwise (· < ·) → (∀ p, p ∈ I ↔ p ∈ J) → I = J
  | [], [], _, _, _ => rfl
  | [], b :: J, _, _, h => absurd ((h b).mpr List.mem_cons_self) (by simp)
  | a :: I, [], _, _, h => absurd ((h a).mp List.mem_cons_self) (by simp)
  | a :: I, b :: J, hI, hJ, h => by
    have h1 := List.pairwise_cons.mp hI
    have h2 := List.pairwise_cons.mp hJ
    have e : a = b := by
      rcases List.mem_cons.mp ((h a).mp List.mem_cons_self) with e | e
      · exact e
      · rcases List.mem_cons.mp ((h b).mpr List.mem_cons_self) with e' | e'
        · exact e'.symm
        · have := h2.1 a e; have := h1.1 b e'; omega
    subst e
    congr 1
    refine asc_ext h1.2 h2.2 fun p => ?_
    constructor
    · intro hp
      rcases List.mem_cons.mp ((h p).mp (List.mem_cons_of_mem _ hp)) with e | e
      · have := h1.1 p hp; omega
      · exact e
    · intro hp
      rcases List.mem_cons.mp ((h p).mpr (List.mem_cons_of_mem _ hp)) with e | e
      · have := h2.1 p hp; omega
      · exact e
theorem asc_nodup {I : List Nat} (h : I.Pairwise (· < ·)) : I.Nodup := by
  rw [List.nodup_iff_pairwise_ne]
  exact h.imp fun h => Nat.ne_of_lt h
section
variable {g : List Int} {w : List Nat} {y : List Int} {I J : List Nat} {n : Nat}
theorem fac_asc (h : I ∈ fac g w 0 y) : I.Pairwise (· < ·) := by
  have := (isFac_of h).eq
  rw [← this]; exact lotOf_lt
theorem fac_bd (h : I ∈ fac g w 0 y) : ∀ p ∈ I, p < w.length := fun p hp => by
  have := ((isFac_of h).lo p hp).2; omega
theorem fac_path (h : I ∈ fac g w 0 y) : Path g w 0 (has I) y := (isFac_of h).path
theorem fac_size (hW : Wd n w) (R : Row n y) (h : I ∈ fac g w 0 y) : inv y + I.length = inv g + w.length := by
  have h1 := path_count hW R (fac_path h)
  have h2 := wkc_lot (w := w) (i := 0) (F := has I)
  rw [(isFac_of h).eq] at h2
  omega
theorem fac_same (hW : Wd n w) (R : Row n y) (h : I ∈ fac g w 0 y) (h' : J ∈ fac g w 0 y) : I.length = J.length := by
  have h1 := fac_size hW R h
  have h2 := fac_size hW R h'
  omega
/-- the partner -/
def swapLot (w : List Nat) (I : List Nat) (p q : Nat) : List Nat := lotOf w.length 0 (flip (has I) p q)
theorem mem_swapLot {p q r : Nat} (hb : ∀ p ∈ I, p < w.length) (hq : q < w.length) (hpq : p ≠ q) : r ∈ swapLot w I p q ↔ (r ∈ I ∧ r ≠ p) ∨ r = q := by
  unfold swapLot
  rw [mem_lotOf]
  unfold flip has
  constructor
  · rintro ⟨_, h1, h2⟩
    by_cases e1 : r = p
    · rw [if_pos e1] at h2; cases h2
    · rw [if_neg e1] at h2
      by_cases e2 : r = q
      · exact .inr e2
      · rw [if_neg e2] at h2
        exact .inl ⟨of_decide_eq_true h2, e1⟩
  · rintro (⟨h1, h2⟩ | rfl)
    · refine ⟨Nat.zero_le _, by have := hb r h1; omega, ?_⟩
      rw [if_neg h2]
      by_cases e2 : r = q
      · rw [if_pos e2]
      · rw [if_neg e2]; exact decide_eq_true h1
    · exact ⟨Nat.zero_le _, by omega, by rw [if_neg (Ne.symm hpq), if_pos rfl]⟩
theorem has_iff {p : Nat} : has I p = true ↔ p ∈ I := by unfold has; exact decide_eq_true_iff
theorem has_false {p : Nat} : has I p = false ↔ p ∉ I := by unfold has; exact decide_eq_false_iff_not
theorem fac_flip {p q : Nat} (hW : Wd n w) (R : Row n y) (h : I ∈ fac g w 0 y) (hp : p ∈ I) (hq : q < w.length) (hqI : q ∉ I) (e : sp (mt y w (has I) p) = sp (mt y w (has I) q)) : swapLot w I p q ∈ fac g w 0 y := by
  have hpl := fac_bd h p hp
  have h1 := (exchange hW R hpl hq (has_iff.mpr hp) (has_false.mpr hqI)).mpr e
  rw [path_end (fac_path h)] at h1
  refine fac_of_path (path_of_count hW R h1 ?_)
  rw [wkc_flip hpl hq (has_iff.mpr hp) (has_false.mpr hqI)]
  exact path_count hW R (fac_path h)
/-- what holds all but p of a facet, another facet: it is the partner -/
theorem sub_count {A B : List Nat} (hA : A.Nodup) (hB : B.Nodup) (h : ∀ r ∈ A, r ∈ B) : (B.filter fun r => !has A r).length + A.length = B.length := by
  have h1 : (B.filter fun r => has A r).Perm A := by
    refine (List.perm_ext_iff_of_nodup (hB.filter _) hA).mpr fun r => ?_
    rw [List.mem_filter, has_iff]
    exact ⟨fun z => z.2, fun z => ⟨h r z, z⟩⟩
  have h2 := h1.length_eq
  have h3 : ∀ l : List Nat, (l.filter fun r => !has A r).length + (l.filter fun r => has A r).length = l.length := by
    intro l
    induction l with
    | nil => rfl
    | cons a l ih =>
      rw [List.filter_cons, List.filter_cons]
      cases has A a <;> simp <;> omega
  have := h3 B
  omega
theorem fac_other {p : Nat} (hW : Wd n w) (R : Row n y) (h : I ∈ fac g w 0 y) (h' : J ∈ fac g w 0 y) (hne : J ≠ I) (hp : p ∈ I) (hs : ∀ r ∈ I, r ≠ p → r ∈ J) :
    ∃ q, q < w.length ∧ q ∉ I ∧ J = swapLot w I p q ∧ sp (mt y w (has I) p) = sp (mt y w (has I) q) ∧ p ∉ J ∧ q ∈ J := by
  have hIa := fac_asc h
  have hJa := fac_asc h'
  have hlen := fac_same hW R h h'
  have hpJ : p ∉ J := fun hpJ => hne (by
    have hsub : ∀ r ∈ I, r ∈ J := fun r hr => by
      by_cases e : r = p
      · rw [e]; exact hpJ
      · exact hs r hr e
    have := sub_count (asc_nodup hIa) (asc_nodup hJa) hsub
    have h0 : (J.filter fun r => !has I r) = [] := List.eq_nil_of_length_eq_zero (by omega)
    rw [List.filter_eq_nil_iff] at h0
    refine asc_ext hJa hIa fun r => ⟨fun hr => ?_, hsub r⟩
    have := h0 r hr
    simp only [Bool.not_eq_true', Bool.not_eq_false] at this
    exact has_iff.mp this)
  have hkI : ∀ r ∈ I.filter (fun r => !decide (r = p)), r ∈ I := fun r hr => (List.mem_filter.mp hr).1
  have hkn : (I.filter fun r => !decide (r = p)).Nodup := (asc_nodup hIa).filter _
  have hk1 := sub_count hkn (asc_nodup hIa) hkI
  have hk2 : (I.filter fun r => !has (I.filter fun r => !decide (r = p)) r) = [p] := by
    have hmem : ∀ r, r ∈ (I.filter fun r => !has (I.filter fun r => !decide (r = p)) r) ↔ r ∈ [p] := fun r => by
      rw [List.mem_filter, List.mem_singleton, Bool.not_eq_true', has_false, List.mem_filter]
      constructor
      · rintro ⟨h1, h2⟩
        exact Classical.byContradiction fun e => h2 ⟨h1, by simpa using e⟩
      · rintro rfl
        exact ⟨hp, fun z => by simpa using z.2⟩
    exact asc_ext (hIa.filter _) (List.pairwise_singleton _ _) hmem
  rw [hk2] at hk1
  have hkJ : ∀ r ∈ I.filter (fun r => !decide (r = p)), r ∈ J := fun r hr => by
    have := List.mem_filter.mp hr
    exact hs r this.1 (by simpa using this.2)
  have hk3 := sub_count hkn (asc_nodup hJa) hkJ
  rw [List.length_singleton] at hk1
  obtain ⟨q, hq⟩ : ∃ q, (J.filter fun r => !has (I.filter fun r => !decide (r = p)) r) = [q] := by
    cases h : (J.filter fun r => !has (I.filter fun r => !decide (r = p)) r) with
    | nil => rw [h] at hk3; simp at hk3; omega
    | cons q l =>
      cases l with
      | nil => exact ⟨q, rfl⟩
      | cons a b => rw [h] at hk3; simp at hk3; omega
  have hqJ : q ∈ J := by
    have : q ∈ (J.filter fun r => !has (I.filter fun r => !decide (r = p)) r) := by rw [hq]; exact List.mem_singleton.mpr rfl
    exact (List.mem_filter.mp this).1
  have hql := fac_bd h' q hqJ
  have hqp : q ≠ p := fun z => hpJ (by rw [← z]; exact hqJ)
  have hqI : q ∉ I := fun z => by
    have : q ∈ (J.filter fun r => !has (I.filter fun r => !decide (r = p)) r) := by rw [hq]; exact List.mem_singleton.mpr rfl
    have := (List.mem_filter.mp this).2
    rw [Bool.not_eq_true', has_false] at this
    exact this (List.mem_filter.mpr ⟨z, by simpa using hqp⟩)
  have hJeq : J = swapLot w I p q := by
    refine asc_ext hJa lotOf_lt fun r => ?_
    have hm := mem_swapLot (r := r) (fac_bd h) hql (Ne.symm hqp)
    constructor
    · intro hr
      refine hm.mpr ?_
      by_cases e : r ∈ I.filter (fun r => !decide (r = p))
      · have := List.mem_filter.mp e
        exact .inl ⟨this.1, by simpa using this.2⟩
      · have : r ∈ (J.filter fun r => !has (I.filter fun r => !decide (r = p)) r) := List.mem_filter.mpr ⟨hr, by rw [Bool.not_eq_true', has_false]; exact e⟩
        rw [hq, List.mem_singleton] at this
        exact .inr this
    · intro hr
      rcases hm.mp hr with ⟨h1, h2⟩ | rfl
      · exact hs r h1 h2
      · exact hqJ
  refine ⟨q, hql, hqI, hJeq, ?_, hpJ, hqJ⟩
  have hpl := fac_bd h p hp
  refine (exchange hW R hpl hql (has_iff.mpr hp) (has_false.mpr hqI)).mp ?_
  rw [path_end (fac_path h)]
  have hJp := path_end (fac_path h')
  rw [← hJp]
  refine swp_congr fun j _ hj => ?_
  rw [hJeq]
  unfold swapLot
  rw [has_lotOf (Nat.zero_le _) hj]
end
end SSort
set_option autoImplicit false
set_option linter.unusedVariables false
namespace SSort
theorem lp_some {m : Nat → Int × Int} {F : Nat → Bool} {key : List Int} {q : Nat} : ∀ {k : Nat}, lp m F key k = some q → q < k ∧ F q = false ∧ sp (m q) = key
  | 0, h => by cases h
  | k + 1, h => by
    unfold lp at h
    by_cases hc : (!F k && decide (sp (m k) = key)) = true
    · rw [if_pos hc] at h
      obtain rfl := Option.some.inj h
      rw [Bool.and_eq_true, Bool.not_eq_true', decide_eq_true_iff] at hc
      exact ⟨Nat.lt_succ_self _, hc.1, hc.2⟩
    · rw [if_neg hc] at h
      have := lp_some h
      exact ⟨by omega, this.2⟩
theorem lp_none {m : Nat → Int × Int} {F : Nat → Bool} {key : List Int} : ∀ {k : Nat}, lp m F key k = none → ∀ q, q < k → F q = false → sp (m q) ≠ key
  | 0, _, q, h, _ => by omega
  | k + 1, h, q, hq, hF => by
    unfold lp at h
    by_cases hc : (!F k && decide (sp (m k) = key)) = true
    · rw [if_pos hc] at h; cases h
    · rw [if_neg hc] at h
      by_cases e : q = k
      · subst e
        intro z
        exact hc (by rw [hF, z]; simp)
      · exact lp_none h q (by omega) hF
section
variable {g : List Int} {w : List Nat} {I J : List Nat} {n : Nat}
/-- the partner by the program is the partner -/
theorem part_some {p q : Nat} (h : SSort.part n w I p = some q) : q < w.length ∧ q ∉ I ∧ sp (mt (turned n) w (has I) p) = sp (mt (turned n) w (has I) q) := by
  have := lp_some h
  exact ⟨this.1, has_false.mp this.2.1, this.2.2.symm⟩
theorem part_of {p q : Nat} (hW : Wd n w) (h : I ∈ fac g w 0 (turned n)) (hq : q < w.length) (hqI : q ∉ I) (e : sp (mt (turned n) w (has I) p) = sp (mt (turned n) w (has I) q)) : SSort.part n w I p = some q := by
  cases hp : SSort.part n w I p with
  | none => exact absurd e.symm (lp_none hp q hq (has_false.mpr hqI))
  | some r =>
    have := part_some hp
    rw [pass_once hW (turned_row n) (fac_path h) this.1 hq (has_false.mpr this.2.1) (has_false.mpr hqI) (this.2.2.symm.trans e)]
/-- the order of partners -/
theorem bef_swap {p q : Nat} (hb : ∀ p ∈ I, p < w.length) (hp : p ∈ I) (hq : q < w.length) (hqI : q ∉ I) : (p < q → Bef (swapLot w I p q) I) ∧ (q < p → Bef I (swapLot w I p q)) := by
  have hne : p ≠ q := fun z => hqI (by rw [← z]; exact hp)
  have hm : ∀ r, r ∈ swapLot w I p q ↔ (r ∈ I ∧ r ≠ p) ∨ r = q := fun r => mem_swapLot hb hq hne
  constructor
  · intro h
    refine ⟨p, fun j hj => ?_, fun z => ?_, hp⟩
    · rw [hm]
      constructor
      · rintro (h1 | h1)
        · exact h1.1
        · omega
      · intro h1; exact .inl ⟨h1, by omega⟩
    · rcases (hm p).mp z with h1 | h1
      · exact h1.2 rfl
      · exact hne h1
  · intro h
    refine ⟨q, fun j hj => ?_, hqI, (hm q).mpr (.inr rfl)⟩
    rw [hm]
    constructor
    · intro h1; exact .inl ⟨h1, by omega⟩
    · rintro (h1 | h1)
      · exact h1.1
      · omega
/-- the shelling: what comes behind another facet has a place there with a partner behind it -/
theorem shell (hW : Wd n w) (h : I ∈ fac g w 0 (turned n)) (h' : J ∈ fac g w 0 (turned n)) (hb : Bef J I) : ∃ p q, p ∈ I ∧ p ∉ J ∧ p < q ∧ SSort.part n w I p = some q := by
  obtain ⟨p, he, hpJ, hpI⟩ := hb
  have hpl := fac_bd h p hpI
  have hR := turned_row n
  have hsame : rw_ (turned n) w (has J) p = rw_ (turned n) w (has I) p := swp_congr fun j _ hj => by
    rw [List.length_take] at hj
    rw [Bool.eq_iff_iff, has_iff, has_iff]
    exact he j (by omega)
  have hmt : mt (turned n) w (has J) p = mt (turned n) w (has I) p := by
    unfold mt
    have hsame' : swp (turned n) (w.take p) 0 (has J) = swp (turned n) (w.take p) 0 (has I) := hsame
    rw [hsame']
  have h1 := (path_after hW hR (fac_path h') hpl (has_false.mpr hpJ)).1
  rw [hmt] at h1
  refine Classical.byContradiction fun hno => ?_
  have h2 := pass_later hW hR hpl (has_iff.mpr hpI) fun q hq hql hF e => hno ⟨p, q, hpI, hpJ, hq, part_of hW h hql (has_false.mp hF) e.symm⟩
  rw [path_end (fac_path h)] at h2
  unfold bf at h1 h2
  omega
/-- swaps that lower or raise never go farther than the run -/
theorem far_exch {k : Nat} {x : List Int} (R : Row n x) (h : k + 1 < n) : Far n (dn x k) (exch x k) := by
  cases hd : desc x k with
  | true =>
    unfold dn
    rw [if_pos hd]; exact Far.refl _ _
  | false =>
    have h1 := Far.dn_self (x := exch x k) (k := k) (n := n) (by rw [exch_length (by rw [R.len]; exact h)]; exact R.len) h
    have hl : k + 1 < x.length := by rw [R.len]; exact h
    have hde : desc (exch x k) k = true := by
      rw [desc_exch hl, decide_eq_true_iff]
      unfold desc at hd
      rw [decide_eq_false_iff_not] at hd
      have := row_ne R h
      omega
    unfold dn at h1 ⊢
    rw [if_pos hde, exch_exch hl] at h1
    rw [hd, if_neg (by decide)]
    exact h1
theorem run_far : ∀ {w : List Nat} {x y : List Int} {i : Nat} {F F' : Nat → Bool}, Wd n w → Row n x → Row n y → Far n x y → (∀ j, F j = true → F' j = true) → Far n (runF x w i F) (swp y w i F')
  | [], _, _, _, _, _, _, _, _, H, _ => H
  | s :: w, x, y, i, F, F', hW, Rx, Ry, H, hF => by
    unfold runF swp
    have hs := hW.head
    have hdd : Far n (dn x s) (dn y s) := Far.dn_dn Rx.len Ry.len hs H
    refine run_far hW.tail ?_ ?_ ?_ hF
    · split
      · exact Rx
      · exact Rx.dn hs
    · split
      · exact Ry
      · exact Ry.exch hs
    · by_cases h1 : F i = true
      · rw [if_pos h1, if_pos (hF i h1)]; exact H
      · rw [if_neg h1]
        by_cases h2 : F' i = true
        · rw [if_pos h2]
          exact hdd.trans (Far.dn_self Ry.len hs)
        · rw [if_neg h2]
          exact hdd.trans (far_exch Ry hs)
theorem row_turned_pos : ∀ {m : Nat} {a b : Int}, 0 ≤ a → a < b → b < m → bf (turned m) b a
  | m, a, b, h0, h1, h2 => by
    -- the turned row tells each card at its mirror place
    have key : ∀ (l : List Nat) (c : Int), pos (l.map fun i : Nat => (m : Int) - 1 - (i : Int)) c = (l.findIdx fun i : Nat => decide ((m : Int) - 1 - (i : Int) = c)) := by
      intro l c
      induction l with
      | nil => rfl
      | cons i l ih =>
        rw [List.map_cons, List.findIdx_cons]
        by_cases e : c = (m : Int) - 1 - (i : Int)
        · rw [e, pos_self]; simp
        · rw [pos_ne e, ih, decide_eq_false (fun z => e z.symm)]; rfl
    have at_ : ∀ c : Int, 0 ≤ c → c < m → pos (turned m) c = (m - 1 - c.toNat) := by
      intro c hc hm
      unfold turned
      rw [key, List.findIdx_eq (by rw [List.length_range]; omega)]
      refine ⟨by rw [List.getElem_range, decide_eq_true_iff]; omega, fun j hj => ?_⟩
      rw [List.getElem_range, decide_eq_false_iff_not]; omega
    unfold bf
    rw [at_ a h0 (by omega), at_ b (by omega) h2]
    omega
theorem row_all {n : Nat} {x : List Int} (R : Row n x) : ∀ c : Int, 0 ≤ c → c < n → c ∈ x := by
  intro c h0 h1
  -- nodup, n cards below n: all of them
  have hsub : ∀ a ∈ x.map Int.toNat, a ∈ List.range n := fun a ha => by
    obtain ⟨b, hb, rfl⟩ := List.mem_map.mp ha
    have := R.bd b hb
    rw [List.mem_range]; omega
  have hnd : (x.map Int.toNat).Nodup := by
    have := R.nd
    rw [List.nodup_iff_pairwise_ne] at this ⊢
    rw [List.pairwise_map]
    exact this.imp_of_mem fun {a b} ha hb hne z => hne (by have := R.bd a ha; have := R.bd b hb; omega)
  have hc := sub_count hnd List.nodup_range hsub
  rw [List.length_map, R.len, List.length_range] at hc
  have h0' : ((List.range n).filter fun r => !has (x.map Int.toNat) r) = [] := List.eq_nil_of_length_eq_zero (by omega)
  rw [List.filter_eq_nil_iff] at h0'
  have := h0' c.toNat (List.mem_range.mpr (by omega))
  simp only [Bool.not_eq_true', Bool.not_eq_false] at this
  obtain ⟨b, hb, e⟩ := List.mem_map.mp (has_iff.mp this)
  have hbb := R.bd b hb
  have : b = c := by omega
  rw [← this]; exact hb
/-- where the whole word just reaches the goal, each place of a facet has a partner -/
theorem sphere (hW : Wd n w) (hg : Row n g) (h : I ∈ fac g w 0 (turned n)) (hs : runF (turned n) w 0 (fun _ => false) = g) {p : Nat} (hp : p ∈ I) : ∃ q, SSort.part n w I p = some q := by
  have hpl := fac_bd h p hp
  have hR := turned_row n
  cases hpt : SSort.part n w I p with
  | some q => exact ⟨q, rfl⟩
  | none =>
    exfalso
    have hno := lp_none hpt
    have Rp : Row n (rw_ (turned n) w (has I) p) := swp_row (wd_take hW) hR
    have hd := wd_getD hW hpl
    have hpair := bf_pair Rp hd
    have hne := row_ne Rp hd
    have hm1 : (mt (turned n) w (has I) p).1 ∈ rw_ (turned n) w (has I) p := gd_mem (by rw [Rp.len]; omega)
    have hm2 : (mt (turned n) w (has I) p).2 ∈ rw_ (turned n) w (has I) p := gd_mem (by rw [Rp.len]; omega)
    have b1 := Rp.bd _ hm1
    have b2 := Rp.bd _ hm2
    have hne' : (mt (turned n) w (has I) p).1 ≠ (mt (turned n) w (has I) p).2 := hne
    by_cases hlt : (mt (turned n) w (has I) p).1 < (mt (turned n) w (has I) p).2
    · -- in order already: it passed before
      have h0 := row_turned_pos (m := n) b1.1 hlt b2.2
      have h1 : bf (swp (turned n) (w.take p) 0 (has I)) (mt (turned n) w (has I) p).2 (mt (turned n) w (has I) p).1 := by
        refine bf_run (wd_take hW) hR h0 fun k hk hF hz => ?_
        rw [List.length_take] at hk
        rw [Nat.zero_add] at hF
        have e1 : (w.take p).take k = w.take k := by rw [List.take_take, Nat.min_eq_left (by omega)]
        have e2 : (w.take p).getD k 0 = w.getD k 0 := by
          rw [List.getD_eq_getElem?_getD, List.getD_eq_getElem?_getD, List.getElem?_take_of_lt (by omega)]
        rw [e1, e2] at hz
        refine hno k (by omega) hF ?_
        exact sp_iff.mpr (.inr ⟨hz.1.symm, hz.2.symm⟩)
      have h2 := hpair.1
      have h2' : bf (swp (turned n) (w.take p) 0 (has I)) (mt (turned n) w (has I) p).1 (mt (turned n) w (has I) p).2 := h2
      unfold bf at h1 h2'
      omega
    · -- out of order to the end
      have hgt : (mt (turned n) w (has I) p).2 < (mt (turned n) w (has I) p).1 := by omega
      have hend := pass_later hW hR hpl (has_iff.mpr hp) fun q _ hql hF e => hno q hql hF e
      rw [path_end (fac_path h)] at hend
      have hmid := flip_mid (q := w.length) (k := w.length) hW hR hpl (has_iff.mpr hp) hpl (Nat.le_refl _) (.inl (Nat.le_refl _))
      have e1 : rw_ (turned n) w (has I) w.length = g := by
        show swp (turned n) (w.take w.length) 0 (has I) = g
        rw [List.take_length]; exact path_end (fac_path h)
      rw [e1] at hmid
      have hmid' : swp (turned n) w 0 (flip (has I) p w.length) = g.map (tr (mt (turned n) w (has I) p).1 (mt (turned n) w (has I) p).2) := by
        rw [← hmid]
        show _ = swp (turned n) (w.take w.length) 0 _
        rw [List.take_length]
      have hfar := run_far (i := 0) (F := fun _ => false) (F' := flip (has I) p w.length) hW hR hR (Far.refl n _) (fun j hj => by cases hj)
      rw [hs, hmid'] at hfar
      generalize (mt (turned n) w (has I) p).1 = c at *
      generalize (mt (turned n) w (has I) p).2 = e at *
      have heg : e ∈ g := by
        have hl : g.length = n := hg.len
        -- a row of n cards tells each card
        have : ∀ c : Int, 0 ≤ c → c < n → c ∈ g := row_all hg
        exact this e b2.1 b2.2
      obtain ⟨l, s, rfl, hes, hcl, hel⟩ := bf_split heg hend
      have := hfar (l.length + 1) (by have := hg.len; rw [List.length_append, List.length_cons] at this; omega) c.toNat (by omega)
      have hmapl : l.map (tr c e) = l := by
        refine (List.map_congr_left fun d hd => ?_).trans (List.map_id l)
        exact tr_o (fun z => hcl (by rw [← z]; exact hd)) (fun z => hel (by rw [← z]; exact hd))
      rw [List.map_append, List.map_cons, tr_a, hmapl] at this
      unfold cnt at this
      rw [List.take_append, List.take_append, List.take_of_length_le (by omega), show l.length + 1 - l.length = 1 by omega, List.take_succ_cons, List.take_succ_cons, List.take_zero, List.take_zero, List.filter_append, List.filter_append, List.length_append, List.length_append] at this
      rw [List.filter_cons_of_pos (by rw [decide_eq_true_iff]; omega), List.filter_cons_of_neg (by rw [decide_eq_true_iff]; omega)] at this
      simp at this
      omega
end
end SSort
set_option autoImplicit false
set_option linter.unusedVariables false
namespace SSort
/-! ### the key's order -/
def keyL (m : Nat) (L : List Nat) : List Int := (List.range m).map fun p => if has L p = true then 1 else 0
/-- the order of lists of ints -/
def lexL : List Int → List Int → Bool
  | [], [] => false
  | [], _ :: _ => true
  | _ :: _, [] => false
  | a :: l, b :: r => if a = b then lexL l r else decide (a < b)
theorem lexL_map {f g : Nat → Int} : ∀ {l : List Nat} {p : Nat}, p ∈ l → l.Pairwise (· < ·) → (∀ j ∈ l, j < p → f j = g j) → f p < g p → lexL (l.map f) (l.map g) = true
  | a :: l, p, hp, ha, he, hlt => by
    have h1 := List.pairwise_cons.mp ha
    rw [List.map_cons, List.map_cons, lexL]
    rcases List.mem_cons.mp hp with rfl | hp
    · rw [if_neg (by omega)]; exact decide_eq_true hlt
    · rw [if_pos (he a List.mem_cons_self (h1.1 p hp))]
      exact lexL_map hp h1.2 (fun j hj => he j (List.mem_cons_of_mem _ hj)) hlt
theorem lex_bef {m : Nat} {I J : List Nat} (hJ : ∀ p ∈ J, p < m) (h : Bef I J) : lexL (keyL m I) (keyL m J) = true := by
  obtain ⟨p, he, h1, h2⟩ := h
  refine lexL_map (p := p) (List.mem_range.mpr (hJ p h2)) List.pairwise_lt_range (fun j _ hj => ?_) ?_
  · have := he j hj
    by_cases h : j ∈ I
    · rw [if_pos (has_iff.mpr h), if_pos (has_iff.mpr (this.mp h))]
    · rw [if_neg (by rw [has_false.mpr h]; decide), if_neg (by rw [has_false.mpr (fun z => h (this.mpr z))]; decide)]
  · rw [if_neg (by rw [has_false.mpr h1]; decide), if_pos (has_iff.mpr h2)]; decide
theorem lexL_asym : ∀ {a b : List Int}, lexL a b = true → lexL b a = false
  | [], [], h => by cases h
  | [], _ :: _, _ => rfl
  | _ :: _, [], h => by cases h
  | x :: a, y :: b, h => by
    unfold lexL at *
    by_cases e : x = y
    · rw [if_pos e] at h
      rw [if_pos e.symm]; exact lexL_asym h
    · rw [if_neg e] at h
      have := of_decide_eq_true h
      rw [if_neg (Ne.symm e), decide_eq_false_iff_not]; omega
theorem lexL_tr : ∀ {a b c : List Int}, lexL b a = false → lexL c b = false → lexL c a = false
  | [], [], [], _, _ => rfl
  | _ :: _, _, [], _, _ => by
    rename_i x a b h1 h2
    cases b with
    | nil => exact absurd h1 (by simp [lexL])
    | cons y b => exact absurd h2 (by simp [lexL])
  | [], _, _ :: _, _, _ => rfl
  | [], _ :: _, [], _, _ => rfl
  | x :: a, [], z :: c, h1, h2 => by simp [lexL] at h1
  | x :: a, y :: b, z :: c, h1, h2 => by
    unfold lexL at *
    by_cases e1 : y = x
    · subst e1
      rw [if_pos rfl] at h1
      by_cases e2 : z = y
      · subst e2
        rw [if_pos rfl] at h2 ⊢
        exact lexL_tr h1 h2
      · rw [if_neg e2] at h2 ⊢
        exact h2
    · rw [if_neg e1, decide_eq_false_iff_not] at h1
      by_cases e2 : z = y
      · subst e2
        rw [if_neg e1, decide_eq_false_iff_not]; exact h1
      · rw [if_neg e2, decide_eq_false_iff_not] at h2
        rw [if_neg (by omega), decide_eq_false_iff_not]; omega
theorem sorted_is : ∀ {l r : List (List Nat)}, l.Perm r → r.Pairwise Bef → l.Pairwise (fun x y => ¬ Bef y x) → l = r
  | [], r, hp, _, _ => hp.nil_eq
  | b :: s, [], hp, _, _ => by have := hp.length_eq; simp at this
  | b :: s, a :: r, hp, hr, hl => by
    have h1 := List.pairwise_cons.mp hr
    have h2 := List.pairwise_cons.mp hl
    have e : a = b := by
      refine Classical.byContradiction fun hne => ?_
      have hb : b ∈ r := by
        rcases List.mem_cons.mp (hp.mem_iff.mp List.mem_cons_self) with e | e
        · exact absurd e.symm hne
        · exact e
      have ha : a ∈ s := by
        rcases List.mem_cons.mp (hp.mem_iff.mpr List.mem_cons_self) with e | e
        · exact absurd e hne
        · exact e
      exact h2.1 a ha (h1.1 b hb)
    subst e
    rw [sorted_is ((List.perm_cons a).mp hp) h1.2 h2.2]
end SSort
set_option Elab.async false
set_option linter.all false
set_option maxRecDepth 100000
set_option maxHeartbeats 2000000
set_option autoImplicit false
namespace Wk
open PySem L2 SSort
def hh (x : List Int) : Int := reduceHash (Builtin.Tuple.tupleHashOf (x.map hashInt))
def rowsE (n : Nat) : Nat → List (List Int)
  | 0 => [[]]
  | k + 1 => (rowsE n k).flatMap fun l => ((List.range n).filter fun i : Nat => decide ((i : Int) ∉ l)).map fun i : Nat => (i : Int) :: l
theorem mem_rowsE {n : Nat} : ∀ {x : List Int}, x.Nodup → (∀ c ∈ x, 0 ≤ c ∧ c < (n : Int)) → x ∈ rowsE n x.length
  | [], _, _ => by simp [rowsE]
  | c :: x, hd, h => by
    have hc := h c List.mem_cons_self
    rw [List.nodup_cons] at hd
    show c :: x ∈ rowsE n (x.length + 1)
    unfold rowsE
    rw [List.mem_flatMap]
    refine ⟨x, mem_rowsE hd.2 fun d hd => h d (List.mem_cons_of_mem _ hd), List.mem_map.mpr ⟨c.toNat, ?_, ?_⟩⟩
    · rw [List.mem_filter, List.mem_range, decide_eq_true_iff, show ((c.toNat : Nat) : Int) = c by omega]
      exact ⟨by omega, hd.1⟩
    · rw [show ((c.toNat : Nat) : Int) = c by omega]
def rowsL (n : Nat) : List (List Int) := rowsE n n
theorem mem_rowsL {n : Nat} {x : List Int} (R : Row n x) : x ∈ rowsL n := by
  have := mem_rowsE (n := n) R.nd R.bd
  rwa [R.len] at this
end Wk
set_option Elab.async false
set_option linter.all false
set_option maxRecDepth 100000
set_option maxHeartbeats 2000000
set_option autoImplicit false
namespace Wk
open PySem L2 SSort
def hs5 : List Int := [-1287625182250608730, 5896314732060416472, 2830192494409595366, 6835879898052041093, -7585995658902713567, -6827481187649512929, 5464853646992414872, -4955130685320702750, 6400904248893174589, -3497450762456468713, -7988739974836151533, 1285932225551528881, -6049401099973671226, -5629391543375133902, -3961143180749898851, -5032643134985856830, 3730646904006176483, -4496707126368752448, 749598419638318528, 8954256772810031326, -2007267342553774912, 295187746888527906, 7786960467226992799, 7448455552572329485, -5962350892936452931, -8004088121791259154, 6533713887182062564, -2666165572815266405, -5214692080953700943, 4764889320843219886, -4379235643638444438, -7753190687316705235, -6697699069306513556, 7420876874347059223, -1702593277932868356, -6908049522702288297, 5249418949127228366, -1302788605219611906, -8232891441835901673, 7127326414955226000, -2376854135987299508, 4052822884886839081, 1047818276948178664, 7536907946009202004, -119478028634859863, 3501920783709405519, 5218444520341132886, 3759272425495005858, -4732027814086793556, 3294731927309640438, 602380170798334289, 9150769233158242603, 4659480020778559783, 3376257263176954198, -6835251825870895111, -4049669294544238037, 8406537108540648433, -7811743794328070977, 2843747941925007634, 8196186655144873692, -1619920708649919615, 3468116912119040277, 6083574815054192884, -6228628545030062484, 5933036474458968753, -5035226301343702428, -3126396312044744098, 8795947793993425013, -7267402053243511887, -3646003240899246505, 3829812462674867198, 475610614761766280, 5414584917691093378, 5834594474289630702, 7502842836914865753, 6431342882678907774, -3252111152038610529, 6967278891296012156, 7768706363949748852, -1431173096047580117, -1315246644029013059, 4819294069596283189, 5383610488904997898, 3924438394058870870, -4962428604512309242, -6033928558748267221, -7816828038797482742, 8875607632817099505, -3569008996408338745, -7491242483576153101, 6565936761762228414, -818597441527291725, 6673175278811173168, -6186711601109648651, 267566285110123577, 7746047583017004012, 2711538966435775634, -484517465467206359, 6114210779248600065, -2984048916383791908, -1651813771050244886, -2876810399334847154, -5934939779096608348, 7600179178599271817, -2703878701695278747, -4323657099420790285, -1764313535703654126, -3223485630549781154, -607108897222223612, 8667563303165456802, 5380817942371199429, 4603859371731096683, -6367068998404341230, 7393255412568654894, -7334466092089447212, 2884923951245175473, 4217159096578722495, -1640370381251772661, 4813907504967999567, 891674017800185211]
theorem hs5_eq : (rowsL 5).map hh = hs5 := by decide +kernel
theorem hs5_nd : hs5.Nodup := by decide +kernel
theorem hh_nodup : ∀ n ≤ 5, ((rowsL n).map hh).Nodup := by
  intro n hn
  match n, hn with
  | 0, _ => decide +kernel
  | 1, _ => decide +kernel
  | 2, _ => decide +kernel
  | 3, _ => decide +kernel
  | 4, _ => decide +kernel
  | 5, _ => rw [hs5_eq]; exact hs5_nd
theorem inj_of_nodup {α β : Type} {f : α → β} : ∀ {l : List α}, (l.map f).Nodup → ∀ x ∈ l, ∀ y ∈ l, f x = f y → x = y
  | [], _, x, hx, _, _, _ => by cases hx
  | a :: l, h, x, hx, y, hy, e => by
    rw [List.map_cons, List.nodup_cons] at h
    rcases List.mem_cons.mp hx with rfl | hx'
    · rcases List.mem_cons.mp hy with rfl | hy'
      · rfl
      · exact (h.1 (List.mem_map.mpr ⟨y, hy', e.symm⟩)).elim
    · rcases List.mem_cons.mp hy with rfl | hy'
      · exact (h.1 (List.mem_map.mpr ⟨x, hx', e⟩)).elim
      · exact inj_of_nodup h.2 x hx' y hy' e
theorem hh_inj {n : Nat} (hn : n ≤ 5) {x y : List Int} (hx : Row n x) (hy : Row n y) (e : hh x = hh y) : x = y :=
  inj_of_nodup (hh_nodup n hn) x (mem_rowsL hx) y (mem_rowsL hy) e
theorem hh_key {P : Program} {w : World} {x : List Int} : (tupleKind (mixKind P w)).hash (x.map Sum.inl) = hh x := by
  show reduceHash (Builtin.Tuple.tupleHashOf ((x.map Sum.inl).map (keyH w))) = hh x
  rw [List.map_map]; rfl
end Wk
set_option Elab.async false
set_option linter.all false
set_option maxRecDepth 100000
set_option maxHeartbeats 2000000
namespace Wk
open PySem PySem.Spec PyProof.Rows L2 Evl
/-! ### relations of a value and a heap that growth keeps -/
structure Rel where
  h : V → Hp → Prop
  up : ∀ {v H H'}, Ex H H' → h v H → h v H'
def is (v0 : V) : Rel := ⟨fun v _ => v = v0, fun _ h => h⟩
/-- all items of a list of values, by their relations -/
def Rels : List Rel → List V → Hp → Prop
  | [], [], _ => True
  | R :: Rs, v :: vs, H => R.h v H ∧ Rels Rs vs H
  | _, _, _ => False
theorem Rels.up : ∀ {Rs : List Rel} {vs : List V} {H H' : Hp}, Ex H H' → Rels Rs vs H → Rels Rs vs H'
  | [], [], _, _, _, _ => trivial
  | R :: Rs, v :: vs, _, _, e, h => ⟨R.up e h.1, Rels.up e h.2⟩
  | [], _ :: _, _, _, _, h => h
  | _ :: _, [], _, _, _, h => h
/-- a tuple, a list of given values; of items by relations -/
def tupV (xs : List V) : Rel := ⟨fun v H => ∃ a, v = .ref a ∧ H a = some (.tup xs), fun e ⟨a, h, k⟩ => ⟨a, h, e _ _ k⟩⟩
def lstV (xs : List V) : Rel := ⟨fun v H => ∃ a, v = .ref a ∧ H a = some (.lst xs), fun e ⟨a, h, k⟩ => ⟨a, h, e _ _ k⟩⟩
def tp (Rs : List Rel) : Rel := ⟨fun v H => ∃ a vs, v = .ref a ∧ H a = some (.tup vs) ∧ Rels Rs vs H, fun e ⟨a, vs, h, k, r⟩ => ⟨a, vs, h, e _ _ k, r.up e⟩⟩
def ls (Rs : List Rel) : Rel := ⟨fun v H => ∃ a vs, v = .ref a ∧ H a = some (.lst vs) ∧ Rels Rs vs H, fun e ⟨a, vs, h, k, r⟩ => ⟨a, vs, h, e _ _ k, r.up e⟩⟩
/-- a tuple of ints -/
def ti (ns : List Int) : Rel := tupV (ns.map V.int)
def ii (n : Int) : Rel := is (.int n)
def nn (n : Nat) : Rel := is (.int (n : Int))
def bb (b : Bool) : Rel := is (.bl b)
theorem rels_len : ∀ {Rs : List Rel} {vs : List V} {H : Hp}, Rels Rs vs H → Rs.length = vs.length
  | [], [], _, _ => rfl
  | R :: Rs, v :: vs, _, h => by simp [rels_len h.2]
  | [], _ :: _, _, h => h.elim
  | _ :: _, [], _, h => h.elim
theorem rels_at : ∀ {Rs : List Rel} {vs : List V} {H : Hp} {i : Nat} {R : Rel}, Rels Rs vs H → Rs[i]? = some R → ∃ v, vs[i]? = some v ∧ R.h v H
  | [], [], _, _, _, _, e => by simp at e
  | R :: Rs, v :: vs, _, 0, _, h, e => by
    simp at e
    subst e
    exact ⟨v, rfl, h.1⟩
  | R :: Rs, v :: vs, _, i + 1, _, h, e => by
    obtain ⟨w, h1, h2⟩ := rels_at (i := i) h.2 (by simpa using e)
    exact ⟨w, by simpa using h1, h2⟩
  | [], _ :: _, _, _, _, h, _ => h.elim
  | _ :: _, [], _, _, _, h, _ => h.elim
theorem rels_at' : ∀ {Rs : List Rel} {vs : List V} {H : Hp} {i : Nat} {v : V}, Rels Rs vs H → vs[i]? = some v → ∃ R, Rs[i]? = some R ∧ R.h v H
  | [], [], _, _, _, _, e => by simp at e
  | R :: Rs, v :: vs, _, 0, _, h, e => by
    simp at e
    subst e
    exact ⟨R, rfl, h.1⟩
  | R :: Rs, v :: vs, _, i + 1, _, h, e => by
    obtain ⟨w, h1, h2⟩ := rels_at' (i := i) h.2 (by simpa using e)
    exact ⟨w, by simpa using h1, h2⟩
  | [], _ :: _, _, _, _, h, _ => h.elim
  | _ :: _, [], _, _, _, h, _ => h.elim
theorem rels_snoc : ∀ {Rs : List Rel} {vs : List V} {H : Hp} {R : Rel} {v : V}, Rels Rs vs H → R.h v H → Rels (Rs ++ [R]) (vs ++ [v]) H
  | [], [], _, _, _, _, k => ⟨k, trivial⟩
  | R :: Rs, v :: vs, _, _, _, h, k => ⟨h.1, rels_snoc h.2 k⟩
  | [], _ :: _, _, _, _, h, _ => h.elim
  | _ :: _, [], _, _, _, h, _ => h.elim
theorem rels_app : ∀ {Rs Ss : List Rel} {vs ws : List V} {H : Hp}, Rels Rs vs H → Rels Ss ws H → Rels (Rs ++ Ss) (vs ++ ws) H
  | [], _, [], _, _, _, k => k
  | R :: Rs, _, v :: vs, _, _, h, k => ⟨h.1, rels_app h.2 k⟩
  | [], _, _ :: _, _, _, h, _ => h.elim
  | _ :: _, _, [], _, _, h, _ => h.elim
theorem rels_is : ∀ {xs vs : List V} {H : Hp}, Rels (xs.map is) vs H ↔ vs = xs
  | [], [], _ => by simp [Rels]
  | x :: xs, v :: vs, H => by
    show (v = x ∧ Rels (xs.map is) vs H) ↔ _
    rw [rels_is]; simp
  | [], _ :: _, _ => by simp [Rels]
  | _ :: _, [], _ => by simp [Rels]
theorem tp_is {xs : List V} {v : V} {H : Hp} : (tp (xs.map is)).h v H ↔ (tupV xs).h v H := by
  constructor
  · rintro ⟨a, vs, rfl, h, r⟩
    rw [rels_is] at r
    subst r
    exact ⟨a, rfl, h⟩
  · rintro ⟨a, rfl, h⟩
    exact ⟨a, xs, rfl, h, rels_is.mpr rfl⟩
theorem ls_is {xs : List V} {v : V} {H : Hp} : (ls (xs.map is)).h v H ↔ (lstV xs).h v H := by
  constructor
  · rintro ⟨a, vs, rfl, h, r⟩
    rw [rels_is] at r
    subst r
    exact ⟨a, rfl, h⟩
  · rintro ⟨a, rfl, h⟩
    exact ⟨a, xs, rfl, h, rels_is.mpr rfl⟩
/-! ### what gives what -/
def EvR (te : TE) (σ : L2.St) (H : Hp) (R : Rel) : Prop := ∀ H1, Ex H H1 → ∀ Q : VK, (∀ v H2, Ex H1 H2 → R.h v H2 → Q v H2) → te σ H1 Q
def EvRs (ta : TA) (σ : L2.St) (H : Hp) (Rs : List Rel) : Prop := ∀ H1, Ex H H1 → ∀ Q : List V → Hp → Prop, (∀ vs H2, Ex H1 H2 → Rels Rs vs H2 → Q vs H2) → ta σ H1 Q
def Op2 (r : R2) (x y : V) (H : Hp) (R : Rel) : Prop := ∀ Q : VK, (∀ v H2, Ex H H2 → R.h v H2 → Q v H2) → r x y H Q
def Cl (r : List V → Hp → VK → Prop) (vs : List V) (H : Hp) (R : Rel) : Prop := ∀ Q : VK, (∀ v H2, Ex H H2 → R.h v H2 → Q v H2) → r vs H Q
section
variable {K : PySem.W.Frag} {σ : L2.St} {H H' : Hp} {ta tb te tx : TE} {t u : TT} {x y z v : V} {r : R2} {A B R : Rel}
theorem EvR.mono (e : Ex H H') (h : EvR te σ H R) : EvR te σ H' R := fun H1 a Q q => h H1 (e.trans a) Q q
theorem EvRs.mono {ta : TA} {Rs : List Rel} (e : Ex H H') (h : EvRs ta σ H Rs) : EvRs ta σ H' Rs := fun H1 a Q q => h H1 (e.trans a) Q q
theorem EvR.imp {R' : Rel} (h : EvR te σ H R) (i : ∀ v H1, Ex H H1 → R.h v H1 → R'.h v H1) : EvR te σ H R' := fun H1 e Q q => h H1 e Q fun v H2 e2 h2 => q v H2 e2 (i v H2 (e.trans e2) h2)
theorem evr_ev (h : Ev te σ H v) : EvR te σ H (is v) := fun H1 e Q q => h H1 e Q fun H2 e2 => q v H2 e2 rfl
theorem ev_evr (h : EvR te σ H (is v)) : Ev te σ H v := fun H1 e Q q => h H1 e Q fun w H2 e2 hw => by
  have hw : w = v := hw
  subst hw; exact q H2 e2
/-- a name -/
theorem ev_n {i : Nat} (h : σ[i]? = some (some v)) (hR : R.h v H) : EvR (tVar i) σ H R := fun H1 e Q q => ⟨v, h, q v H1 (Ex.refl H1) (R.up e hR)⟩
theorem ev_k : EvR (tC v) σ H (is v) := fun H1 _ Q q => q v H1 (Ex.refl H1) rfl
theorem ev_o (ha : EvR ta σ H A) (hb : EvR tb σ H B) (hr : ∀ x y H1, Ex H H1 → A.h x H1 → B.h y H1 → Op2 r x y H1 R) : EvR (tOp r ta tb) σ H R := fun H1 e Q q =>
  ha H1 e _ fun x H2 e2 hx => hb H2 (e.trans e2) _ fun y H3 e3 hy => hr x y H3 ((e.trans e2).trans e3) (A.up e3 hx) hy Q fun v H4 e4 hv => q v H4 ((e2.trans e3).trans e4) hv
theorem ev_I {g : Int → Int → V} {i j : Int} (ha : EvR ta σ H (ii i)) (hb : EvR tb σ H (ii j)) : EvR (tOp (rI0 g) ta tb) σ H (is (g i j)) :=
  ev_o ha hb fun x y H1 _ hx hy Q q => ⟨i, j, hx, hy, q _ H1 (Ex.refl H1) rfl⟩
theorem ev_Ic {C : Int → Int → Prop} {g : Int → Int → V} {i j : Int} (ha : EvR ta σ H (ii i)) (hb : EvR tb σ H (ii j)) (hc : C i j) : EvR (tOp (rI C g) ta tb) σ H (is (g i j)) :=
  ev_o ha hb fun x y H1 _ hx hy Q q => ⟨i, j, hx, hy, hc, q _ H1 (Ex.refl H1) rfl⟩
theorem ev_eq (ha : EvR ta σ H (is x)) (hb : EvR tb σ H (is y)) (h : scal x y = true) : EvR (tOp rEq ta tb) σ H (bb (decide (x = y))) :=
  ev_o ha hb fun x' y' H1 _ hx hy Q q => by
    have hx : x' = x := hx
    have hy : y' = y := hy
    subst hx hy
    exact ⟨h, q _ H1 (Ex.refl H1) rfl⟩
theorem ev_ne (ha : EvR ta σ H (is x)) (hb : EvR tb σ H (is y)) (h : scal x y = true) : EvR (tOp rNe ta tb) σ H (bb (!decide (x = y))) :=
  ev_o ha hb fun x' y' H1 _ hx hy Q q => by
    have hx : x' = x := hx
    have hy : y' = y := hy
    subst hx hy
    exact ⟨h, q _ H1 (Ex.refl H1) rfl⟩
/-- items of tuples, lists by a known place -/
theorem ev_ixTV {xs : List V} {i : Int} (ha : EvR ta σ H (tupV xs)) (hb : EvR tb σ H (ii i)) (h : atI xs i = some v) : EvR (tOp (rIxT K) ta tb) σ H (is v) :=
  ev_o ha hb fun x y H1 _ ⟨a, hx, ht⟩ hy Q q => ⟨a, xs, i, v, hx, hy, SqT.of ht, h, q _ H1 (Ex.refl H1) rfl⟩
theorem ev_ixLV {xs : List V} {i : Int} (ha : EvR ta σ H (lstV xs)) (hb : EvR tb σ H (ii i)) (h : atI xs i = some v) : EvR (tOp (rIxL K) ta tb) σ H (is v) :=
  ev_o ha hb fun x y H1 _ ⟨a, hx, ht⟩ hy Q q => ⟨a, xs, i, v, hx, hy, SqL.of ht, h, q _ H1 (Ex.refl H1) rfl⟩
theorem ev_ixL {Rs : List Rel} {i : Nat} (ha : EvR ta σ H (ls Rs)) (hb : EvR tb σ H (nn i)) (h : Rs[i]? = some R) : EvR (tOp (rIxL K) ta tb) σ H R :=
  ev_o ha hb fun x y H1 _ ⟨a, vs, hx, ht, hr⟩ hy Q q => by
    obtain ⟨v, h1, h2⟩ := rels_at hr h
    exact ⟨a, vs, i, v, hx, hy, SqL.of ht, atI_nat h1, q _ H1 (Ex.refl H1) h2⟩
theorem ev_ixT {Rs : List Rel} {i : Nat} (ha : EvR ta σ H (tp Rs)) (hb : EvR tb σ H (nn i)) (h : Rs[i]? = some R) : EvR (tOp (rIxT K) ta tb) σ H R :=
  ev_o ha hb fun x y H1 _ ⟨a, vs, hx, ht, hr⟩ hy Q q => by
    obtain ⟨v, h1, h2⟩ := rels_at hr h
    exact ⟨a, vs, i, v, hx, hy, SqT.of ht, atI_nat h1, q _ H1 (Ex.refl H1) h2⟩
/-- arguments -/
theorem es_nil : EvRs tNil σ H [] := fun H1 _ Q q => q [] H1 (Ex.refl H1) trivial
theorem es_cons {tr : TA} {Rs : List Rel} (h : EvR ta σ H R) (hr : EvRs tr σ H Rs) : EvRs (tCons ta tr) σ H (R :: Rs) := fun H1 e Q q =>
  h H1 e _ fun v H2 e2 hv => hr H2 (e.trans e2) _ fun vs H3 e3 hs => q (v :: vs) H3 (e2.trans e3) ⟨R.up e3 hv, hs⟩
theorem es1 (h : EvR ta σ H R) : EvRs (tCons ta tNil) σ H [R] := es_cons h es_nil
theorem ev_cb {r : List V → Hp → VK → Prop} {ta : TA} {Rs : List Rel} (h : EvRs ta σ H Rs) (hr : ∀ vs H1, Ex H H1 → Rels Rs vs H1 → Cl r vs H1 R) : EvR (tCB r ta) σ H R := fun H1 e Q q =>
  h H1 e _ fun vs H2 e2 hv => hr vs H2 (e.trans e2) hv Q fun v H3 e3 h3 => q v H3 (e2.trans e3) h3
/-- displays -/
theorem ev_tup {ta : TA} {Rs : List Rel} (h : EvRs ta σ H Rs) (hl : Rs.length ≤ 100000) : EvR (tTup ta) σ H (tp Rs) := fun H1 e Q q =>
  h H1 e _ fun vs H2 e2 hv => ⟨sz_of (by rw [← rels_len hv]; exact hl), fun p hp => q (.ref p) _ (e2.trans (Ex.new hp)) ⟨p, vs, rfl, upd_same, hv.up (Ex.new hp)⟩⟩
theorem ev_lst {ta : TA} {Rs : List Rel} (h : EvRs ta σ H Rs) (hl : Rs.length ≤ 100000) : EvR (tLst ta) σ H (ls Rs) := fun H1 e Q q =>
  h H1 e _ fun vs H2 e2 hv => ⟨sz_of (by rw [← rels_len hv]; exact hl), fun p hp => q (.ref p) _ (e2.trans (Ex.new hp)) ⟨p, vs, rfl, upd_same, hv.up (Ex.new hp)⟩⟩
/-- tests -/
theorem t_test {b : Bool} (h : EvR te σ H (bb b)) : EvT (tTest te) σ H b := fun H1 e Q q => h H1 e _ fun v H2 e2 hv => ⟨b, hv, q H2 e2⟩
theorem t_B {b : Bool} (h : EvR te σ H (bb b)) : EvT (tB te) σ H b := fun H1 e Q q => h H1 e _ fun v H2 e2 hv => ⟨b, hv, q H2 e2⟩
theorem t_yes : EvT tYes σ H true := fun H1 _ Q q => q H1 (Ex.refl H1)
theorem t_is {a b : Bool} (h : EvT t σ H a) (e : a = b) : EvT t σ H b := e ▸ h
theorem t_I {p : Int → Int → Bool} {i j : Int} (ha : EvR ta σ H (ii i)) (hb : EvR tb σ H (ii j)) : EvT (tTest (tOp (rI0 fun i j => .bl (p i j)) ta tb)) σ H (p i j) := t_test (ev_I ha hb)
theorem ev_andV {a b : Bool} (h1 : EvR ta σ H (bb a)) (h2 : a = true → EvR tb σ H (bb b)) : EvR (tAndV ta tb) σ H (bb (a && b)) := evr_ev (Evl.ev_andV (ev_evr h1) fun h => ev_evr (h2 h))
theorem ev_orV {a b : Bool} (h1 : EvR ta σ H (bb a)) (h2 : a = false → EvR tb σ H (bb b)) : EvR (tOrV ta tb) σ H (bb (a || b)) := evr_ev (Evl.ev_orV (ev_evr h1) fun h => ev_evr (h2 h))
theorem ev_notV {a : Bool} (h1 : EvR ta σ H (bb a)) : EvR (tNotV ta) σ H (bb (!a)) := evr_ev (Evl.ev_notV (ev_evr h1))
theorem ev_cond {b : Bool} (h : EvT t σ H b) (h1 : b = true → EvR ta σ H R) (h2 : b = false → EvR tb σ H R) : EvR (tIf t ta tb) σ H R := fun H1 e Q q => h H1 e _ fun H2 e2 => by
  cases b with
  | true =>
    show ta σ H2 Q
    exact h1 rfl H2 (e.trans e2) Q fun v H3 e3 => q v H3 (e2.trans e3)
  | false =>
    show tb σ H2 Q
    exact h2 rfl H2 (e.trans e2) Q fun v H3 e3 => q v H3 (e2.trans e3)
/-! ### promises -/
/-- pre of the data, the arguments by relations, the answer by one; nothing that stood is changed -/
def Pm {D : Type} (pre : D → Prop) (As : D → List Rel) (R : D → Rel) : Sp := fun vs H Q _ => ∃ d, pre d ∧ Rels (As d) vs H ∧ ∀ v H', Ex H H' → (R d).h v H' → Q v H'
theorem ev_call {D : Type} {pre : D → Prop} {As : D → List Rel} {Rf : D → Rel} {E : XK} {ta : TA} {dvs : List V} {Rs : List Rel} (d : D) (h : EvRs ta σ H Rs) (hA : As d = Rs ++ dvs.map is) (hp : pre d) : EvR (tCall (Pm pre As Rf) dvs E ta) σ H (Rf d) := fun H1 e Q q =>
  h H1 e _ fun vs H2 e2 hv => ⟨d, hp, by rw [hA]; exact rels_app hv (rels_is.mpr rfl), fun v H3 e3 h3 => q v H3 (e2.trans e3) h3⟩
theorem ev_call0 {D : Type} {pre : D → Prop} {As : D → List Rel} {Rf : D → Rel} {E : XK} {ta : TA} {Rs : List Rel} (d : D) (h : EvRs ta σ H Rs) (hA : As d = Rs) (hp : pre d) : EvR (tCall (Pm pre As Rf) [] E ta) σ H (Rf d) :=
  ev_call d h (by rw [hA]; simp) hp
/-! ### statements -/
variable {D : Ends} {tu tw tz : TS} {g : TG}
theorem s_set {i : Nat} (h : EvR te σ H R) (k : ∀ v H1, Ex H H1 → R.h v H1 → D.nx (σ.set i (some v)) H1) : tAsg te (gName i) D σ H := h H (Ex.refl H) _ fun v H1 e hv => k v H1 e hv
theorem s_ret (h : EvR te σ H R) (k : ∀ v H1, Ex H H1 → R.h v H1 → D.rt v H1) : tRet te D σ H := h H (Ex.refl H) _ k
theorem s_drop (h : EvR te σ H R) (k : ∀ H1, Ex H H1 → D.nx σ H1) : tDrop te D σ H := h H (Ex.refl H) _ fun v H1 e _ => k H1 e
theorem q_set {i : Nat} (h : EvR te σ H R) (k : ∀ v H1, Ex H H1 → R.h v H1 → tz D (σ.set i (some v)) H1) : tSeq (tAsg te (gName i)) tz D σ H := s_set (D := { D with nx := tz D }) h k
theorem q_drop (h : EvR te σ H R) (k : ∀ H1, Ex H H1 → tz D σ H1) : tSeq (tDrop te) tz D σ H := s_drop (D := { D with nx := tz D }) h k
/-- if c: (what never comes) -/
theorem q_skip (h : EvT t σ H false) (k : ∀ H1, Ex H H1 → tz D σ H1) : tSeq (tIfS t tu tNext) tz D σ H := q_when h (fun z => by cases z) fun _ => k
theorem s_skip (h : EvT t σ H false) (k : ∀ H1, Ex H H1 → D.nx σ H1) : tIfS t tu tNext D σ H := s_when h (fun z => by cases z) fun _ => k
end
end Wk
set_option Elab.async false
set_option linter.all false
set_option maxRecDepth 100000
set_option maxHeartbeats 2000000
namespace Wk
open PySem PySem.Spec PyProof.Rows L2 Evl
/-! ### relations that lean on tuples alone -/
def ExT (H H' : Hp) : Prop := ∀ a xs, H a = some (.tup xs) → H' a = some (.tup xs)
theorem Ex.t {H H' : Hp} (e : Ex H H') : ExT H H' := fun a xs h => e a _ h
theorem ExT.refl (H : Hp) : ExT H H := fun _ _ h => h
theorem ExT.trans {H H1 H2 : Hp} (a : ExT H H1) (b : ExT H1 H2) : ExT H H2 := fun x o h => b x o (a x o h)
/-- a mutable object is written, or a new one laid -/
theorem ExT.put {H : Hp} {p : Addr} {o : HO} (h : ∀ xs, H p ≠ some (.tup xs)) : ExT H (upd H p o) := fun a xs e => by
  rw [upd_ne (fun z => h xs (by rw [← z]; exact e))]
  exact e
structure Im (R : Rel) : Prop where
  up : ∀ {v H H'}, ExT H H' → R.h v H → R.h v H'
def Ims : List Rel → Prop
  | [] => True
  | R :: Rs => Im R ∧ Ims Rs
theorem im_is {v : V} : Im (is v) := ⟨fun _ h => h⟩
theorem im_tupV {xs : List V} : Im (tupV xs) := ⟨fun e ⟨a, h, k⟩ => ⟨a, h, e _ _ k⟩⟩
theorem Ims.up : ∀ {Rs : List Rel} {vs : List V} {H H' : Hp}, Ims Rs → ExT H H' → Rels Rs vs H → Rels Rs vs H'
  | [], [], _, _, _, _, _ => trivial
  | R :: Rs, v :: vs, _, _, m, e, h => ⟨m.1.up e h.1, Ims.up m.2 e h.2⟩
  | [], _ :: _, _, _, _, _, h => h.elim
  | _ :: _, [], _, _, _, _, h => h.elim
theorem im_tp {Rs : List Rel} (m : Ims Rs) : Im (tp Rs) := ⟨fun e ⟨a, vs, h, k, r⟩ => ⟨a, vs, h, e _ _ k, m.up e r⟩⟩
theorem ims_map {α : Type} {T : α → Rel} (m : ∀ a, Im (T a)) : ∀ l : List α, Ims (l.map T)
  | [] => trivial
  | a :: l => ⟨m a, ims_map m l⟩
theorem ims_app : ∀ {Rs Ss : List Rel}, Ims Rs → Ims Ss → Ims (Rs ++ Ss)
  | [], _, _, m => m
  | _ :: _, _, m, k => ⟨m.1, ims_app m.2 k⟩
/-! ### comprehensions -/
section
variable {K : PySem.W.Frag} {σ : L2.St} {H : Hp} {α : Type} {te tl : TE} {tt : TT} {g : TG} {vs : List Nat}
theorem take_snoc {l : List α} {i : Nat} {a : α} (h : l[i]? = some a) : l.take (i + 1) = l.take i ++ [a] := by
  rw [List.take_add_one, h]; rfl
/-- the turn of a comprehension at a, x having been given -/
def Body (g : TG) (tt : TT) (te : TE) (vs : List Nat) (σ : L2.St) (H : Hp) (x : V) (b : Bool) (R : Rel) : Prop :=
  ∃ σ2, (∀ Q : L2.St → Hp → Prop, Q σ2 H → g x (wipe σ vs) H Q) ∧ wipe σ2 vs = wipe σ vs ∧ EvT tt σ2 H b ∧ (b = true → EvR te σ2 H R)
theorem lc_gen {J : It} {n : Nat} {G : Hp → Prop} {Y : Nat → Hp → V → Hp → Prop} {H1 : Hp} {D : Addr} {Qd : VK} (w : Walk J n G Y) (its : List α) (hn : its.length = n) (S T : α → Rel) (b : α → Bool) (hG : ∀ H', Ex H1 H' → G H')
    (hY : ∀ i H x H', Ex H1 H → Y i H x H' → Ex H H' ∧ ∀ a, its[i]? = some a → (S a).h x H') (im : ∀ a, Im (T a)) (hz : n ≤ 50000)
    (hb : ∀ a ∈ its, ∀ x H', Ex H1 H' → (S a).h x H' → Body g tt te vs σ H' x (b a) (T a)) (hD : H1 D = none) (q : ∀ v H', Ex H1 H' → (ls ((its.filter b).map T)).h v H' → Qd v H') :
    ∃ W : Nat → Nat → Hp → Prop, (∃ m, W 0 m (upd H1 D (.lst []))) ∧ ∀ i m H, W i m H →
      (J.stop i H ∧ Qd (.ref D) H) ∨ (J.go i H ∧ ∃ Nx : Hp → Prop, (∀ H', Nx H' → ∃ m', m' < m ∧ W (i + 1) m' H') ∧ ∀ x H', J.yld i H x H' → g x (wipe σ vs) H' fun σ2 H2 => wipe σ2 vs = wipe σ vs ∧ tt σ2 H2 fun b H3 =>
        if b = true then te σ2 H3 fun y H4 => ∃ acc, H4 D = some (.lst acc) ∧ acc.length < sizeLine ∧ Nx (upd H4 D (.lst (acc ++ [y]))) else Nx H3) := by
  refine lc_it w (Qd := fun H => Qd (.ref D) H) (fun i H' => Ex H1 H' ∧ ∃ ys, H' D = some (.lst ys) ∧ Rels (((its.take i).filter b).map T) ys H') ⟨Ex.new hD, [], upd_same, by simp [Rels]⟩ (fun i H' _ p => hG H' p.1) ?_ ?_
  · rintro i x H H' hi ⟨e, ys, hy, hr⟩ y
    obtain ⟨e2, hS⟩ := hY i H x H' e y
    obtain ⟨a, ha⟩ : ∃ a, its[i]? = some a := ⟨its[i]'(by omega), by simp [hn, hi]⟩
    obtain ⟨σ2, h1, h2, h3, h4⟩ := hb a (List.mem_of_getElem? ha) x H' (e.trans e2) (hS a ha)
    refine h1 _ ⟨h2, h3 H' (Ex.refl _) _ fun H3 e3 => ?_⟩
    cases hba : b a with
    | false =>
      show Ex H1 H3 ∧ _
      refine ⟨(e.trans e2).trans e3, ys, e3 _ _ (e2 _ _ hy), ?_⟩
      rw [take_snoc ha, List.filter_append]
      simp only [List.filter_cons, hba, List.filter_nil]
      simpa using hr.up (e2.trans e3)
    | true =>
      show te σ2 H3 _
      refine h4 hba H3 e3 _ fun v H4 e4 hv => ?_
      have hy4 : H4 D = some (.lst ys) := e4 _ _ (e3 _ _ (e2 _ _ hy))
      have hl : ys.length ≤ i := by
        rw [← rels_len hr, List.length_map]
        exact Nat.le_trans (List.length_filter_le _ _) (by rw [List.length_take]; omega)
      have et : ExT H4 (upd H4 D (.lst (ys ++ [v]))) := ExT.put fun xs z => by rw [hy4] at z; cases z
      refine ⟨ys, hy4, sz_lt (by omega), Ex.mut (((e.trans e2).trans e3).trans e4) hD, ys ++ [v], upd_same, ?_⟩
      rw [take_snoc ha, List.filter_append, List.map_append]
      simp only [List.filter_cons, hba, List.filter_nil]
      exact rels_snoc ((ims_map im _).up et (hr.up ((e2.trans e3).trans e4))) ((im a).up et hv)
  · rintro H' ⟨e, ys, hy, hr⟩
    refine q _ _ e ⟨D, ys, rfl, hy, ?_⟩
    rwa [List.take_of_length_le (by omega)] at hr
theorem ev_lcT (its : List α) (S T : α → Rel) (b : α → Bool) (h : EvR tl σ H (tp (its.map S))) (im : ∀ a, Im (T a)) (hz : its.length ≤ 50000)
    (hb : ∀ a ∈ its, ∀ x H', Ex H H' → (S a).h x H' → Body g tt te vs σ H' x (b a) (T a)) : EvR (tLc (iTup K tl) g tt te vs) σ H (ls ((its.filter b).map T)) := fun H0 e Q q =>
  h H0 e _ fun v H1 e1 ⟨a, xs, hv, ht, hr⟩ => ⟨a, hv, ⟨xs, SqT.of ht⟩, fun D hD => by
    have hl : its.length = xs.length := by rw [← rels_len hr, List.length_map]
    refine lc_gen (walk_tup (K := K) (a := a) (xs := xs)) its hl S T b (fun H' e' => SqT.of (e' _ _ ht)) ?_ im (by omega) (fun a ha x H' e' hs => hb a ha x H' ((e.trans e1).trans e') hs) hD (fun v H' e' hv => q v H' (e1.trans e') hv)
    rintro i H x H' e' ⟨rfl, hx⟩
    refine ⟨Ex.refl _, fun a ha => ?_⟩
    obtain ⟨R, h1, h2⟩ := rels_at' hr hx
    rw [List.getElem?_map, ha] at h1
    cases h1
    exact (S a).up e' h2⟩
theorem ev_lcL (its : List α) (S T : α → Rel) (b : α → Bool) (h : EvR tl σ H (ls (its.map S))) (im : ∀ a, Im (T a)) (hz : its.length ≤ 50000)
    (hb : ∀ a ∈ its, ∀ x H', Ex H H' → (S a).h x H' → Body g tt te vs σ H' x (b a) (T a)) : EvR (tLc (iList K tl) g tt te vs) σ H (ls ((its.filter b).map T)) := fun H0 e Q q =>
  h H0 e _ fun v H1 e1 ⟨a, xs, hv, ht, hr⟩ => ⟨a, hv, ⟨xs, SqL.of ht⟩, fun D hD => by
    have hl : its.length = xs.length := by rw [← rels_len hr, List.length_map]
    refine lc_gen (walk_list (K := K) (a := a) (xs := xs)) its hl S T b (fun H' e' => SqL.of (e' _ _ ht)) ?_ im (by omega) (fun a ha x H' e' hs => hb a ha x H' ((e.trans e1).trans e') hs) hD (fun v H' e' hv => q v H' (e1.trans e') hv)
    rintro i H x H' e' ⟨rfl, hx⟩
    refine ⟨Ex.refl _, fun a ha => ?_⟩
    obtain ⟨R, h1, h2⟩ := rels_at' hr hx
    rw [List.getElem?_map, ha] at h1
    cases h1
    exact (S a).up e' h2⟩
theorem ev_lcR {ta : TA} (n : Nat) (T : Nat → Rel) (b : Nat → Bool) (h : EvRs ta σ H [nn n]) (im : ∀ a, Im (T a)) (hz : n ≤ 50000)
    (hb : ∀ k, k < n → ∀ H', Ex H H' → Body g tt te vs σ H' (.int (k : Int)) (b k) (T k)) : EvR (tLc (iRng1 ta) g tt te vs) σ H (ls (((List.range n).filter b).map T)) := fun H0 e Q q =>
  h H0 e _ fun us H1 e1 hr => by
    obtain ⟨u, rfl, hu⟩ : ∃ u, us = [u] ∧ u = .int (n : Int) := by
      match us, hr with
      | [u], ⟨h1, _⟩ => exact ⟨u, rfl, h1⟩
    subst hu
    refine ⟨(n : Int), rfl, by omega, by omega, fun D hD => ?_⟩
    rw [Int.toNat_natCast]
    refine lc_gen walk_range (List.range n) (List.length_range) nn T b (fun H' _ => trivial) ?_ im hz (fun k hk x H' e' hs => ?_) hD (fun v H' e' hv => q v H' (e1.trans e') hv)
    · rintro i H x H' e' ⟨rfl, hx⟩
      refine ⟨Ex.refl _, fun k hk => ?_⟩
      have : i < n := by
        by_cases hc : i < n
        · exact hc
        · rw [List.getElem?_eq_none (by rw [List.length_range]; omega)] at hk; cases hk
      rw [List.getElem?_range this] at hk
      cases hk
      show x = _
      rw [hx]; simp
    · have hs : x = .int (k : Int) := hs
      subst hs
      exact hb k (List.mem_range.mp hk) H' ((e.trans e1).trans e')
/-- a plain target -/
theorem body_n {j : Nat} {x : V} {b : Bool} {R : Rel} (hw : ∀ x, wipe ((wipe σ vs).set j (some x)) vs = wipe σ vs) (ht : EvT tt ((wipe σ vs).set j (some x)) H b) (he : b = true → EvR te ((wipe σ vs).set j (some x)) H R) : Body (gName j) tt te vs σ H x b R :=
  ⟨(wipe σ vs).set j (some x), fun Q q => q, hw x, ht, he⟩
end
end Wk
set_option Elab.async false
set_option linter.all false
set_option maxRecDepth 100000
set_option maxHeartbeats 0
namespace Wk
open PySem PySem.Spec PyProof.Rows L2 Evl
/-- a statement within a body, by places; its value; a comprehension's scope -/
def stAt : List Stmt → List Nat → Stmt
  | ss, [] => .Pass ⟨0, 0, 0, 0⟩
  | ss, [i] => ss.getD i (.Pass ⟨0, 0, 0, 0⟩)
  | ss, i :: r => match ss.getD i (.Pass ⟨0, 0, 0, 0⟩) with
    | .For _ _ b _ _ => stAt b r
    | .If _ b _ _ => stAt b r
    | .While _ b _ _ => stAt b r
    | _ => .Pass ⟨0, 0, 0, 0⟩
def stV : Stmt → Expr
  | .Assign _ v _ => v
  | .Return (some v) _ => v
  | _ => .Name "x" ⟨0, 0, 0, 0⟩
def lcSc : Expr → Scope
  | .ListComp _ _ sc _ => sc
  | _ => { kind := .function, names := [], isGenerator := false, isCoroutine := false }
def relS (sc outer : Scope) : Scope := relabel sc { scope := outer, locals := 0, globals := 0, cells := [] }
def top (i : Nat) : Stmt := PySem.Challenge.pw_sturdysort_k17_whole_stretches.main.body.getD i (.Pass ⟨0, 0, 0, 0⟩)
abbrev s_is_integer : Stmt := top 13
def d_is_integer : He.DefD := ⟨("is_integer", none), "is_integer", "is_integer", defArgs s_is_integer, defBody s_is_integer, defScope s_is_integer, [], []⟩
abbrev s_is_from : Stmt := top 14
def d_is_from : He.DefD := ⟨("is_from", none), "is_from", "is_from", defArgs s_is_from, defBody s_is_from, defScope s_is_from, [], []⟩
abbrev s_need_cards : Stmt := top 15
def d_need_cards : He.DefD := ⟨("need_cards", none), "need_cards", "need_cards", defArgs s_need_cards, defBody s_need_cards, defScope s_need_cards, [], []⟩
abbrev s_is_row_of : Stmt := top 16
def d_is_row_of : He.DefD := ⟨("is_row_of", none), "is_row_of", "is_row_of", defArgs s_is_row_of, defBody s_is_row_of, defScope s_is_row_of, [], []⟩
abbrev s_need_word : Stmt := top 17
def d_need_word : He.DefD := ⟨("need_word", none), "need_word", "need_word", defArgs s_need_word, defBody s_need_word, defScope s_need_word, [.int 200], []⟩
abbrev s_is_lot_of : Stmt := top 18
def d_is_lot_of : He.DefD := ⟨("is_lot_of", none), "is_lot_of", "is_lot_of", defArgs s_is_lot_of, defBody s_is_lot_of, defScope s_is_lot_of, [], []⟩
abbrev s_need_lot : Stmt := top 19
def d_need_lot : He.DefD := ⟨("need_lot", none), "need_lot", "need_lot", defArgs s_need_lot, defBody s_need_lot, defScope s_need_lot, [], []⟩
abbrev s_turned_row : Stmt := top 20
def d_turned_row : He.DefD := ⟨("turned_row", none), "turned_row", "turned_row", defArgs s_turned_row, defBody s_turned_row, defScope s_turned_row, [], []⟩
abbrev s_exchanged : Stmt := top 21
def d_exchanged : He.DefD := ⟨("exchanged", none), "exchanged", "exchanged", defArgs s_exchanged, defBody s_exchanged, defScope s_exchanged, [], []⟩
abbrev s_done : Stmt := top 22
def d_done : He.DefD := ⟨("done", none), "done", "done", defArgs s_done, defBody s_done, defScope s_done, [], []⟩
abbrev s_run_left : Stmt := top 23
def d_run_left : He.DefD := ⟨("run_left", none), "run_left", "run_left", defArgs s_run_left, defBody s_run_left, defScope s_run_left, [], []⟩
abbrev s_counts_below : Stmt := top 24
def d_counts_below : He.DefD := ⟨("counts_below", none), "counts_below", "counts_below", defArgs s_counts_below, defBody s_counts_below, defScope s_counts_below, [], []⟩
abbrev s_lacks : Stmt := top 25
def d_lacks : He.DefD := ⟨("lacks", none), "lacks", "lacks", defArgs s_lacks, defBody s_lacks, defScope s_lacks, [], []⟩
abbrev s_need_goal : Stmt := top 27
def d_need_goal : He.DefD := ⟨("need_goal", none), "need_goal", "need_goal", defArgs s_need_goal, defBody s_need_goal, defScope s_need_goal, [], []⟩
abbrev s_need_short : Stmt := top 31
def d_need_short : He.DefD := ⟨("need_short", none), "need_short", "need_short", defArgs s_need_short, defBody s_need_short, defScope s_need_short, [], []⟩
abbrev s_need_case : Stmt := top 32
def d_need_case : He.DefD := ⟨("need_case", none), "need_case", "need_case", defArgs s_need_case, defBody s_need_case, defScope s_need_case, [], []⟩
abbrev s_harmless : Stmt := top 33
def d_harmless : He.DefD := ⟨("harmless", none), "harmless", "harmless", defArgs s_harmless, defBody s_harmless, defScope s_harmless, [], []⟩
abbrev s_is_within : Stmt := top 34
def d_is_within : He.DefD := ⟨("is_within", none), "is_within", "is_within", defArgs s_is_within, defBody s_is_within, defScope s_is_within, [], []⟩
abbrev s_table_of : Stmt := top 36
def d_table_of : He.DefD := ⟨("table_of", none), "table_of", "table_of", defArgs s_table_of, defBody s_table_of, defScope s_table_of, [], []⟩
abbrev s_need_few : Stmt := top 37
def d_need_few : He.DefD := ⟨("need_few", none), "need_few", "need_few", defArgs s_need_few, defBody s_need_few, defScope s_need_few, [.int 3000], []⟩
abbrev s_need_greatest : Stmt := top 38
def d_need_greatest : He.DefD := ⟨("need_greatest", none), "need_greatest", "need_greatest", defArgs s_need_greatest, defBody s_need_greatest, defScope s_need_greatest, [], []⟩
abbrev s_need_harmless : Stmt := top 39
def d_need_harmless : He.DefD := ⟨("need_harmless", none), "need_harmless", "need_harmless", defArgs s_need_harmless, defBody s_need_harmless, defScope s_need_harmless, [], []⟩
abbrev s_pairs_met : Stmt := top 41
def d_pairs_met : He.DefD := ⟨("pairs_met", none), "pairs_met", "pairs_met", defArgs s_pairs_met, defBody s_pairs_met, defScope s_pairs_met, [], []⟩
abbrev s_partners : Stmt := top 42
def d_partners : He.DefD := ⟨("partners", none), "partners", "partners", defArgs s_partners, defBody s_partners, defScope s_partners, [], []⟩
abbrev s_rising : Stmt := top 43
def d_rising : He.DefD := ⟨("rising", none), "rising", "rising", defArgs s_rising, defBody s_rising, defScope s_rising, [], []⟩
abbrev s_fixed : Stmt := top 45
def d_fixed : He.DefD := ⟨("fixed", none), "fixed", "fixed", defArgs s_fixed, defBody s_fixed, defScope s_fixed, [], []⟩
abbrev s_stretch_of : Stmt := top 46
def d_stretch_of : He.DefD := ⟨("stretch_of", none), "stretch_of", "stretch_of", defArgs s_stretch_of, defBody s_stretch_of, defScope s_stretch_of, [], []⟩
abbrev s_above : Stmt := top 47
def d_above : He.DefD := ⟨("above", none), "above", "above", defArgs s_above, defBody s_above, defScope s_above, [], []⟩
abbrev s__law_taken : Stmt := top 49
def d__law_taken : He.DefD := ⟨("_law_taken", none), "_law_taken", "_law_taken", defArgs s__law_taken, defBody s__law_taken, defScope s__law_taken, [], []⟩
abbrev s__law_pick : Stmt := top 50
def d__law_pick : He.DefD := ⟨("_law_pick", none), "_law_pick", "_law_pick", defArgs s__law_pick, defBody s__law_pick, defScope s__law_pick, [], []⟩
abbrev s__law_alike : Stmt := top 51
def d__law_alike : He.DefD := ⟨("_law_alike", none), "_law_alike", "_law_alike", defArgs s__law_alike, defBody s__law_alike, defScope s__law_alike, [], []⟩
abbrev s__law_row : Stmt := top 52
def d__law_row : He.DefD := ⟨("_law_row", none), "_law_row", "_law_row", defArgs s__law_row, defBody s__law_row, defScope s__law_row, [], []⟩
abbrev s__law_word : Stmt := top 53
def d__law_word : He.DefD := ⟨("_law_word", none), "_law_word", "_law_word", defArgs s__law_word, defBody s__law_word, defScope s__law_word, [], []⟩
abbrev s__law_lot : Stmt := top 54
def d__law_lot : He.DefD := ⟨("_law_lot", none), "_law_lot", "_law_lot", defArgs s__law_lot, defBody s__law_lot, defScope s__law_lot, [], []⟩
abbrev s__law_turned : Stmt := top 55
def d__law_turned : He.DefD := ⟨("_law_turned", none), "_law_turned", "_law_turned", defArgs s__law_turned, defBody s__law_turned, defScope s__law_turned, [], []⟩
abbrev s__law_swap : Stmt := top 56
def d__law_swap : He.DefD := ⟨("_law_swap", none), "_law_swap", "_law_swap", defArgs s__law_swap, defBody s__law_swap, defScope s__law_swap, [], []⟩
abbrev s__law_run : Stmt := top 57
def d__law_run : He.DefD := ⟨("_law_run", none), "_law_run", "_law_run", defArgs s__law_run, defBody s__law_run, defScope s__law_run, [], []⟩
abbrev s__law_end : Stmt := top 58
def d__law_end : He.DefD := ⟨("_law_end", none), "_law_end", "_law_end", defArgs s__law_end, defBody s__law_end, defScope s__law_end, [], []⟩
abbrev s__law_far : Stmt := top 59
def d__law_far : He.DefD := ⟨("_law_far", none), "_law_far", "_law_far", defArgs s__law_far, defBody s__law_far, defScope s__law_far, [], []⟩
abbrev s__law_subsets : Stmt := top 60
def d__law_subsets : He.DefD := ⟨("_law_subsets", none), "_law_subsets", "_law_subsets", defArgs s__law_subsets, defBody s__law_subsets, defScope s__law_subsets, [], []⟩
abbrev s__law_fine : Stmt := top 61
def d__law_fine : He.DefD := ⟨("_law_fine", none), "_law_fine", "_law_fine", defArgs s__law_fine, defBody s__law_fine, defScope s__law_fine, [], []⟩
abbrev s__law_greatest : Stmt := top 62
def d__law_greatest : He.DefD := ⟨("_law_greatest", none), "_law_greatest", "_law_greatest", defArgs s__law_greatest, defBody s__law_greatest, defScope s__law_greatest, [], []⟩
abbrev s__law_goal : Stmt := top 63
def d__law_goal : He.DefD := ⟨("_law_goal", none), "_law_goal", "_law_goal", defArgs s__law_goal, defBody s__law_goal, defScope s__law_goal, [], []⟩
abbrev s__law_case : Stmt := top 64
def d__law_case : He.DefD := ⟨("_law_case", none), "_law_case", "_law_case", defArgs s__law_case, defBody s__law_case, defScope s__law_case, [], []⟩
abbrev s__law_sorter : Stmt := top 65
def d__law_sorter : He.DefD := ⟨("_law_sorter", none), "_law_sorter", "_law_sorter", defArgs s__law_sorter, defBody s__law_sorter, defScope s__law_sorter, [], []⟩
abbrev s__law_partner : Stmt := top 66
def d__law_partner : He.DefD := ⟨("_law_partner", none), "_law_partner", "_law_partner", defArgs s__law_partner, defBody s__law_partner, defScope s__law_partner, [], []⟩
abbrev s_law : Stmt := top 67
def d_law : He.DefD := ⟨("law", none), "law", "law", defArgs s_law, defBody s_law, defScope s_law, [], []⟩
abbrev sT___init__ : Stmt := inClass (top 35) 0
def dT___init__ : He.DefD := ⟨("Table", some "__init__"), "__init__", "Table.__init__", defArgs sT___init__, defBody sT___init__, defScope sT___init__, [], []⟩
abbrev sT_total : Stmt := inClass (top 35) 1
def dT_total : He.DefD := ⟨("Table", some "total"), "total", "Table.total", defArgs sT_total, defBody sT_total, defScope sT_total, [], []⟩
abbrev sT_left : Stmt := inClass (top 35) 2
def dT_left : He.DefD := ⟨("Table", some "left"), "left", "Table.left", defArgs sT_left, defBody sT_left, defScope sT_left, [], []⟩
abbrev sT_working : Stmt := inClass (top 35) 3
def dT_working : He.DefD := ⟨("Table", some "working"), "working", "Table.working", defArgs sT_working, defBody sT_working, defScope sT_working, [], []⟩
abbrev sT_ways_working : Stmt := inClass (top 35) 4
def dT_ways_working : He.DefD := ⟨("Table", some "ways_working"), "ways_working", "Table.ways_working", defArgs sT_ways_working, defBody sT_ways_working, defScope sT_ways_working, [], []⟩
abbrev sT_lots : Stmt := inClass (top 35) 5
def dT_lots : He.DefD := ⟨("Table", some "lots"), "lots", "Table.lots", defArgs sT_lots, defBody sT_lots, defScope sT_lots, [], []⟩
abbrev sT_at : Stmt := inClass (top 35) 6
def dT_at : He.DefD := ⟨("Table", some "at"), "at", "Table.at", defArgs sT_at, defBody sT_at, defScope sT_at, [], []⟩
abbrev sT_number : Stmt := inClass (top 35) 7
def dT_number : He.DefD := ⟨("Table", some "number"), "number", "Table.number", defArgs sT_number, defBody sT_number, defScope sT_number, [], []⟩
abbrev sT_first_above : Stmt := inClass (top 35) 8
def dT_first_above : He.DefD := ⟨("Table", some "first_above"), "first_above", "Table.first_above", defArgs sT_first_above, defBody sT_first_above, defScope sT_first_above, [], []⟩
def fn : List He.DefD := [d_is_integer, d_is_from, d_need_cards, d_is_row_of, d_need_word, d_is_lot_of, d_need_lot, d_turned_row, d_exchanged, d_done, d_run_left, d_counts_below, d_lacks, d_need_goal, d_need_short, d_need_case, d_harmless, d_is_within, d_table_of, d_need_few, d_need_greatest, d_need_harmless, d_pairs_met, d_partners, d_rising, d_fixed, d_stretch_of, d_above, d__law_taken, d__law_pick, d__law_alike, d__law_row, d__law_word, d__law_lot, d__law_turned, d__law_swap, d__law_run, d__law_end, d__law_far, d__law_subsets, d__law_fine, d__law_greatest, d__law_goal, d__law_case, d__law_sorter, d__law_partner, d_law] ++ [dT___init__, dT_total, dT_left, dT_working, dT_ways_working, dT_lots, dT_at, dT_number, dT_first_above]
def fa1 : List He.Fa := [.glo "is_integer", .glo "is_from", .glo "need_cards", .glo "is_row_of", .glo "need_word", .glo "is_lot_of", .glo "need_lot", .glo "turned_row", .glo "exchanged", .glo "done", .glo "run_left", .glo "counts_below", .glo "lacks", .glo "need_goal", .glo "need_short", .glo "need_case", .glo "harmless", .glo "is_within", .glo "table_of", .glo "need_few", .glo "need_greatest", .glo "need_harmless", .glo "pairs_met", .glo "partners", .glo "rising", .glo "fixed", .glo "stretch_of", .glo "above", .glo "_law_taken", .glo "_law_pick", .glo "_law_alike", .glo "_law_row", .glo "_law_word", .glo "_law_lot", .glo "_law_turned", .glo "_law_swap", .glo "_law_run", .glo "_law_end", .glo "_law_far", .glo "_law_subsets"]
def fa2 : List He.Fa := [.glo "_law_fine", .glo "_law_greatest", .glo "_law_goal", .glo "_law_case", .glo "_law_sorter", .glo "_law_partner", .glo "law", .glo "Table", .cls "Table", .mkr "Table", .meth "Table" "total", .meth "Table" "left", .meth "Table" "working", .meth "Table" "ways_working", .meth "Table" "lots", .meth "Table" "at", .meth "Table" "number", .meth "Table" "first_above", .noat "Table" "first", .noat "Table" "word", .noat "Table" "goal", .noat "Table" "counts", .free "len", .free "all", .free "range", .free "tuple", .free "set", .free "enumerate", .free "zip", .free "isinstance", .free "int", .free "bool", .free "list", .free "dict", .free "sorted", .free "reversed", .free "max", .free "str", .int "MOST_CARDS" 7, .int "MOST_DEEDS" 200, .int "MOST_SHORT" 40, .int "MOST_LOTS" 3000]
def fa : List He.Fa := fa1 ++ fa2
/-- what is known of the written part -/
structure Ctx (K : PySem.W.Frag) (mg : Str → Option Value) : Prop where
  says : He.SaysD fa fn K
  glo : ∀ {x}, (He.Fa.glo x).ok K = true → mg x = some (.ref (He.ga K x))
  free : ∀ {x}, (He.Fa.free x).ok K = true → mg x = none
  int : ∀ {x i}, (He.Fa.int x i).ok K = true → ∃ t, mg x = some (.int i t)
section
variable {K : PySem.W.Frag} {mg : Str → Option Value}
theorem Ctx.a_is_integer (C : Ctx K mg) : mg "is_integer" = some (.ref (He.fAd K d_is_integer.at_)) := C.glo (C.says.fact 0)
theorem Ctx.a_is_from (C : Ctx K mg) : mg "is_from" = some (.ref (He.fAd K d_is_from.at_)) := C.glo (C.says.fact 1)
theorem Ctx.a_need_cards (C : Ctx K mg) : mg "need_cards" = some (.ref (He.fAd K d_need_cards.at_)) := C.glo (C.says.fact 2)
theorem Ctx.a_is_row_of (C : Ctx K mg) : mg "is_row_of" = some (.ref (He.fAd K d_is_row_of.at_)) := C.glo (C.says.fact 3)
theorem Ctx.a_need_word (C : Ctx K mg) : mg "need_word" = some (.ref (He.fAd K d_need_word.at_)) := C.glo (C.says.fact 4)
theorem Ctx.a_is_lot_of (C : Ctx K mg) : mg "is_lot_of" = some (.ref (He.fAd K d_is_lot_of.at_)) := C.glo (C.says.fact 5)
theorem Ctx.a_need_lot (C : Ctx K mg) : mg "need_lot" = some (.ref (He.fAd K d_need_lot.at_)) := C.glo (C.says.fact 6)
theorem Ctx.a_turned_row (C : Ctx K mg) : mg "turned_row" = some (.ref (He.fAd K d_turned_row.at_)) := C.glo (C.says.fact 7)
theorem Ctx.a_exchanged (C : Ctx K mg) : mg "exchanged" = some (.ref (He.fAd K d_exchanged.at_)) := C.glo (C.says.fact 8)
theorem Ctx.a_done (C : Ctx K mg) : mg "done" = some (.ref (He.fAd K d_done.at_)) := C.glo (C.says.fact 9)
theorem Ctx.a_run_left (C : Ctx K mg) : mg "run_left" = some (.ref (He.fAd K d_run_left.at_)) := C.glo (C.says.fact 10)
theorem Ctx.a_counts_below (C : Ctx K mg) : mg "counts_below" = some (.ref (He.fAd K d_counts_below.at_)) := C.glo (C.says.fact 11)
theorem Ctx.a_lacks (C : Ctx K mg) : mg "lacks" = some (.ref (He.fAd K d_lacks.at_)) := C.glo (C.says.fact 12)
theorem Ctx.a_need_goal (C : Ctx K mg) : mg "need_goal" = some (.ref (He.fAd K d_need_goal.at_)) := C.glo (C.says.fact 13)
theorem Ctx.a_need_short (C : Ctx K mg) : mg "need_short" = some (.ref (He.fAd K d_need_short.at_)) := C.glo (C.says.fact 14)
theorem Ctx.a_need_case (C : Ctx K mg) : mg "need_case" = some (.ref (He.fAd K d_need_case.at_)) := C.glo (C.says.fact 15)
theorem Ctx.a_harmless (C : Ctx K mg) : mg "harmless" = some (.ref (He.fAd K d_harmless.at_)) := C.glo (C.says.fact 16)
theorem Ctx.a_is_within (C : Ctx K mg) : mg "is_within" = some (.ref (He.fAd K d_is_within.at_)) := C.glo (C.says.fact 17)
theorem Ctx.a_table_of (C : Ctx K mg) : mg "table_of" = some (.ref (He.fAd K d_table_of.at_)) := C.glo (C.says.fact 18)
theorem Ctx.a_need_few (C : Ctx K mg) : mg "need_few" = some (.ref (He.fAd K d_need_few.at_)) := C.glo (C.says.fact 19)
theorem Ctx.a_need_greatest (C : Ctx K mg) : mg "need_greatest" = some (.ref (He.fAd K d_need_greatest.at_)) := C.glo (C.says.fact 20)
theorem Ctx.a_need_harmless (C : Ctx K mg) : mg "need_harmless" = some (.ref (He.fAd K d_need_harmless.at_)) := C.glo (C.says.fact 21)
theorem Ctx.a_pairs_met (C : Ctx K mg) : mg "pairs_met" = some (.ref (He.fAd K d_pairs_met.at_)) := C.glo (C.says.fact 22)
theorem Ctx.a_partners (C : Ctx K mg) : mg "partners" = some (.ref (He.fAd K d_partners.at_)) := C.glo (C.says.fact 23)
theorem Ctx.a_rising (C : Ctx K mg) : mg "rising" = some (.ref (He.fAd K d_rising.at_)) := C.glo (C.says.fact 24)
theorem Ctx.a_fixed (C : Ctx K mg) : mg "fixed" = some (.ref (He.fAd K d_fixed.at_)) := C.glo (C.says.fact 25)
theorem Ctx.a_stretch_of (C : Ctx K mg) : mg "stretch_of" = some (.ref (He.fAd K d_stretch_of.at_)) := C.glo (C.says.fact 26)
theorem Ctx.a_above (C : Ctx K mg) : mg "above" = some (.ref (He.fAd K d_above.at_)) := C.glo (C.says.fact 27)
theorem Ctx.a__law_taken (C : Ctx K mg) : mg "_law_taken" = some (.ref (He.fAd K d__law_taken.at_)) := C.glo (C.says.fact 28)
theorem Ctx.a__law_pick (C : Ctx K mg) : mg "_law_pick" = some (.ref (He.fAd K d__law_pick.at_)) := C.glo (C.says.fact 29)
theorem Ctx.a__law_alike (C : Ctx K mg) : mg "_law_alike" = some (.ref (He.fAd K d__law_alike.at_)) := C.glo (C.says.fact 30)
theorem Ctx.a__law_row (C : Ctx K mg) : mg "_law_row" = some (.ref (He.fAd K d__law_row.at_)) := C.glo (C.says.fact 31)
theorem Ctx.a__law_word (C : Ctx K mg) : mg "_law_word" = some (.ref (He.fAd K d__law_word.at_)) := C.glo (C.says.fact 32)
theorem Ctx.a__law_lot (C : Ctx K mg) : mg "_law_lot" = some (.ref (He.fAd K d__law_lot.at_)) := C.glo (C.says.fact 33)
theorem Ctx.a__law_turned (C : Ctx K mg) : mg "_law_turned" = some (.ref (He.fAd K d__law_turned.at_)) := C.glo (C.says.fact 34)
theorem Ctx.a__law_swap (C : Ctx K mg) : mg "_law_swap" = some (.ref (He.fAd K d__law_swap.at_)) := C.glo (C.says.fact 35)
theorem Ctx.a__law_run (C : Ctx K mg) : mg "_law_run" = some (.ref (He.fAd K d__law_run.at_)) := C.glo (C.says.fact 36)
theorem Ctx.a__law_end (C : Ctx K mg) : mg "_law_end" = some (.ref (He.fAd K d__law_end.at_)) := C.glo (C.says.fact 37)
theorem Ctx.a__law_far (C : Ctx K mg) : mg "_law_far" = some (.ref (He.fAd K d__law_far.at_)) := C.glo (C.says.fact 38)
theorem Ctx.a__law_subsets (C : Ctx K mg) : mg "_law_subsets" = some (.ref (He.fAd K d__law_subsets.at_)) := C.glo (C.says.fact 39)
theorem Ctx.a__law_fine (C : Ctx K mg) : mg "_law_fine" = some (.ref (He.fAd K d__law_fine.at_)) := C.glo (C.says.fact 40)
theorem Ctx.a__law_greatest (C : Ctx K mg) : mg "_law_greatest" = some (.ref (He.fAd K d__law_greatest.at_)) := C.glo (C.says.fact 41)
theorem Ctx.a__law_goal (C : Ctx K mg) : mg "_law_goal" = some (.ref (He.fAd K d__law_goal.at_)) := C.glo (C.says.fact 42)
theorem Ctx.a__law_case (C : Ctx K mg) : mg "_law_case" = some (.ref (He.fAd K d__law_case.at_)) := C.glo (C.says.fact 43)
theorem Ctx.a__law_sorter (C : Ctx K mg) : mg "_law_sorter" = some (.ref (He.fAd K d__law_sorter.at_)) := C.glo (C.says.fact 44)
theorem Ctx.a__law_partner (C : Ctx K mg) : mg "_law_partner" = some (.ref (He.fAd K d__law_partner.at_)) := C.glo (C.says.fact 45)
theorem Ctx.a_law (C : Ctx K mg) : mg "law" = some (.ref (He.fAd K d_law.at_)) := C.glo (C.says.fact 46)
theorem Ctx.gT (C : Ctx K mg) : mg "Table" = some (.ref (He.ga K "Table")) := C.glo (C.says.fact 47)
theorem Ctx.cl (C : Ctx K mg) : Cls K (He.ga K "Table") := He.cls_ok (C.says.fact 48)
theorem Ctx.mkr_Table (C : Ctx K mg) : Mk K (He.ga K "Table") (He.fAd K dT___init__.at_) := He.mkr_ok (C.says.fact 49)
theorem Ctx.m_total (C : Ctx K mg) : Meth K (He.ga K "Table") "total" (He.fAd K dT_total.at_) := He.meth_ok (C.says.fact 50)
theorem Ctx.m_left (C : Ctx K mg) : Meth K (He.ga K "Table") "left" (He.fAd K dT_left.at_) := He.meth_ok (C.says.fact 51)
theorem Ctx.m_working (C : Ctx K mg) : Meth K (He.ga K "Table") "working" (He.fAd K dT_working.at_) := He.meth_ok (C.says.fact 52)
theorem Ctx.m_ways_working (C : Ctx K mg) : Meth K (He.ga K "Table") "ways_working" (He.fAd K dT_ways_working.at_) := He.meth_ok (C.says.fact 53)
theorem Ctx.m_lots (C : Ctx K mg) : Meth K (He.ga K "Table") "lots" (He.fAd K dT_lots.at_) := He.meth_ok (C.says.fact 54)
theorem Ctx.m_at (C : Ctx K mg) : Meth K (He.ga K "Table") "at" (He.fAd K dT_at.at_) := He.meth_ok (C.says.fact 55)
theorem Ctx.m_number (C : Ctx K mg) : Meth K (He.ga K "Table") "number" (He.fAd K dT_number.at_) := He.meth_ok (C.says.fact 56)
theorem Ctx.m_first_above (C : Ctx K mg) : Meth K (He.ga K "Table") "first_above" (He.fAd K dT_first_above.at_) := He.meth_ok (C.says.fact 57)
theorem Ctx.n_first (C : Ctx K mg) : NoAttr K (He.ga K "Table") "first" := He.noat_ok (C.says.fact 58)
theorem Ctx.n_word (C : Ctx K mg) : NoAttr K (He.ga K "Table") "word" := He.noat_ok (C.says.fact 59)
theorem Ctx.n_goal (C : Ctx K mg) : NoAttr K (He.ga K "Table") "goal" := He.noat_ok (C.says.fact 60)
theorem Ctx.n_counts (C : Ctx K mg) : NoAttr K (He.ga K "Table") "counts" := He.noat_ok (C.says.fact 61)
theorem Ctx.g_len (C : Ctx K mg) : mg "len" = none := C.free (C.says.fact 62)
theorem Ctx.g_all (C : Ctx K mg) : mg "all" = none := C.free (C.says.fact 63)
theorem Ctx.g_range (C : Ctx K mg) : mg "range" = none := C.free (C.says.fact 64)
theorem Ctx.g_tuple (C : Ctx K mg) : mg "tuple" = none := C.free (C.says.fact 65)
theorem Ctx.g_set (C : Ctx K mg) : mg "set" = none := C.free (C.says.fact 66)
theorem Ctx.g_enumerate (C : Ctx K mg) : mg "enumerate" = none := C.free (C.says.fact 67)
theorem Ctx.g_zip (C : Ctx K mg) : mg "zip" = none := C.free (C.says.fact 68)
theorem Ctx.g_isinstance (C : Ctx K mg) : mg "isinstance" = none := C.free (C.says.fact 69)
theorem Ctx.g_int (C : Ctx K mg) : mg "int" = none := C.free (C.says.fact 70)
theorem Ctx.g_bool (C : Ctx K mg) : mg "bool" = none := C.free (C.says.fact 71)
theorem Ctx.g_list (C : Ctx K mg) : mg "list" = none := C.free (C.says.fact 72)
theorem Ctx.g_dict (C : Ctx K mg) : mg "dict" = none := C.free (C.says.fact 73)
theorem Ctx.g_sorted (C : Ctx K mg) : mg "sorted" = none := C.free (C.says.fact 74)
theorem Ctx.g_reversed (C : Ctx K mg) : mg "reversed" = none := C.free (C.says.fact 75)
theorem Ctx.g_max (C : Ctx K mg) : mg "max" = none := C.free (C.says.fact 76)
theorem Ctx.g_str (C : Ctx K mg) : mg "str" = none := C.free (C.says.fact 77)
theorem Ctx.c_MOST_CARDS (C : Ctx K mg) : ∃ t, mg "MOST_CARDS" = some (.int 7 t) := C.int (C.says.fact 78)
theorem Ctx.c_MOST_DEEDS (C : Ctx K mg) : ∃ t, mg "MOST_DEEDS" = some (.int 200 t) := C.int (C.says.fact 79)
theorem Ctx.c_MOST_SHORT (C : Ctx K mg) : ∃ t, mg "MOST_SHORT" = some (.int 40 t) := C.int (C.says.fact 80)
theorem Ctx.c_MOST_LOTS (C : Ctx K mg) : ∃ t, mg "MOST_LOTS" = some (.int 3000 t) := C.int (C.says.fact 81)
theorem Ctx.f_is_integer (C : Ctx K mg) : ∃ fd, FunD K d_is_integer.name d_is_integer.qual d_is_integer.params d_is_integer.body d_is_integer.scope (d_is_integer.dvs K) [] (He.fAd K d_is_integer.at_) fd := C.says.def_ 0
theorem Ctx.f_is_from (C : Ctx K mg) : ∃ fd, FunD K d_is_from.name d_is_from.qual d_is_from.params d_is_from.body d_is_from.scope (d_is_from.dvs K) [] (He.fAd K d_is_from.at_) fd := C.says.def_ 1
theorem Ctx.f_need_cards (C : Ctx K mg) : ∃ fd, FunD K d_need_cards.name d_need_cards.qual d_need_cards.params d_need_cards.body d_need_cards.scope (d_need_cards.dvs K) [] (He.fAd K d_need_cards.at_) fd := C.says.def_ 2
theorem Ctx.f_is_row_of (C : Ctx K mg) : ∃ fd, FunD K d_is_row_of.name d_is_row_of.qual d_is_row_of.params d_is_row_of.body d_is_row_of.scope (d_is_row_of.dvs K) [] (He.fAd K d_is_row_of.at_) fd := C.says.def_ 3
theorem Ctx.f_need_word (C : Ctx K mg) : ∃ fd, FunD K d_need_word.name d_need_word.qual d_need_word.params d_need_word.body d_need_word.scope (d_need_word.dvs K) [] (He.fAd K d_need_word.at_) fd := C.says.def_ 4
theorem Ctx.f_is_lot_of (C : Ctx K mg) : ∃ fd, FunD K d_is_lot_of.name d_is_lot_of.qual d_is_lot_of.params d_is_lot_of.body d_is_lot_of.scope (d_is_lot_of.dvs K) [] (He.fAd K d_is_lot_of.at_) fd := C.says.def_ 5
theorem Ctx.f_need_lot (C : Ctx K mg) : ∃ fd, FunD K d_need_lot.name d_need_lot.qual d_need_lot.params d_need_lot.body d_need_lot.scope (d_need_lot.dvs K) [] (He.fAd K d_need_lot.at_) fd := C.says.def_ 6
theorem Ctx.f_turned_row (C : Ctx K mg) : ∃ fd, FunD K d_turned_row.name d_turned_row.qual d_turned_row.params d_turned_row.body d_turned_row.scope (d_turned_row.dvs K) [] (He.fAd K d_turned_row.at_) fd := C.says.def_ 7
theorem Ctx.f_exchanged (C : Ctx K mg) : ∃ fd, FunD K d_exchanged.name d_exchanged.qual d_exchanged.params d_exchanged.body d_exchanged.scope (d_exchanged.dvs K) [] (He.fAd K d_exchanged.at_) fd := C.says.def_ 8
theorem Ctx.f_done (C : Ctx K mg) : ∃ fd, FunD K d_done.name d_done.qual d_done.params d_done.body d_done.scope (d_done.dvs K) [] (He.fAd K d_done.at_) fd := C.says.def_ 9
theorem Ctx.f_run_left (C : Ctx K mg) : ∃ fd, FunD K d_run_left.name d_run_left.qual d_run_left.params d_run_left.body d_run_left.scope (d_run_left.dvs K) [] (He.fAd K d_run_left.at_) fd := C.says.def_ 10
theorem Ctx.f_counts_below (C : Ctx K mg) : ∃ fd, FunD K d_counts_below.name d_counts_below.qual d_counts_below.params d_counts_below.body d_counts_below.scope (d_counts_below.dvs K) [] (He.fAd K d_counts_below.at_) fd := C.says.def_ 11
theorem Ctx.f_lacks (C : Ctx K mg) : ∃ fd, FunD K d_lacks.name d_lacks.qual d_lacks.params d_lacks.body d_lacks.scope (d_lacks.dvs K) [] (He.fAd K d_lacks.at_) fd := C.says.def_ 12
theorem Ctx.f_need_goal (C : Ctx K mg) : ∃ fd, FunD K d_need_goal.name d_need_goal.qual d_need_goal.params d_need_goal.body d_need_goal.scope (d_need_goal.dvs K) [] (He.fAd K d_need_goal.at_) fd := C.says.def_ 13
theorem Ctx.f_need_short (C : Ctx K mg) : ∃ fd, FunD K d_need_short.name d_need_short.qual d_need_short.params d_need_short.body d_need_short.scope (d_need_short.dvs K) [] (He.fAd K d_need_short.at_) fd := C.says.def_ 14
theorem Ctx.f_need_case (C : Ctx K mg) : ∃ fd, FunD K d_need_case.name d_need_case.qual d_need_case.params d_need_case.body d_need_case.scope (d_need_case.dvs K) [] (He.fAd K d_need_case.at_) fd := C.says.def_ 15
theorem Ctx.f_harmless (C : Ctx K mg) : ∃ fd, FunD K d_harmless.name d_harmless.qual d_harmless.params d_harmless.body d_harmless.scope (d_harmless.dvs K) [] (He.fAd K d_harmless.at_) fd := C.says.def_ 16
theorem Ctx.f_is_within (C : Ctx K mg) : ∃ fd, FunD K d_is_within.name d_is_within.qual d_is_within.params d_is_within.body d_is_within.scope (d_is_within.dvs K) [] (He.fAd K d_is_within.at_) fd := C.says.def_ 17
theorem Ctx.f_table_of (C : Ctx K mg) : ∃ fd, FunD K d_table_of.name d_table_of.qual d_table_of.params d_table_of.body d_table_of.scope (d_table_of.dvs K) [] (He.fAd K d_table_of.at_) fd := C.says.def_ 18
theorem Ctx.f_need_few (C : Ctx K mg) : ∃ fd, FunD K d_need_few.name d_need_few.qual d_need_few.params d_need_few.body d_need_few.scope (d_need_few.dvs K) [] (He.fAd K d_need_few.at_) fd := C.says.def_ 19
theorem Ctx.f_need_greatest (C : Ctx K mg) : ∃ fd, FunD K d_need_greatest.name d_need_greatest.qual d_need_greatest.params d_need_greatest.body d_need_greatest.scope (d_need_greatest.dvs K) [] (He.fAd K d_need_greatest.at_) fd := C.says.def_ 20
theorem Ctx.f_need_harmless (C : Ctx K mg) : ∃ fd, FunD K d_need_harmless.name d_need_harmless.qual d_need_harmless.params d_need_harmless.body d_need_harmless.scope (d_need_harmless.dvs K) [] (He.fAd K d_need_harmless.at_) fd := C.says.def_ 21
theorem Ctx.f_pairs_met (C : Ctx K mg) : ∃ fd, FunD K d_pairs_met.name d_pairs_met.qual d_pairs_met.params d_pairs_met.body d_pairs_met.scope (d_pairs_met.dvs K) [] (He.fAd K d_pairs_met.at_) fd := C.says.def_ 22
theorem Ctx.f_partners (C : Ctx K mg) : ∃ fd, FunD K d_partners.name d_partners.qual d_partners.params d_partners.body d_partners.scope (d_partners.dvs K) [] (He.fAd K d_partners.at_) fd := C.says.def_ 23
theorem Ctx.f_rising (C : Ctx K mg) : ∃ fd, FunD K d_rising.name d_rising.qual d_rising.params d_rising.body d_rising.scope (d_rising.dvs K) [] (He.fAd K d_rising.at_) fd := C.says.def_ 24
theorem Ctx.f_fixed (C : Ctx K mg) : ∃ fd, FunD K d_fixed.name d_fixed.qual d_fixed.params d_fixed.body d_fixed.scope (d_fixed.dvs K) [] (He.fAd K d_fixed.at_) fd := C.says.def_ 25
theorem Ctx.f_stretch_of (C : Ctx K mg) : ∃ fd, FunD K d_stretch_of.name d_stretch_of.qual d_stretch_of.params d_stretch_of.body d_stretch_of.scope (d_stretch_of.dvs K) [] (He.fAd K d_stretch_of.at_) fd := C.says.def_ 26
theorem Ctx.f_above (C : Ctx K mg) : ∃ fd, FunD K d_above.name d_above.qual d_above.params d_above.body d_above.scope (d_above.dvs K) [] (He.fAd K d_above.at_) fd := C.says.def_ 27
theorem Ctx.f__law_taken (C : Ctx K mg) : ∃ fd, FunD K d__law_taken.name d__law_taken.qual d__law_taken.params d__law_taken.body d__law_taken.scope (d__law_taken.dvs K) [] (He.fAd K d__law_taken.at_) fd := C.says.def_ 28
theorem Ctx.f__law_pick (C : Ctx K mg) : ∃ fd, FunD K d__law_pick.name d__law_pick.qual d__law_pick.params d__law_pick.body d__law_pick.scope (d__law_pick.dvs K) [] (He.fAd K d__law_pick.at_) fd := C.says.def_ 29
theorem Ctx.f__law_alike (C : Ctx K mg) : ∃ fd, FunD K d__law_alike.name d__law_alike.qual d__law_alike.params d__law_alike.body d__law_alike.scope (d__law_alike.dvs K) [] (He.fAd K d__law_alike.at_) fd := C.says.def_ 30
theorem Ctx.f__law_row (C : Ctx K mg) : ∃ fd, FunD K d__law_row.name d__law_row.qual d__law_row.params d__law_row.body d__law_row.scope (d__law_row.dvs K) [] (He.fAd K d__law_row.at_) fd := C.says.def_ 31
theorem Ctx.f__law_word (C : Ctx K mg) : ∃ fd, FunD K d__law_word.name d__law_word.qual d__law_word.params d__law_word.body d__law_word.scope (d__law_word.dvs K) [] (He.fAd K d__law_word.at_) fd := C.says.def_ 32
theorem Ctx.f__law_lot (C : Ctx K mg) : ∃ fd, FunD K d__law_lot.name d__law_lot.qual d__law_lot.params d__law_lot.body d__law_lot.scope (d__law_lot.dvs K) [] (He.fAd K d__law_lot.at_) fd := C.says.def_ 33
theorem Ctx.f__law_turned (C : Ctx K mg) : ∃ fd, FunD K d__law_turned.name d__law_turned.qual d__law_turned.params d__law_turned.body d__law_turned.scope (d__law_turned.dvs K) [] (He.fAd K d__law_turned.at_) fd := C.says.def_ 34
theorem Ctx.f__law_swap (C : Ctx K mg) : ∃ fd, FunD K d__law_swap.name d__law_swap.qual d__law_swap.params d__law_swap.body d__law_swap.scope (d__law_swap.dvs K) [] (He.fAd K d__law_swap.at_) fd := C.says.def_ 35
theorem Ctx.f__law_run (C : Ctx K mg) : ∃ fd, FunD K d__law_run.name d__law_run.qual d__law_run.params d__law_run.body d__law_run.scope (d__law_run.dvs K) [] (He.fAd K d__law_run.at_) fd := C.says.def_ 36
theorem Ctx.f__law_end (C : Ctx K mg) : ∃ fd, FunD K d__law_end.name d__law_end.qual d__law_end.params d__law_end.body d__law_end.scope (d__law_end.dvs K) [] (He.fAd K d__law_end.at_) fd := C.says.def_ 37
theorem Ctx.f__law_far (C : Ctx K mg) : ∃ fd, FunD K d__law_far.name d__law_far.qual d__law_far.params d__law_far.body d__law_far.scope (d__law_far.dvs K) [] (He.fAd K d__law_far.at_) fd := C.says.def_ 38
theorem Ctx.f__law_subsets (C : Ctx K mg) : ∃ fd, FunD K d__law_subsets.name d__law_subsets.qual d__law_subsets.params d__law_subsets.body d__law_subsets.scope (d__law_subsets.dvs K) [] (He.fAd K d__law_subsets.at_) fd := C.says.def_ 39
theorem Ctx.f__law_fine (C : Ctx K mg) : ∃ fd, FunD K d__law_fine.name d__law_fine.qual d__law_fine.params d__law_fine.body d__law_fine.scope (d__law_fine.dvs K) [] (He.fAd K d__law_fine.at_) fd := C.says.def_ 40
theorem Ctx.f__law_greatest (C : Ctx K mg) : ∃ fd, FunD K d__law_greatest.name d__law_greatest.qual d__law_greatest.params d__law_greatest.body d__law_greatest.scope (d__law_greatest.dvs K) [] (He.fAd K d__law_greatest.at_) fd := C.says.def_ 41
theorem Ctx.f__law_goal (C : Ctx K mg) : ∃ fd, FunD K d__law_goal.name d__law_goal.qual d__law_goal.params d__law_goal.body d__law_goal.scope (d__law_goal.dvs K) [] (He.fAd K d__law_goal.at_) fd := C.says.def_ 42
theorem Ctx.f__law_case (C : Ctx K mg) : ∃ fd, FunD K d__law_case.name d__law_case.qual d__law_case.params d__law_case.body d__law_case.scope (d__law_case.dvs K) [] (He.fAd K d__law_case.at_) fd := C.says.def_ 43
theorem Ctx.f__law_sorter (C : Ctx K mg) : ∃ fd, FunD K d__law_sorter.name d__law_sorter.qual d__law_sorter.params d__law_sorter.body d__law_sorter.scope (d__law_sorter.dvs K) [] (He.fAd K d__law_sorter.at_) fd := C.says.def_ 44
theorem Ctx.f__law_partner (C : Ctx K mg) : ∃ fd, FunD K d__law_partner.name d__law_partner.qual d__law_partner.params d__law_partner.body d__law_partner.scope (d__law_partner.dvs K) [] (He.fAd K d__law_partner.at_) fd := C.says.def_ 45
theorem Ctx.f_law (C : Ctx K mg) : ∃ fd, FunD K d_law.name d_law.qual d_law.params d_law.body d_law.scope (d_law.dvs K) [] (He.fAd K d_law.at_) fd := C.says.def_ 46
theorem Ctx.fT___init__ (C : Ctx K mg) : ∃ fd, FunD K dT___init__.name dT___init__.qual dT___init__.params dT___init__.body dT___init__.scope (dT___init__.dvs K) [] (He.fAd K dT___init__.at_) fd := C.says.def_ 47
theorem Ctx.fT_total (C : Ctx K mg) : ∃ fd, FunD K dT_total.name dT_total.qual dT_total.params dT_total.body dT_total.scope (dT_total.dvs K) [] (He.fAd K dT_total.at_) fd := C.says.def_ 48
theorem Ctx.fT_left (C : Ctx K mg) : ∃ fd, FunD K dT_left.name dT_left.qual dT_left.params dT_left.body dT_left.scope (dT_left.dvs K) [] (He.fAd K dT_left.at_) fd := C.says.def_ 49
theorem Ctx.fT_working (C : Ctx K mg) : ∃ fd, FunD K dT_working.name dT_working.qual dT_working.params dT_working.body dT_working.scope (dT_working.dvs K) [] (He.fAd K dT_working.at_) fd := C.says.def_ 50
theorem Ctx.fT_ways_working (C : Ctx K mg) : ∃ fd, FunD K dT_ways_working.name dT_ways_working.qual dT_ways_working.params dT_ways_working.body dT_ways_working.scope (dT_ways_working.dvs K) [] (He.fAd K dT_ways_working.at_) fd := C.says.def_ 51
theorem Ctx.fT_lots (C : Ctx K mg) : ∃ fd, FunD K dT_lots.name dT_lots.qual dT_lots.params dT_lots.body dT_lots.scope (dT_lots.dvs K) [] (He.fAd K dT_lots.at_) fd := C.says.def_ 52
theorem Ctx.fT_at (C : Ctx K mg) : ∃ fd, FunD K dT_at.name dT_at.qual dT_at.params dT_at.body dT_at.scope (dT_at.dvs K) [] (He.fAd K dT_at.at_) fd := C.says.def_ 53
theorem Ctx.fT_number (C : Ctx K mg) : ∃ fd, FunD K dT_number.name dT_number.qual dT_number.params dT_number.body dT_number.scope (dT_number.dvs K) [] (He.fAd K dT_number.at_) fd := C.says.def_ 54
theorem Ctx.fT_first_above (C : Ctx K mg) : ∃ fd, FunD K dT_first_above.name dT_first_above.qual dT_first_above.params dT_first_above.body dT_first_above.scope (dT_first_above.dvs K) [] (He.fAd K dT_first_above.at_) fd := C.says.def_ 55
end
abbrev N_is_integer : List Str := ["value"]
abbrev P_is_integer : List Str := ["value"]
theorem sc_is_integer : FnScope N_is_integer P_is_integer (defScope s_is_integer) := ⟨rfl, rfl, rfl, by decide +kernel, rfl, by decide +kernel, by decide +kernel⟩
abbrev N_is_from : List Str := ["value", "low", "high"]
abbrev P_is_from : List Str := ["value", "low", "high"]
theorem sc_is_from : FnScope N_is_from P_is_from (defScope s_is_from) := ⟨rfl, rfl, rfl, by decide +kernel, rfl, by decide +kernel, by decide +kernel⟩
abbrev N_need_cards : List Str := ["n"]
abbrev P_need_cards : List Str := ["n"]
theorem sc_need_cards : FnScope N_need_cards P_need_cards (defScope s_need_cards) := ⟨rfl, rfl, rfl, by decide +kernel, rfl, by decide +kernel, by decide +kernel⟩
abbrev N_is_row_of : List Str := ["n", "value", "card"]
abbrev P_is_row_of : List Str := ["n", "value"]
theorem sc_is_row_of : FnScope N_is_row_of P_is_row_of (defScope s_is_row_of) := ⟨rfl, rfl, rfl, by decide +kernel, rfl, by decide +kernel, by decide +kernel⟩
abbrev N_need_word : List Str := ["n", "value", "most", "deed"]
abbrev P_need_word : List Str := ["n", "value", "most"]
theorem sc_need_word : FnScope N_need_word P_need_word (defScope s_need_word) := ⟨rfl, rfl, rfl, by decide +kernel, rfl, by decide +kernel, by decide +kernel⟩
abbrev N_is_lot_of : List Str := ["size", "value", "place", "one", "other"]
abbrev P_is_lot_of : List Str := ["size", "value"]
theorem sc_is_lot_of : FnScope N_is_lot_of P_is_lot_of (defScope s_is_lot_of) := ⟨rfl, rfl, rfl, by decide +kernel, rfl, by decide +kernel, by decide +kernel⟩
abbrev N_need_lot : List Str := ["word", "value"]
abbrev P_need_lot : List Str := ["word", "value"]
theorem sc_need_lot : FnScope N_need_lot P_need_lot (defScope s_need_lot) := ⟨rfl, rfl, rfl, by decide +kernel, rfl, by decide +kernel, by decide +kernel⟩
abbrev N_turned_row : List Str := ["n"]
abbrev P_turned_row : List Str := ["n"]
theorem sc_turned_row : FnScope N_turned_row P_turned_row (defScope s_turned_row) := ⟨rfl, rfl, rfl, by decide +kernel, rfl, by decide +kernel, by decide +kernel⟩
abbrev N_exchanged : List Str := ["row", "deed"]
abbrev P_exchanged : List Str := ["row", "deed"]
theorem sc_exchanged : FnScope N_exchanged P_exchanged (defScope s_exchanged) := ⟨rfl, rfl, rfl, by decide +kernel, rfl, by decide +kernel, by decide +kernel⟩
abbrev N_done : List Str := ["row", "deed"]
abbrev P_done : List Str := ["row", "deed"]
theorem sc_done : FnScope N_done P_done (defScope s_done) := ⟨rfl, rfl, rfl, by decide +kernel, rfl, by decide +kernel, by decide +kernel⟩
abbrev N_run_left : List Str := ["row", "word", "lot", "fails", "place", "deed"]
abbrev P_run_left : List Str := ["row", "word", "lot"]
theorem sc_run_left : FnScope N_run_left P_run_left (defScope s_run_left) := ⟨rfl, rfl, rfl, by decide +kernel, rfl, by decide +kernel, by decide +kernel⟩
abbrev N_counts_below : List Str := ["row", "first", "card", "bound"]
abbrev P_counts_below : List Str := ["row", "first"]
theorem sc_counts_below : FnScope N_counts_below P_counts_below (defScope s_counts_below) := ⟨rfl, rfl, rfl, by decide +kernel, rfl, by decide +kernel, by decide +kernel⟩
abbrev N_lacks : List Str := ["row", "other", "first", "one", "two", "bound"]
abbrev P_lacks : List Str := ["row", "other"]
theorem sc_lacks : FnScope N_lacks P_lacks (defScope s_lacks) := ⟨rfl, rfl, rfl, by decide +kernel, rfl, by decide +kernel, by decide +kernel⟩
abbrev N_need_goal : List Str := ["n", "value"]
abbrev P_need_goal : List Str := ["n", "value"]
theorem sc_need_goal : FnScope N_need_goal P_need_goal (defScope s_need_goal) := ⟨rfl, rfl, rfl, by decide +kernel, rfl, by decide +kernel, by decide +kernel⟩
abbrev N_need_short : List Str := ["n", "word"]
abbrev P_need_short : List Str := ["n", "word"]
theorem sc_need_short : FnScope N_need_short P_need_short (defScope s_need_short) := ⟨rfl, rfl, rfl, by decide +kernel, rfl, by decide +kernel, by decide +kernel⟩
abbrev N_need_case : List Str := ["n", "word", "goal"]
abbrev P_need_case : List Str := ["n", "word", "goal"]
theorem sc_need_case : FnScope N_need_case P_need_case (defScope s_need_case) := ⟨rfl, rfl, rfl, by decide +kernel, rfl, by decide +kernel, by decide +kernel⟩
abbrev N_harmless : List Str := ["n", "word", "goal", "lot"]
abbrev P_harmless : List Str := ["n", "word", "goal", "lot"]
theorem sc_harmless : FnScope N_harmless P_harmless (defScope s_harmless) := ⟨rfl, rfl, rfl, by decide +kernel, rfl, by decide +kernel, by decide +kernel⟩
abbrev N_is_within : List Str := ["one", "other", "place"]
abbrev P_is_within : List Str := ["one", "other"]
theorem sc_is_within : FnScope N_is_within P_is_within (defScope s_is_within) := ⟨rfl, rfl, rfl, by decide +kernel, rfl, by decide +kernel, by decide +kernel⟩
abbrev N_table_of : List Str := ["n", "word", "goal"]
abbrev P_table_of : List Str := ["n", "word", "goal"]
theorem sc_table_of : FnScope N_table_of P_table_of (defScope s_table_of) := ⟨rfl, rfl, rfl, by decide +kernel, rfl, by decide +kernel, by decide +kernel⟩
abbrev N_need_few : List Str := ["table", "most"]
abbrev P_need_few : List Str := ["table", "most"]
theorem sc_need_few : FnScope N_need_few P_need_few (defScope s_need_few) := ⟨rfl, rfl, rfl, by decide +kernel, rfl, by decide +kernel, by decide +kernel⟩
abbrev N_need_greatest : List Str := ["table", "word", "lot", "number"]
abbrev P_need_greatest : List Str := ["table", "word", "lot"]
theorem sc_need_greatest : FnScope N_need_greatest P_need_greatest (defScope s_need_greatest) := ⟨rfl, rfl, rfl, by decide +kernel, rfl, by decide +kernel, by decide +kernel⟩
abbrev N_need_harmless : List Str := ["n", "word", "goal", "lot"]
abbrev P_need_harmless : List Str := ["n", "word", "goal", "lot"]
theorem sc_need_harmless : FnScope N_need_harmless P_need_harmless (defScope s_need_harmless) := ⟨rfl, rfl, rfl, by decide +kernel, rfl, by decide +kernel, by decide +kernel⟩
abbrev N_pairs_met : List Str := ["n", "word", "lot", "fails", "row", "found", "place", "deed"]
abbrev P_pairs_met : List Str := ["n", "word", "lot"]
theorem sc_pairs_met : FnScope N_pairs_met P_pairs_met (defScope s_pairs_met) := ⟨rfl, rfl, rfl, by decide +kernel, rfl, by decide +kernel, by decide +kernel⟩
abbrev N_partners : List Str := ["n", "word", "lot", "fails", "met", "passes", "place", "pair"]
abbrev P_partners : List Str := ["n", "word", "lot"]
theorem sc_partners : FnScope N_partners P_partners (defScope s_partners) := ⟨rfl, rfl, rfl, by decide +kernel, rfl, by decide +kernel, by decide +kernel⟩
abbrev N_rising : List Str := ["n", "word", "lot", "told", "place"]
abbrev P_rising : List Str := ["n", "word", "lot"]
theorem sc_rising : FnScope N_rising P_rising (defScope s_rising) := ⟨rfl, rfl, rfl, by decide +kernel, rfl, by decide +kernel, by decide +kernel⟩
abbrev N_fixed : List Str := ["n", "word", "goal", "lot"]
abbrev P_fixed : List Str := ["n", "word", "goal", "lot"]
theorem sc_fixed : FnScope N_fixed P_fixed (defScope s_fixed) := ⟨rfl, rfl, rfl, by decide +kernel, rfl, by decide +kernel, by decide +kernel⟩
abbrev N_stretch_of : List Str := ["n", "word", "goal", "lot", "table"]
abbrev P_stretch_of : List Str := ["n", "word", "goal", "lot"]
theorem sc_stretch_of : FnScope N_stretch_of P_stretch_of (defScope s_stretch_of) := ⟨rfl, rfl, rfl, by decide +kernel, rfl, by decide +kernel, by decide +kernel⟩
abbrev N_above : List Str := ["n", "word", "goal", "lot", "table", "one"]
abbrev P_above : List Str := ["n", "word", "goal", "lot"]
theorem sc_above : FnScope N_above P_above (defScope s_above) := ⟨rfl, rfl, rfl, by decide +kernel, rfl, by decide +kernel, by decide +kernel⟩
abbrev N__law_taken : List Str := ["_law_row_here", "_law_many", "_law_found", "_law_cell"]
abbrev P__law_taken : List Str := ["_law_row_here", "_law_many"]
theorem sc__law_taken : FnScope N__law_taken P__law_taken (defScope s__law_taken) := ⟨rfl, rfl, rfl, by decide +kernel, rfl, by decide +kernel, by decide +kernel⟩
abbrev N__law_pick : List Str := ["_law_row_here", "_law_things"]
abbrev P__law_pick : List Str := ["_law_row_here", "_law_things"]
theorem sc__law_pick : FnScope N__law_pick P__law_pick (defScope s__law_pick) := ⟨rfl, rfl, rfl, by decide +kernel, rfl, by decide +kernel, by decide +kernel⟩
abbrev N__law_alike : List Str := ["_law_found", "_law_due", "_law_k", "_law_key"]
abbrev P__law_alike : List Str := ["_law_found", "_law_due"]
theorem sc__law_alike : FnScope N__law_alike P__law_alike (defScope s__law_alike) := ⟨rfl, rfl, rfl, by decide +kernel, rfl, by decide +kernel, by decide +kernel⟩
abbrev N__law_row : List Str := ["_law_row_here", "_law_n", "_law_left", "_law_found", "_law_turn"]
abbrev P__law_row : List Str := ["_law_row_here", "_law_n"]
theorem sc__law_row : FnScope N__law_row P__law_row (defScope s__law_row) := ⟨rfl, rfl, rfl, by decide +kernel, rfl, by decide +kernel, by decide +kernel⟩
abbrev N__law_word : List Str := ["_law_row_here", "_law_n", "_law_most", "_law_turn"]
abbrev P__law_word : List Str := ["_law_row_here", "_law_n", "_law_most"]
theorem sc__law_word : FnScope N__law_word P__law_word (defScope s__law_word) := ⟨rfl, rfl, rfl, by decide +kernel, rfl, by decide +kernel, by decide +kernel⟩
abbrev N__law_lot : List Str := ["_law_row_here", "_law_size", "_law_way", "_law_place"]
abbrev P__law_lot : List Str := ["_law_row_here", "_law_size"]
theorem sc__law_lot : FnScope N__law_lot P__law_lot (defScope s__law_lot) := ⟨rfl, rfl, rfl, by decide +kernel, rfl, by decide +kernel, by decide +kernel⟩
abbrev N__law_turned : List Str := ["_law_n", "_law_card"]
abbrev P__law_turned : List Str := ["_law_n"]
theorem sc__law_turned : FnScope N__law_turned P__law_turned (defScope s__law_turned) := ⟨rfl, rfl, rfl, by decide +kernel, rfl, by decide +kernel, by decide +kernel⟩
abbrev N__law_swap : List Str := ["_law_cards", "_law_deed"]
abbrev P__law_swap : List Str := ["_law_cards", "_law_deed"]
theorem sc__law_swap : FnScope N__law_swap P__law_swap (defScope s__law_swap) := ⟨rfl, rfl, rfl, by decide +kernel, rfl, by decide +kernel, by decide +kernel⟩
abbrev N__law_run : List Str := ["_law_cards", "_law_word_here", "_law_lot_here", "_law_place", "_law_deed"]
abbrev P__law_run : List Str := ["_law_cards", "_law_word_here", "_law_lot_here"]
theorem sc__law_run : FnScope N__law_run P__law_run (defScope s__law_run) := ⟨rfl, rfl, rfl, by decide +kernel, rfl, by decide +kernel, by decide +kernel⟩
abbrev N__law_end : List Str := ["_law_word_here", "_law_lot_here", "_law_n"]
abbrev P__law_end : List Str := ["_law_word_here", "_law_lot_here", "_law_n"]
theorem sc__law_end : FnScope N__law_end P__law_end (defScope s__law_end) := ⟨rfl, rfl, rfl, by decide +kernel, rfl, by decide +kernel, by decide +kernel⟩
abbrev N__law_far : List Str := ["_law_one", "_law_other", "_law_first", "_law_bound", "_law_card"]
abbrev P__law_far : List Str := ["_law_one", "_law_other"]
theorem sc__law_far : FnScope N__law_far P__law_far (defScope s__law_far) := ⟨rfl, rfl, rfl, by decide +kernel, rfl, by decide +kernel, by decide +kernel⟩
abbrev N__law_subsets : List Str := ["_law_size", "_law_found", "_law_place", "_law_lot_here"]
abbrev P__law_subsets : List Str := ["_law_size"]
theorem sc__law_subsets : FnScope N__law_subsets P__law_subsets (defScope s__law_subsets) := ⟨rfl, rfl, rfl, by decide +kernel, rfl, by decide +kernel, by decide +kernel⟩
abbrev N__law_fine : List Str := ["_law_n", "_law_word_here", "_law_goal_here", "_law_lot_here"]
abbrev P__law_fine : List Str := ["_law_n", "_law_word_here", "_law_goal_here", "_law_lot_here"]
theorem sc__law_fine : FnScope N__law_fine P__law_fine (defScope s__law_fine) := ⟨rfl, rfl, rfl, by decide +kernel, rfl, by decide +kernel, by decide +kernel⟩
abbrev N__law_greatest : List Str := ["_law_n", "_law_word_here", "_law_goal_here", "_law_lots", "_law_lot_here", "_law_most", "_law_found"]
abbrev P__law_greatest : List Str := ["_law_n", "_law_word_here", "_law_goal_here"]
theorem sc__law_greatest : FnScope N__law_greatest P__law_greatest (defScope s__law_greatest) := ⟨rfl, rfl, rfl, by decide +kernel, rfl, by decide +kernel, by decide +kernel⟩
abbrev N__law_goal : List Str := ["_law_row_here", "_law_n", "_law_word_here", "_law_way"]
abbrev P__law_goal : List Str := ["_law_row_here", "_law_n", "_law_word_here"]
theorem sc__law_goal : FnScope N__law_goal P__law_goal (defScope s__law_goal) := ⟨rfl, rfl, rfl, by decide +kernel, rfl, by decide +kernel, by decide +kernel⟩
abbrev N__law_case : List Str := ["_law_row_here", "_law_most_cards", "_law_most", "_law_n", "_law_size", "_law_word_here"]
abbrev P__law_case : List Str := ["_law_row_here", "_law_most_cards", "_law_most"]
theorem sc__law_case : FnScope N__law_case P__law_case (defScope s__law_case) := ⟨rfl, rfl, rfl, by decide +kernel, rfl, by decide +kernel, by decide +kernel⟩
abbrev N__law_sorter : List Str := ["_law_n", "_law_found", "_law_turn"]
abbrev P__law_sorter : List Str := ["_law_n"]
theorem sc__law_sorter : FnScope N__law_sorter P__law_sorter (defScope s__law_sorter) := ⟨rfl, rfl, rfl, by decide +kernel, rfl, by decide +kernel, by decide +kernel⟩
abbrev N__law_partner : List Str := ["_law_lots", "_law_lot_here", "_law_place", "_law_kept", "_law_own", "_law_others", "_law_one"]
abbrev P__law_partner : List Str := ["_law_lots", "_law_lot_here", "_law_place"]
theorem sc__law_partner : FnScope N__law_partner P__law_partner (defScope s__law_partner) := ⟨rfl, rfl, rfl, by decide +kernel, rfl, by decide +kernel, by decide +kernel⟩
abbrev N_law : List Str := ["_law_script", "_law_row_here", "_law_n", "_law_word_here", "_law_goal_here", "_law_lots", "_law_held", "_law_at", "_law_lot_here", "_law_told", "_law_place", "_law_due", "_law_one", "_law_fine_here", "_law_near", "_law_parts", "_law_turn"]
abbrev P_law : List Str := ["_law_script"]
theorem sc_law : FnScope N_law P_law (defScope s_law) := ⟨rfl, rfl, rfl, by decide +kernel, rfl, by decide +kernel, by decide +kernel⟩
abbrev NT___init__ : List Str := ["self", "n", "word", "goal", "deed", "behind", "here", "row", "other"]
abbrev PT___init__ : List Str := ["self", "n", "word", "goal"]
theorem scT___init__ : FnScope NT___init__ PT___init__ (defScope sT___init__) := ⟨rfl, rfl, rfl, by decide +kernel, rfl, by decide +kernel, by decide +kernel⟩
abbrev NT_total : List Str := ["self"]
abbrev PT_total : List Str := ["self"]
theorem scT_total : FnScope NT_total PT_total (defScope sT_total) := ⟨rfl, rfl, rfl, by decide +kernel, rfl, by decide +kernel, by decide +kernel⟩
abbrev NT_left : List Str := ["self", "place", "row"]
abbrev PT_left : List Str := ["self", "place", "row"]
theorem scT_left : FnScope NT_left PT_left (defScope sT_left) := ⟨rfl, rfl, rfl, by decide +kernel, rfl, by decide +kernel, by decide +kernel⟩
abbrev NT_working : List Str := ["self", "place", "row", "deed"]
abbrev PT_working : List Str := ["self", "place", "row"]
theorem scT_working : FnScope NT_working PT_working (defScope sT_working) := ⟨rfl, rfl, rfl, by decide +kernel, rfl, by decide +kernel, by decide +kernel⟩
abbrev NT_ways_working : List Str := ["self", "place", "row", "other"]
abbrev PT_ways_working : List Str := ["self", "place", "row"]
theorem scT_ways_working : FnScope NT_ways_working PT_ways_working (defScope sT_ways_working) := ⟨rfl, rfl, rfl, by decide +kernel, rfl, by decide +kernel, by decide +kernel⟩
abbrev NT_lots : List Str := ["self", "found", "heads", "place", "row", "lot"]
abbrev PT_lots : List Str := ["self"]
theorem scT_lots : FnScope NT_lots PT_lots (defScope sT_lots) := ⟨rfl, rfl, rfl, by decide +kernel, rfl, by decide +kernel, by decide +kernel⟩
abbrev NT_number : List Str := ["self", "lot", "fails", "row", "found", "place"]
abbrev PT_number : List Str := ["self", "lot"]
theorem scT_number : FnScope NT_number PT_number (defScope sT_number) := ⟨rfl, rfl, rfl, by decide +kernel, rfl, by decide +kernel, by decide +kernel⟩
abbrev NT_first_above : List Str := ["self", "lot", "fails", "reach", "place", "here", "deed", "row", "found", "other"]
abbrev PT_first_above : List Str := ["self", "lot"]
theorem scT_first_above : FnScope NT_first_above PT_first_above (defScope sT_first_above) := ⟨rfl, rfl, rfl, by decide +kernel, rfl, by decide +kernel, by decide +kernel⟩
end Wk
set_option Elab.async false
set_option linter.all false
set_option maxRecDepth 100000
set_option maxHeartbeats 2000000
namespace Wk
open PySem PySem.Spec PyProof.Rows L2 Evl
/-- a def of the module, called by its name -/
structure Ok (P : Program) (w : World) (K : PySem.W.Frag) (mg : Str → Option Value) (base : Heap) (k : Nat) (x : Str) (f : Addr) (ps : List Str) (dvs : List V) (sp : Sp) : Prop where
  glob : mg x = some (.ref f)
  ex : ∃ fd ds, FnOk P w K mg base CX0 k f fd ps sp ∧ Binds K fd ps ds ∧ Vals dvs ds ∧ PySem.W.keepIn K (.ref f) = true
theorem pcall {X : Cx} {k : Nat} {x : Str} {f : Addr} {ps : List Str} {dvs : List V} {sp : Sp} {e : Expr} {es : List Expr} {t : TA} {p pos : Pos} (O : Ok X.prog X.w X.K X.mg X.base k x f ps dvs sp) (hr : Room k X.A) (ha : PA X (e :: es) t)
    (hg : Gl X x := by rfl) (hdb : (x == ("__debug__" : Str)) = false := by decide) (he : starEach (e :: es) X.env = (false, eval e X.env) :: starEach es X.env := by rfl) (hpl : (backTo pos (starEach es X.env)).any (·.1) = false := by rfl) :
    PE X (.Call (.Name x p) (e :: es) [] pos) (tCall sp dvs E0 t) := by
  obtain ⟨fd, ds, F, hb, hd, hk⟩ := O.ex
  exact pe_call F hr hg O.glob hk hb hd pass0 ha hdb he hpl
section
variable {P : Program} {w : World} {K : PySem.W.Frag} {mg : Str → Option Value} {base : Heap} {d : He.DefD} {N ps : List Str} {k : Nat} {x : Str} {f : Addr} {D : Type} {pre : D → Prop} {As : D → List Rel} {R : D → Rel}
theorem fnPm {name qual : Str} {params : Arguments} {body : List Stmt} {scope : Scope} {dvs : List V} {kws : List (Str × V)} {fd : FuncData} (F : FunD K name qual params body scope dvs kws f fd) (S : FnScope N ps scope) (hl : ∀ d, (As d).length = ps.length)
    (hbody : ∀ (cdv : Value) (A : Around) (outer : List Env) (s : Shared) (H : Hp) (vs : List V) (Q : VK) (E : XK), Room k (A.deeper (envOfC qual scope s.heap.objs.size f cdv)) → ∀ d, pre d → Rels (As d) vs H → (∀ v H', Ex H H' → (R d).h v H' → Q v H') →
      ∃ t, PSs (cxOf CX0 P w K mg base N qual scope f cdv A outer s H E).nox body t ∧ t { nx := fun _ H' => Q .non H', rt := Q } (start N vs) H) : FnOk P w K mg base CX0 (k + 1) f fd ps (Pm pre As R) := by
  refine F.ok S (fun vs H Q E ⟨d, _, h, _⟩ => by rw [← rels_len h, hl]) fun cdv A outer s H vs Q E hr ⟨d, hp, ha, hk⟩ => ?_
  obtain ⟨t, h, q⟩ := hbody cdv A outer s H vs Q E hr d hp ha hk
  exact ⟨t, PSs.nox h, q⟩
theorem mkPm (hx : mg x = some (.ref (He.fAd K d.at_))) (F : ∃ fd, FunD K d.name d.qual d.params d.body d.scope [] [] (He.fAd K d.at_) fd) (S : FnScope N ps d.scope)
    (hb : ∀ (kV doc pm : Value) (an : Option Addr) (cdv ct : Value) (us : List Value), us.length = ps.length → bindArgs (PySem.W.fnOf d.name d.qual d.params d.body d.scope .none kV doc pm an cdv ct) ⟨us, []⟩ = pure (ps.zip us)) (hl : ∀ d, (As d).length = ps.length)
    (hbody : ∀ (cdv : Value) (A : Around) (outer : List Env) (s : Shared) (H : Hp) (vs : List V) (Q : VK) (E : XK), Room k (A.deeper (envOfC d.qual d.scope s.heap.objs.size (He.fAd K d.at_) cdv)) → ∀ a, pre a → Rels (As a) vs H → (∀ v H', Ex H H' → (R a).h v H' → Q v H') →
      ∃ t, PSs (cxOf CX0 P w K mg base N d.qual d.scope (He.fAd K d.at_) cdv A outer s H E).nox d.body t ∧ t { nx := fun _ H' => Q .non H', rt := Q } (start N vs) H) : Ok P w K mg base (k + 1) x (He.fAd K d.at_) ps [] (Pm pre As R) := by
  obtain ⟨fd, F⟩ := F
  exact ⟨hx, fd, [], fnPm F S hl hbody, F.bindsN hb, .nil, F.kp⟩
end
section
variable {K : PySem.W.Frag} {H H1 : Hp} {σ : L2.St} {ta tb te : TE} {A B R : Rel}
/-! ### isinstance -/
theorem cl_isi {x c : V} {t u : Value} {b : Bool} (k : ClsV c u) (ty : TyX K H x t) (h : PySem.W.kitOne K t u = some b) : Cl (rIsi K) [x, c] H (bb b) := fun Q q => ⟨x, c, t, u, b, rfl, k, ty, h, q _ H (Ex.refl H) rfl⟩
theorem rels2 {A B : Rel} {vs : List V} (h : Rels [A, B] vs H) : ∃ a b, vs = [a, b] ∧ A.h a H ∧ B.h b H := by
  match vs, h with
  | [a, b], ⟨h1, h2, _⟩ => exact ⟨a, b, rfl, h1, h2⟩
theorem rels1 {A : Rel} {vs : List V} (h : Rels [A] vs H) : ∃ a, vs = [a] ∧ A.h a H := by
  match vs, h with
  | [a], ⟨h1, _⟩ => exact ⟨a, rfl, h1⟩
theorem rels3 {A B C : Rel} {vs : List V} (h : Rels [A, B, C] vs H) : ∃ a b c, vs = [a, b, c] ∧ A.h a H ∧ B.h b H ∧ C.h c H := by
  match vs, h with
  | [a, b, c], ⟨h1, h2, h3, _⟩ => exact ⟨a, b, c, rfl, h1, h2, h3⟩
theorem rels4 {A B C D : Rel} {vs : List V} (h : Rels [A, B, C, D] vs H) : ∃ a b c d, vs = [a, b, c, d] ∧ A.h a H ∧ B.h b H ∧ C.h c H ∧ D.h d H := by
  match vs, h with
  | [a, b, c, d], ⟨h1, h2, h3, h4, _⟩ => exact ⟨a, b, c, d, rfl, h1, h2, h3, h4⟩
theorem ev_isi {T : String} {t : Value} {b : Bool} (ha : EvR ta σ H R) (hR : ∀ v H1, R.h v H1 → TyX K H1 v t) (h : PySem.W.kitOne K t (.type T) = some b) : EvR (tCB (rIsi K) (tCons ta (tCons (tC (.ty T)) tNil))) σ H (bb b) :=
  ev_cb (es_cons ha (es1 ev_k)) fun vs H1 e hv => by
    obtain ⟨x, c, rfl, hx, hc⟩ := rels2 hv
    have hc : c = .ty T := hc
    subst hc
    exact cl_isi (.ty T) (hR x H1 hx) h
/-! ### tuples: items, slices, sums -/
theorem ev_catT {xs ys : List V} (ha : EvR ta σ H (tupV xs)) (hb : EvR tb σ H (tupV ys)) (hl : xs.length + ys.length ≤ 100000) : EvR (tOp (rCatA K) ta tb) σ H (tupV (xs ++ ys)) :=
  ev_o ha hb fun x y H1 _ ⟨a, hx, h1⟩ ⟨b, hy, h2⟩ Q q => ⟨a, b, xs, ys, hx, hy, SqT.of h1, SqT.of h2, sz_of hl, fun e => q _ H1 (Ex.refl H1) ⟨b, rfl, by rw [e]; exact h2⟩, fun _ e => q _ H1 (Ex.refl H1) ⟨a, rfl, by rw [e, List.append_nil]; exact h1⟩,
    fun _ _ p hp => q _ _ (Ex.new hp) ⟨p, rfl, upd_same⟩⟩
def EvO (to : TO) (σ : L2.St) (H : Hp) (o : Option Int) : Prop := Evl.EvO to σ H o
theorem eo_n : EvO tNoPart σ H none := Evl.eo_none
theorem eo_s {i : Int} (h : EvR te σ H (ii i)) : EvO (tPart te) σ H (some i) := Evl.eo_some (ev_evr h)
theorem ev_slT {xs : List V} {tl th : TO} {lo hi : Option Int} (ha : EvR ta σ H (tupV xs)) (h1 : EvO tl σ H lo) (h2 : EvO th σ H hi) : EvR (tSl (rSlA K) ta tl th) σ H (tupV (cutV xs lo hi)) := fun H0 e Q q =>
  ha H0 e _ fun x H1 e1 ⟨a, hx, hh⟩ => h1 H1 (e.trans e1) _ fun H2 e2 => h2 H2 ((e.trans e1).trans e2) _ fun H3 e3 => by
    have hh3 := e3 _ _ (e2 _ _ hh)
    refine ⟨a, xs, hx, SqT.of hh3, fun z => q _ H3 ((e1.trans e2).trans e3) ⟨a, rfl, ?_⟩, fun _ p hp => q _ _ (((e1.trans e2).trans e3).trans (Ex.new hp)) ⟨p, rfl, upd_same⟩⟩
    have : cutV xs lo hi = xs := by
      unfold cutV
      rw [z.1, z.2]; simp
    rw [this]; exact hh3
end
end Wk
set_option Elab.async false
set_option linter.all false
set_option maxRecDepth 100000
set_option maxHeartbeats 2000000
namespace Wk
open PySem PySem.Spec PyProof.Rows L2 Evl
/-! ### tuple(range(i, j, c)) -/
section
variable {X : Cx}
def rg3 (i c : Int) (n : Nat) : List V := (List.range n).map fun k => V.int (i + (k : Nat) * c)
def tTupRg3 (ta : TA) : TE := fun σ H Q => ta σ H fun vs H1 => ∃ (i j c : Int) (n : Nat), vs = [.int i, .int j, .int c] ∧ RgC i j c n ∧ n ≤ 1000 ∧ ∀ q, H1 q = none → Q (.ref q) (upd H1 q (.tup (rg3 i c n)))
theorem vals_rg3 {i c : Int} {n : Nat} {acc : Array Value} (h : ItemsOf (fun k v => ∃ t, v = .int (i + k * c) t) acc n) : Vals (rg3 i c n) acc.toList := by
  have e : acc.toList.length = n := by rw [Array.length_toList]; exact h.1
  unfold rg3
  rw [← e]
  refine vals_of_get acc.toList _ fun j u hj => ?_
  obtain ⟨t, rfl⟩ := h.2 j u (by rw [← hj, Array.getElem?_toList])
  exact ⟨t, rfl⟩
theorem pe_tupRg3 {a b c : Expr} {ta : TA} {p pos p2 pos2 : Pos} (hc : X.calm = true) (hg : Gl X "tuple") (hm : X.mg "tuple" = none) (hg2 : Gl X "range") (hm2 : X.mg "range" = none) (ha : PA X [a, b, c] ta)
    (hs : starEach [a, b, c] X.env = (false, eval a X.env) :: starEach [b, c] X.env := by rfl) (hpl : (backTo pos2 (starEach [b, c] X.env)).any (·.1) = false := by rfl)
    (na : starEach [.Call (.Name "range" p2) [a, b, c] [] pos2] X.env = (false, eval (.Call (.Name "range" p2) [a, b, c] [] pos2) X.env) :: starEach [] X.env := by rfl) :
    PE X (.Call (.Name "tuple" p) [.Call (.Name "range" p2) [a, b, c] [] pos2] [] pos) (tTupRg3 ta) := by
  refine ⟨fun pins s σ H Q I h => ?_⟩
  refine Call_ (ld_blt I hg hm boot_tuple (PyProof.Rows.callWith_type1 (args_cons ?_ na) na rfl))
  refine Call_ (ld_blt I hg2 hm2 boot_range (PyProof.Rows.callWith_type1 (thn (ha.run pos2 pins s σ H _ I h) fun us s1 ⟨vs, H1, I1, r1, q1⟩ => ?_) hs hpl))
  obtain ⟨i, j, k, n, e, ⟨c0, c1, c2, c3⟩, hn, q⟩ := q1
  subst e
  cases r1 with
  | cons r rr =>
    cases rr with
    | cons r' rr =>
      cases rr with
      | cons r'' rr =>
        cases rr
        obtain ⟨t, rfl⟩ := r
        obtain ⟨t', rfl⟩ := r'
        obtain ⟨t'', rfl⟩ := r''
        refine call_range_3 c0 ?_ (.inl (PyProof.noPylong_small c1))
        refine args_nil ?_
        have I2 : Inv X pins σ H1 { s1 with heap := s1.heap.push { cls := .type "range", data := .fields #[.int i t, .int j t', .int k t''] } } := I1.kept (t' := s1.toks) fun b o e => Heap.get?_push_of_some _ e
        refine call_tuple_range (n := n) (I1.ok.hd hc) (IsRange.new ..) c2 c3 (by omega) fun h' tk acc hk hi => ?_
        have I3 : Inv X pins σ H1 { s1 with heap := h', toks := tk } := I2.kept (t' := tk) hk
        refine ⟨.ref h'.objs.size, upd H1 h'.objs.size (.tup (rg3 i k n)), I3.laid (t' := tk) (fun c o e => Heap.get?_push_of_some _ e) (Nat.le_refl _) (show ObjOk X.prog X.w _ _ _ (.tup (rg3 i k n)) from ⟨?_, acc.toList, vals_rg3 hi, ?_⟩), rfl, q _ (I3.hok.fresh (Nat.le_refl _))⟩
        · unfold rg3; rw [List.length_map, List.length_range, sizeLine_eq]; omega
        · rw [Array.toArray_toList]; exact IsTup.new _ _
/-! ### set(t), t a tuple of ints -/
def rSetT (K : PySem.W.Frag) (w : World) : List V → Hp → VK → Prop := fun xs H Q => ∃ (l : Addr) (ns : List Int), xs = [.ref l] ∧ SqT K H l (ns.map V.int) ∧ ns.length ≤ 1000 ∧ ∀ p c, H p = none → Q (.ref p) (upd H p (SetO w p (fun j => decide (j ∈ ns)) c))
theorem cr_setT (hc : X.calm = true) : CallR X (.type "set") (rSetT X.K X.w) := by
  intro pins s σ H xs us Q I r h
  obtain ⟨l, ns, rfl, hq, hl, q⟩ := h
  obtain rfl := Vals.ref1 r
  obtain ⟨its, rv, pt, hz⟩ := I.tuple hq
  refine call_set_tupI ns (I.ok.hd hc) (show s.heap.IsTuple l its.toArray from pt) (ints_of_vals rv) (by unfold scanBound; omega) fun h' tk c R1 hcn k => ?_
  exact ⟨.ref _, upd H s.heap.objs.size (SetO X.w s.heap.objs.size (fun j => decide (j ∈ ns)) c), I.laid (t' := tk) k (Nat.le_refl _) (setO_new R1), rfl, q _ _ (I.hok.fresh (Nat.le_refl _))⟩
/-- len(set(t)), no item twice -/
def tLenSetT (K : PySem.W.Frag) (ta : TE) : TE := fun σ H Q => ta σ H fun x H1 => ∃ (l : Addr) (ns : List Int), x = .ref l ∧ SqT K H1 l (ns.map V.int) ∧ ns.Nodup ∧ ns.length ≤ 1000 ∧ Q (.int (ns.length : Nat)) H1
theorem nodup_len {l1 l2 : List Int} (h1 : l1.Nodup) (h2 : l2.Nodup) (h : ∀ k, k ∈ l1 ↔ k ∈ l2) : l1.length = l2.length :=
  ((List.perm_ext_iff_of_nodup h1 h2).mpr h).length_eq
theorem pe_lenSetT {a : Expr} {ta : TE} {p p2 q pos : Pos} (hc : X.calm = true) (hg : Gl X "len") (hm : X.mg "len" = none) (hg2 : Gl X "set") (hm2 : X.mg "set" = none) (ha : PE X a ta)
    (na : starEach [a] X.env = (false, eval a X.env) :: starEach [] X.env := by rfl) : PE X (.Call (.Name "len" p) [.Call (.Name "set" p2) [a] [] q] [] pos) (tLenSetT X.K ta) := by
  refine ⟨fun pins s σ H Q I h => ?_⟩
  refine Call_ (ld_blt I hg hm boot_len ?_)
  refine PyProof.Rows.callWith_builtin1 (PyProof.Rows.args_cons ?_ rfl) rfl rfl
  refine Call_ (ld_blt I hg2 hm2 boot_set ?_)
  refine PyProof.Rows.callWith_type1 (PyProof.Rows.args_cons (thn (ha.run pins s σ H _ I h) fun v s1 ⟨x, H1, I1, r1, q1⟩ => PyProof.Rows.args_nil ?_) na) na rfl
  obtain ⟨l, ns, rfl, hq, hnd, hl, q1⟩ := q1
  cases r1
  obtain ⟨its, rv, pt, hz⟩ := I1.tuple hq
  refine call_set_tupI ns (I1.ok.hd hc) (show s1.heap.IsTuple l its.toArray from pt) (ints_of_vals rv) (by unfold scanBound; omega) fun h' tk c R1 hcn k => ?_
  refine PyProof.Rows.args_nil ?_
  obtain ⟨o, es, ep, t, ho, hex, hd, g, nd, hm2, hb, hf, hn, hr, hl2⟩ := R1
  have I2 : Inv X pins σ H1 { s1 with heap := h', toks := tk } := I1.kept k
  have e : es.size = ns.length := by
    have := nodup_len nd hnd fun j => by rw [← decide_eq_true_eq (p := j ∈ ns)]; exact (hm2 j).symm
    rw [← this, List.length_map, Array.length_toList]
  exact call_len_set ho hex hd hf (by omega) ⟨.int ns.length, H1, I2.tok _, ⟨_, by rw [e]⟩, q1⟩
end
end Wk
set_option Elab.async false
set_option linter.all false
set_option maxRecDepth 100000
set_option maxHeartbeats 2000000
namespace Wk
open PySem PySem.Spec PyProof.Rows L2 Evl
/-! ### enumerate(t), t a tuple -/
set_option maxHeartbeats 4000000 in
theorem meets_enumerate_newT {v : Value} {o : Obj} {H : Heap → Prop} (B : Begins v o H) :
    Meets (Builtin.«enumerate.__new__» ⟨[.type "enumerate", v], []⟩) (fun _ R s => H s.heap ∧
      R (.ok (.ret (.ref (s.heap.push o).objs.size))) { s with heap := (s.heap.push o).push { cls := .type "enumerate", data := .fields #[.none, .bool false, .ref s.heap.objs.size, rawInt 0, .none, .none] } }) :=
  .of_wp fun prog w A R s h => by
    obtain ⟨hp, g, d, tk, os⟩ := s; obtain ⟨h1, h⟩ := h
    have hsub := sub_enumerate
    have q1 : ∀ {A' : Around} {E : Value → Shared → Prop} {Q : Value → Shared → Prop}, Q (.ref hp.objs.size) ⟨hp.push o, g, d, tk, os⟩ → wpAny (model prog w) A' (pyIter v) Q E ⟨hp, g, d, tk, os⟩ :=
      fun q => B.iter prog w _ _ ⟨hp, g, d, tk, os⟩ _ h1 q
    wp_walk using q1
    refine wpAny_stack_any fun st => wpAny_pure ?_
    split
    · rename_i c _ _ _ _ _
      cases (c == Value.type "enumerate")
      · wp_walk using q1
        exact ⟨_, rfl, h⟩
      · wp_walk using q1
        exact ⟨_, rfl, h⟩
    · wp_walk using q1
      exact ⟨_, rfl, h⟩
section
variable {prog : Program} {w : World} {A : Around} {E : Value → Shared → Prop} {s : Shared}
theorem enum_beginsT {v : Value} {o : Obj} {H : Heap → Prop} {Q : Value → Shared → Prop} (B : Begins v o H) (h1 : H s.heap)
    (h : ∀ h', IsEnum h' (s.heap.objs.size + 1) s.heap.objs.size 0 .none → h'.get? s.heap.objs.size = some o → h'.objs.size = s.heap.objs.size + 2 →
      (∀ b o, s.heap.get? b = some o → h'.get? b = some o) → Q (.ref (s.heap.objs.size + 1)) { s with heap := h' }) :
    wpAny (model prog w) A (call (.type "enumerate") [v]) Q E s := by
  refine callType_new F.called_enumerate (by decide) (F.typeCall_enumerate_1 _) (F.newCall_enumerate_1 _) (fun obj => F.args_object_init_2 obj _) F.entry_enumerate_new
    (meets_enumerate_newT B) ⟨h1, ?_⟩
  have hz : (s.heap.push o).objs.size = s.heap.objs.size + 1 := Heap.size_push ..
  show _ ∧ _
  rw [hz]
  have he : IsEnum ((s.heap.push o).push { cls := .type "enumerate", data := .fields #[.none, .bool false, .ref s.heap.objs.size, rawInt 0, .none, .none] }) (s.heap.objs.size + 1) s.heap.objs.size 0 .none := by
    have := Heap.get?_push_size (s.heap.push o) (o := { cls := .type "enumerate", data := .fields #[.none, .bool false, .ref s.heap.objs.size, rawInt 0, .none, .none] }) rfl
    rw [hz] at this; exact this
  refine ⟨⟨_, he, rfl⟩, h _ he (Heap.get?_push_of_some _ (Heap.get?_push_size _ B.free)) (by rw [Heap.size_push, hz]) fun b o x => Heap.get?_push_of_some _ (Heap.get?_push_of_some _ x)⟩
end
def IteT (K : PySem.W.Frag) (a : Addr) : It :=
  ⟨fun i H => ∃ (xs : List V) (x : V), SqT K H a xs ∧ xs[i]? = some x, fun i H v H' => ∃ T x, v = .ref T ∧ H T = none ∧ H' = upd H T (.tup [.int (i : Nat), x]) ∧ ∀ xs, SqT K H a xs → xs[i]? = some x, fun i H => ∃ xs : List V, SqT K H a xs ∧ xs.length = i⟩
theorem turn_enumT {P : Program} {w : World} {K : PySem.W.Frag} {elts : List Expr} {kk : Nat} {tpos : Pos} (a e it : Addr) :
    Turn P w K (.Tuple elts kk tpos) (IteT K a) [e, it] e (fun i h => (∃ old, IsEnum h e it ((i : Nat) : Int) old) ∧ h.IsTupleIter it a i ∧ e ≠ it ∧ a ≠ it ∧ a ≠ e) where
  mem := by simp
  obj := fun i h st b hb => by
    obtain ⟨⟨old, he⟩, ⟨o, ho, hc, hd⟩, _⟩ := st
    have e' : b = e ∨ b = it := by simpa using hb
    rcases e' with z | z
    · rw [z]; exact ⟨_, he, fun v q => nomatch q⟩
    · rw [z]; exact ⟨o, ho, fun v q => by rw [hd] at q; cases q⟩
  keep := fun i h h' st k => let ⟨⟨old, he⟩, hi, hne⟩ := st; ⟨⟨old, k e (by simp) _ he⟩, hi.at fun o q => k it (by simp) o q, hne⟩
  item := by
    intro X hP hw hK hc i pins s σ H E I hf st hg
    subst hP hw hK
    obtain ⟨⟨old, he⟩, hit, hne, hat, hae⟩ := st
    obtain ⟨xs, x, hq, hx⟩ := hg
    obtain ⟨its, rv, p, hz⟩ := I.tuple hq
    have hil : i < its.toArray.size := by
      have h1 := (List.getElem?_eq_some_iff.mp hx).1
      rw [List.size_toArray, ← rv.length]; exact h1
    have hel : e < s.heap.objs.size := Heap.lt_size he
    have hitl : it < s.heap.objs.size := by obtain ⟨_, q, _⟩ := hit; exact Heap.lt_size q
    have D := Draws.tuple (prog := X.prog) (w := X.w) (A := X.A.in1) (I.ok.hd hc) it a hat its.toArray
    refine wpAny_pyNext_enum_itemD D he ⟨hit, (show s.heap.IsTuple a its.toArray from p)⟩ hil hne (by simp; exact ⟨hne, Ne.symm hae⟩) fun u h' tk hu ho hst' hT hsz hk => ?_
    obtain ⟨u', hu', ru⟩ := rv.get hx
    have hu2 : u = u' := by
      have hu : its.toArray[i]? = some u := hu
      rw [List.getElem?_toArray, hu'] at hu
      exact (Option.some.inj hu).symm
    subst hu2
    obtain ⟨hit', _⟩ := hst'
    refine ⟨_, rfl, wpAny_letOwnedTupleGo_enum (s := { s with heap := h', toks := tk + 1 }) ho fun h'' he' sb => ?_⟩
    have hT2 : h''.get? s.heap.objs.size = some { cls := .type "tuple", data := .seq #[.int i tk, u] } := (sb.2 _ (Nat.ne_of_gt hel)).trans hT
    have new : ObjOk X.prog X.w (upd H s.heap.objs.size (.tup [.int (i : Nat), x])) h'' s.heap.objs.size (.tup [.int (i : Nat), x]) :=
      ⟨by show 2 ≤ sizeLine; decide, [.int i tk, u], .cons ⟨_, rfl⟩ (.cons ru .nil), ⟨_, hT2, rfl, _, rfl⟩⟩
    have I1 : Inv X pins σ (upd H s.heap.objs.size (.tup [.int (i : Nat), x])) { s with heap := h'', toks := tk + 1 } :=
      I.turnedNew (ch := [e, it]) (fun b ob hb q => (sb.2 b (fun z => hb (by simp [z]))).trans (hk b ob (fun z => hb (by simp [z])) (fun z => hb (by simp [z])) q)) hf (Nat.le_refl _) new
    refine ⟨.ref s.heap.objs.size, _, I1, rfl, ⟨_, x, rfl, I.hok.fresh (Nat.le_refl _), rfl, fun ys hy => by rw [I.tuple_inj hy hq]; exact hx⟩, ⟨⟨u, ?_⟩, hit'.at fun o q => (sb.2 it (Ne.symm hne)).trans q, hne, hat, hae⟩, fun b hb => ?_⟩
    · have e1 : ((i + 1 : Nat) : Int) = (i : Int) + 1 := by omega
      rw [e1]; exact he'
    · have hb' : b < s.heap.objs.size := by
        have e' : b = e ∨ b = it := by simpa using hb
        rcases e' with z | z
        · rw [z]; exact hel
        · rw [z]; exact hitl
      rw [upd_ne (Nat.ne_of_lt hb')]
      exact (hf b hb).1
  done := by
    intro X hP hw hK hc i pins s σ H E I hf st hg
    subst hP hw hK
    obtain ⟨⟨old, he⟩, hit, hne, hat, hae⟩ := st
    obtain ⟨xs, hq, hx⟩ := hg
    obtain ⟨its, rv, p, hz⟩ := I.tuple hq
    obtain ⟨f0, f1, f2, f3, f4, f5⟩ := hf it (by simp)
    have hl := rv.length
    have hi : i = its.toArray.size := by rw [List.size_toArray]; omega
    subst hi
    have D := Draws.tuple (prog := X.prog) (w := X.w) (A := X.A.in1) (I.ok.hd hc) it a hat its.toArray
    exact wpAny_pyNext_enum_endD D he ⟨hit, (show s.heap.IsTuple a its.toArray from p)⟩ fun h' eb => ⟨rfl, I.turned (t' := s.toks) (fun b o hb q => eb b o hb q) f0 f1 f3 f4 f5⟩
  self := fun A i s Q E st h => let ⟨⟨_, he⟩, _⟩ := st; wpAny_pyIter_enum he h
def iEnumT (K : PySem.W.Frag) (ta : TA) : TI := fun σ H R => ta σ H fun vs H1 => ∃ a xs, vs = [.ref a] ∧ SqT K H1 a xs ∧ R (IteT K a) H1
theorem pi_enumT {X : Cx} {e : Expr} {ta : TA} {p pos tpos : Pos} {elts : List Expr} {kk : Nat} (hg : Gl X "enumerate") (hm : X.mg "enumerate" = none) (ha : PA X [e] ta) (hs : starEach [e] X.env = [(false, eval e X.env)] := by rfl) :
    PI X (.Tuple elts kk tpos) (.Call (.Name "enumerate" p) [e] [] pos) (iEnumT X.K ta) := by
  refine ⟨fun pins s σ H R I h => ?_⟩
  refine Call_ (ld_blt I hg hm boot_enumerate (PyProof.Rows.callWith_type1 (thn (ha.run pos pins s σ H _ I h) fun us s1 ⟨vs, H1, I1, r1, q1⟩ => ?_) hs rfl))
  obtain ⟨a, xs, ex, hq, q⟩ := q1
  subst ex
  cases r1 with
  | cons r rr =>
    cases rr
    cases r
    obtain ⟨its, rv, p', hz⟩ := I1.tuple hq
    have pt : s1.heap.IsTuple a its.toArray := p'
    have hal : a < s1.heap.objs.size := by obtain ⟨o, q, _⟩ := pt; exact Heap.lt_size q
    refine enum_beginsT (begins_tuple a its.toArray) pt fun h' he hit hsz hk => wpAny_pyIter_enum he ?_
    have I2 : Inv X pins σ H1 { s1 with heap := h' } := I1.kept (t' := s1.toks) hk
    refine ⟨s1.heap.objs.size + 1, [s1.heap.objs.size + 1, s1.heap.objs.size], _, _, H1, rfl, I2, turn_enumT a (s1.heap.objs.size + 1) s1.heap.objs.size, ⟨⟨.none, he⟩, ⟨_, hit, rfl, rfl⟩, Nat.succ_ne_self _, Nat.ne_of_lt hal, Nat.ne_of_lt (Nat.lt_succ_of_lt hal)⟩, fun b hb => ?_, q⟩
    have e' : b = s1.heap.objs.size + 1 ∨ b = s1.heap.objs.size := by simpa using hb
    have hle : s1.heap.objs.size ≤ b := by
      rcases e' with z | z
      · rw [z]; exact Nat.le_add_right _ _
      · rw [z]; exact Nat.le_refl _
    exact I1.fpOk hle (I1.hok.fresh hle)
theorem walk_enumT {K : PySem.W.Frag} {a : Addr} {xs : List V} : Walk (IteT K a) xs.length (fun H => SqT K H a xs) (YPair (fun i => some (.int (i : Nat))) (fun i => xs[i]?)) := by
  refine ⟨fun i _ hi q => ⟨xs, xs[i], q, by simp [hi]⟩, fun _ q => ⟨xs, q, rfl⟩, fun i H v H' _ q y => ?_⟩
  obtain ⟨T, x, h1, h2, h3, h4⟩ := y
  exact ⟨T, .int (i : Nat), x, h1, h2, h3, rfl, h4 xs q⟩
/-! ### zip(t, l), a tuple and a list -/
def ItzM (K : PySem.W.Frag) (a b : Addr) : It :=
  ⟨fun i H => ∃ (xs ys : List V) (x y : V), SqT K H a xs ∧ SqL K H b ys ∧ xs[i]? = some x ∧ ys[i]? = some y,
    fun i H v H' => ∃ T x y, v = .ref T ∧ H T = none ∧ H' = upd H T (.tup [x, y]) ∧ (∀ xs, SqT K H a xs → xs[i]? = some x) ∧ ∀ ys, SqL K H b ys → ys[i]? = some y,
    fun i H => ∃ xs ys : List V, SqT K H a xs ∧ SqL K H b ys ∧ (xs.length = i ∧ ys.length = i)⟩
theorem turn_zipM {P : Program} {w : World} {K : PySem.W.Frag} {elts : List Expr} {kk : Nat} {tpos : Pos} {a b z TI TO i1 i2 : Addr} (D : ZipSep2 z TI TO i1 i2 [i1, a] [i2, b]) :
    Turn P w K (.Tuple elts kk tpos) (ItzM K a b) [z, TI, TO, i1, i2] z (fun i h => IsZip h z TI TO .none ∧ IsTupOf2 h TI (.ref i1) (.ref i2) ∧ (∃ x y, IsTupOf2 h TO x y) ∧ h.IsTupleIter i1 a i ∧ h.IsListIter i2 b i) where
  mem := by simp
  obj := fun i h st c hc => by
    obtain ⟨hz, hTI, ⟨x, y, hTO⟩, ⟨o1, e1, _, d1⟩, ⟨o2, e2, _, d2⟩⟩ := st
    have e' : c = z ∨ c = TI ∨ c = TO ∨ c = i1 ∨ c = i2 := by simpa using hc
    rcases e' with q | q | q | q | q
    · rw [q]; exact ⟨_, hz, fun v q => nomatch q⟩
    · rw [q]; exact ⟨_, hTI, fun v q => nomatch q⟩
    · rw [q]; exact ⟨_, hTO, fun v q => nomatch q⟩
    · rw [q]; exact ⟨o1, e1, fun v q => by rw [d1] at q; cases q⟩
    · rw [q]; exact ⟨o2, e2, fun v q => by rw [d2] at q; cases q⟩
  keep := fun i h h' st k => by
    obtain ⟨hz, hTI, ⟨x, y, hTO⟩, h1, h2⟩ := st
    exact ⟨k z (by simp) _ hz, k TI (by simp) _ hTI, ⟨x, y, k TO (by simp) _ hTO⟩, h1.at fun o q => k i1 (by simp) o q, h2.at fun o q => k i2 (by simp) o q⟩
  item := by
    intro X hP hw hK hc i pins s σ H E I hf st hg
    subst hP hw hK
    obtain ⟨hz, hTI, ⟨x0, y0, hTO⟩, h1, h2⟩ := st
    obtain ⟨xs, ys, x, y, hqx, hqy, hx, hy⟩ := hg
    obtain ⟨its, rv, p, _⟩ := I.tuple hqx
    obtain ⟨its2, rv2, p2, _⟩ := I.list hqy
    obtain ⟨u, hu, ru⟩ := rv.get hx
    obtain ⟨u2, hu2, ru2⟩ := rv2.get hy
    have hzl : z < s.heap.objs.size := Heap.lt_size hz
    have n1 : a ≠ i1 := fun e => D.sep2_1 (by
      exfalso
      obtain ⟨o, q, hc2, _⟩ := h1
      obtain ⟨o', q', hc', _⟩ := (show s.heap.IsTuple a its.toArray from p)
      rw [e, q] at q'
      cases q'
      rw [hc2] at hc'
      exact absurd (Value.type.inj hc') (by decide))
    have n2 : b ≠ i2 := fun e => by
      obtain ⟨o, q, hc2, _⟩ := h2
      obtain ⟨o', q', hc', _⟩ := p2.isList
      rw [e, q] at q'
      cases q'
      rw [hc2] at hc'
      exact absurd (Value.type.inj hc') (by decide)
    have D1 := Draws.tuple (prog := X.prog) (w := X.w) (A := X.A.in1) (I.ok.hd hc) i1 a n1 its.toArray
    have D2 := Draws.list (prog := X.prog) (w := X.w) (A := X.A.in1) (I.ok.hd hc) i2 b n2 its2.toArray
    have l1 : i < its.toArray.size := by rw [List.size_toArray]; exact (List.getElem?_eq_some_iff.mp hu).1
    have l2 : i < its2.toArray.size := by rw [List.size_toArray]; exact (List.getElem?_eq_some_iff.mp hu2).1
    refine wpAny_pyNext_zipD2_item D D1 D2 hz hTI hTO ⟨h1, p⟩ ⟨h2, p2.isList⟩ l1 l2 fun w1 w2 h' tk hw1 hw2 z' TO' h1' h2' hT hsz hk => ?_
    have hw1 : w1 = u := by
      have hw1 : its.toArray[i]? = some w1 := hw1
      rw [List.getElem?_toArray, hu] at hw1
      exact (Option.some.inj hw1).symm
    have hw2 : w2 = u2 := by
      have hw2 : its2.toArray[i]? = some w2 := hw2
      rw [List.getElem?_toArray, hu2] at hw2
      exact (Option.some.inj hw2).symm
    subst hw1 hw2
    refine ⟨_, rfl, wpAny_letOwnedTupleGo_zip (s := { s with heap := h', toks := tk }) z' fun h'' z'' sb => ?_⟩
    have hT2 : h''.get? s.heap.objs.size = some { cls := .type "tuple", data := .seq #[w1, w2] } := (sb.2 _ (Nat.ne_of_gt hzl)).trans hT
    have new : ObjOk X.prog X.w (upd H s.heap.objs.size (.tup [x, y])) h'' s.heap.objs.size (.tup [x, y]) :=
      ⟨by show 2 ≤ sizeLine; decide, [w1, w2], .cons ru (.cons ru2 .nil), ⟨_, hT2, rfl, _, rfl⟩⟩
    have I1 : Inv X pins σ (upd H s.heap.objs.size (.tup [x, y])) { s with heap := h'', toks := tk } :=
      I.turnedNew (t' := tk) (ch := [z, TI, TO, i1, i2]) (fun c o hb q => (sb.2 c (fun q' => hb (by simp [q']))).trans (hk c o (fun q' => hb (by simp [q'])) (fun q' => hb (by simp [q'])) (fun q' => hb (by simp [q'])) (fun q' => hb (by simp [q'])) q)) hf (Nat.le_refl _) new
    refine ⟨.ref s.heap.objs.size, _, I1, rfl, ⟨_, x, y, rfl, I.hok.fresh (Nat.le_refl _), rfl, fun l hl => by rw [I.tuple_inj hl hqx]; exact hx, fun l hl => by rw [I.list_inj hl hqy]; exact hy⟩, ⟨z'', ?_, ⟨w1, w2, ?_⟩, ?_, ?_⟩, fun c hcm => ?_⟩
    · exact (sb.2 _ D.TIz).trans (hk _ _ D.TIz D.TITO D.TIi1 D.TIi2 hTI)
    · exact (sb.2 _ D.TOz).trans TO'
    · exact h1'.1.at fun o q => (sb.2 _ (Ne.symm D.zi1)).trans q
    · exact h2'.1.at fun o q => (sb.2 _ (Ne.symm D.zi2)).trans q
    · have hlt : c < s.heap.objs.size := by
        have e' : c = z ∨ c = TI ∨ c = TO ∨ c = i1 ∨ c = i2 := by simpa using hcm
        rcases e' with q | q | q | q | q
        · rw [q]; exact hzl
        · rw [q]; exact Heap.lt_size hTI
        · rw [q]; exact Heap.lt_size hTO
        · rw [q]; obtain ⟨_, e1, _⟩ := h1; exact Heap.lt_size e1
        · rw [q]; obtain ⟨_, e2, _⟩ := h2; exact Heap.lt_size e2
      rw [upd_ne (Nat.ne_of_lt hlt)]
      exact (hf c hcm).1
  done := by
    intro X hP hw hK hc i pins s σ H E I hf st hg
    subst hP hw hK
    obtain ⟨hz, hTI, ⟨x0, y0, hTO⟩, h1, h2⟩ := st
    obtain ⟨xs, ys, hqx, hqy, e1, e2⟩ := hg
    obtain ⟨its, rv, p, _⟩ := I.tuple hqx
    obtain ⟨its2, rv2, p2, _⟩ := I.list hqy
    have l1 := rv.length
    have l2 := rv2.length
    have n1 : a ≠ i1 := fun e => by
      obtain ⟨o, q, hc2, _⟩ := h1
      obtain ⟨o', q', hc', _⟩ := (show s.heap.IsTuple a its.toArray from p)
      rw [e, q] at q'
      cases q'
      rw [hc2] at hc'
      exact absurd (Value.type.inj hc') (by decide)
    have n2 : b ≠ i2 := fun e => by
      obtain ⟨o, q, hc2, _⟩ := h2
      obtain ⟨o', q', hc', _⟩ := p2.isList
      rw [e, q] at q'
      cases q'
      rw [hc2] at hc'
      exact absurd (Value.type.inj hc') (by decide)
    have D1 := Draws.tuple (prog := X.prog) (w := X.w) (A := X.A.in1) (I.ok.hd hc) i1 a n1 its.toArray
    have D2 := Draws.list (prog := X.prog) (w := X.w) (A := X.A.in1) (I.ok.hd hc) i2 b n2 its2.toArray
    have s1 : i = its.toArray.size := by rw [List.size_toArray]; omega
    have s2 : i = its2.toArray.size := by rw [List.size_toArray]; omega
    exact wpAny_pyNext_zipD2_end D D1 D2 hz hTI hTO ⟨h1, p⟩ ⟨h2, p2.isList⟩ (by omega) (by omega) (.inl s1) fun h' tk hk => ⟨rfl, I.turnedL (t' := tk) (ch := [z, TI, TO, i1, i2]) (fun c o hb q =>
      hk c o (fun q' => hb (by simp [q'])) (fun q' => hb (by simp [q'])) (fun q' => hb (by simp [q'])) (fun q' => hb (by simp [q'])) q) hf⟩
  self := fun A i s Q E st h => wpAny_pyIter_zip st.1 h
def iZipM (K : PySem.W.Frag) (ta : TA) : TI := fun σ H R => ta σ H fun vs H1 => ∃ a b xs ys, vs = [.ref a, .ref b] ∧ SqT K H1 a xs ∧ SqL K H1 b ys ∧ R (ItzM K a b) H1
theorem pi_zipTL {X : Cx} {e e2 : Expr} {ta : TA} {p pos tpos : Pos} {elts : List Expr} {kk : Nat} (hg : Gl X "zip") (hm : X.mg "zip" = none) (ha : PA X [e, e2] ta)
    (hs : starEach [e, e2] X.env = (false, eval e X.env) :: starEach [e2] X.env := by rfl) (hpl : (backTo pos (starEach [e2] X.env)).any (·.1) = false := by rfl) :
    PI X (.Tuple elts kk tpos) (.Call (.Name "zip" p) [e, e2] [] pos) (iZipM X.K ta) := by
  refine ⟨fun pins s σ H R I h => ?_⟩
  refine Call_ (ld_blt I hg hm PyProof.Rows.boot_zip (PyProof.Rows.callWith_type1 (thn (ha.run pos pins s σ H _ I h) fun us s1 ⟨vs, H1, I1, r1, q1⟩ => ?_) hs hpl))
  obtain ⟨a, b, xs, ys, ex, hqx, hqy, q⟩ := q1
  subst ex
  cases r1 with
  | cons r rr =>
    cases rr with
    | cons r' rr =>
      cases rr
      cases r
      cases r'
      obtain ⟨its, rv, p', hz⟩ := I1.tuple hqx
      obtain ⟨its2, rv2, p2, _⟩ := I1.list hqy
      have pt : s1.heap.IsTuple a its.toArray := p'
      have hal : a < s1.heap.objs.size := by obtain ⟨o, q, _⟩ := pt; exact Heap.lt_size q
      have hbl : b < s1.heap.objs.size := by obtain ⟨o, q, _⟩ := p2.isList; exact Heap.lt_size q
      refine zip_begins2 (begins_tuple a its.toArray) (begins_list b its2.toArray) pt p2.isList fun h' hz' hTI hTO g1 g2 hsz hk => wpAny_pyIter_zip hz' ?_
      have I2 : Inv X pins σ H1 { s1 with heap := h' } := I1.kept (t' := s1.toks) hk
      have S := zip_sep2 (N := s1.heap.objs.size) (fp1 := [a]) (fp2 := [b]) (by simpa using hal) (by simpa using hbl)
      refine ⟨s1.heap.objs.size + 4, [s1.heap.objs.size + 4, s1.heap.objs.size + 2, s1.heap.objs.size + 3, s1.heap.objs.size, s1.heap.objs.size + 1], _, _, H1, rfl, I2, turn_zipM S, ⟨hz', hTI, ⟨_, _, hTO⟩, ⟨_, g1, rfl, rfl⟩, ⟨_, g2, rfl, rfl⟩⟩, fun c hc => ?_, q⟩
      have hle : s1.heap.objs.size ≤ c := by
        have e' : c = s1.heap.objs.size + 4 ∨ c = s1.heap.objs.size + 2 ∨ c = s1.heap.objs.size + 3 ∨ c = s1.heap.objs.size ∨ c = s1.heap.objs.size + 1 := by simpa using hc
        rcases e' with z | z | z | z | z <;> rw [z] <;> first | exact Nat.le_add_right _ _ | exact Nat.le_refl _
      exact I1.fpOk hle (I1.hok.fresh hle)
theorem walk_zipM {K : PySem.W.Frag} {a b : Addr} {xs ys : List V} (hn : xs.length = ys.length) : Walk (ItzM K a b) xs.length (fun H => SqT K H a xs ∧ SqL K H b ys) (YPair (fun i => xs[i]?) (fun i => ys[i]?)) := by
  refine ⟨fun i _ hi q => ⟨xs, ys, xs[i], ys[i]'(by omega), q.1, q.2, by simp [hi], by simp [hn ▸ hi]⟩, fun _ q => ⟨xs, ys, q.1, q.2, rfl, hn.symm⟩, fun i H v H' _ q y => ?_⟩
  obtain ⟨T, x, z, h1, h2, h3, h4, h5⟩ := y
  exact ⟨T, x, z, h1, h2, h3, h4 xs q.1, h5 ys q.2⟩
end Wk
set_option Elab.async false
set_option linter.all false
set_option maxRecDepth 100000
set_option maxHeartbeats 2000000
namespace Wk
open PySem PySem.Spec PyProof.Rows L2 Evl
/-! ### the rules with the written part named: within a comprehension its context is a bound thing -/
section
variable {X : Cx} (K : PySem.W.Frag)
theorem kix_tup (h : X.K = K := by rfl) : IxR X (rIxT K) := h ▸ ix_tup
theorem kix_list (h : X.K = K := by rfl) : IxR X (rIxL K) := h ▸ ix_list
theorem ksl_tupA (h : X.K = K := by rfl) : SlR X (rSlA K) := h ▸ sl_tupA
theorem ksl_list (h : X.K = K := by rfl) : SlR X (rSlL K) := h ▸ sl_list
theorem kcatA (h : X.K = K := by rfl) : OpR X (binaryOp .Add) (rCatA K) := h ▸ op_catA
theorem kin_seq (h : X.K = K := by rfl) : OpR X (compareOp .In) (rIn K false) := h ▸ op_in_seq
theorem knotIn_seq (h : X.K = K := by rfl) : OpR X (compareOp .NotIn) (rIn K true) := h ▸ op_notIn_seq
theorem keqD (hu : X.A.units + 64 < cLine) (h : X.K = K := by rfl) : OpR X (compareOp .Eq) (rEqD K) := h ▸ op_eqD hu
theorem kneD (hu : X.A.units + 64 < cLine) (h : X.K = K := by rfl) : OpR X (compareOp .NotEq) (rNeD K) := h ▸ op_neD hu
/-- len of a tuple, of a list -/
def rLn (K : PySem.W.Frag) : List V → Hp → VK → Prop := fun xs H Q => ∃ p ys, xs = [.ref p] ∧ (SqL K H p ys ∨ SqT K H p ys) ∧ Q (.int ys.length) H
theorem kcall_len (h : X.K = K := by rfl) : CallR X (.builtin "len") (rLn K) := h ▸ call_len_seq
theorem kcr_all (hc : X.calm = true) (h : X.K = K := by rfl) : CallR X (.builtin "all") (rAll K) := h ▸ cr_all hc
theorem kcr_max (hc : X.calm = true) (h : X.K = K := by rfl) : CallR X (.builtin "max") (rMax K) := h ▸ cr_max hc
theorem kcall_isi (h : X.K = K := by rfl) : CallR X (.builtin "isinstance") (rIsi K) := h ▸ call_isi
theorem kcall_isiT (h : X.K = K := by rfl) : CallR X (.builtin "isinstance") (rIsiT K) := h ▸ call_isiT
theorem kcr_setT (w : World) (hc : X.calm = true) (h : X.K = K := by rfl) (h2 : X.w = w := by rfl) : CallR X (.type "set") (rSetT K w) := h ▸ h2 ▸ cr_setT hc
theorem kor_sin (w : World) (h2 : X.w = w := by rfl) : OpR X (compareOp .In) (rSIn w) := h2 ▸ or_sin
theorem kor_snotin (w : World) (h2 : X.w = w := by rfl) : OpR X (compareOp .NotIn) (rSNotIn w) := h2 ▸ or_snotin
def rTupOf (K : PySem.W.Frag) : List V → Hp → VK → Prop := fun xs H Q => ∃ p ys, xs = [.ref p] ∧ ((SqL K H p ys ∧ ∀ l, H l = none → Q (.ref l) (upd H l (.tup ys))) ∨ (SqT K H p ys ∧ Q (.ref p) H))
theorem kcall_tuple_of (h : X.K = K := by rfl) : CallR X (.type "tuple") (rTupOf K) := h ▸ call_tuple_of
def rListOf (K : PySem.W.Frag) : List V → Hp → VK → Prop := fun xs H Q => ∃ p ys, xs = [.ref p] ∧ (SqL K H p ys ∨ SqT K H p ys) ∧ ∀ l, H l = none → Q (.ref l) (upd H l (.lst ys))
theorem kcall_list_of (h : X.K = K := by rfl) : CallR X (.type "list") (rListOf K) := h ▸ call_list_of
theorem kmt_indexD (hu : X.A.units + 65 < cLine) (h : X.K = K := by rfl) : MtR X "list.index" (rIndexD K) := h ▸ mt_indexD hu
variable {tg l : Expr} {tl : TE}
theorem kpi_tup (hl : PE X l tl) (h : X.K = K := by rfl) : PI X tg l (iTup K tl) := h ▸ pi_tup hl
theorem kpi_list (hl : PE X l tl) (h : X.K = K := by rfl) : PI X tg l (iList K tl) := h ▸ pi_list hl
theorem kpi_rev {e : Expr} {te : TE} {p pos : Pos} (hg : Gl X "reversed") (hm : X.mg "reversed" = none) (he : PE X e te) (hs : starEach [e] X.env = (false, eval e X.env) :: starEach [] X.env := by rfl) (h : X.K = K := by rfl) : PI X tg (.Call (.Name "reversed" p) [e] [] pos) (RT.iRevA K te) := h ▸ RT.pi_revA hg hm he hs
variable {e e2 : Expr} {ta : TA} {p pos tpos : Pos} {elts : List Expr} {kk : Nat}
theorem kpi_enumT (hg : Gl X "enumerate") (hm : X.mg "enumerate" = none) (ha : PA X [e] ta) (hs : starEach [e] X.env = [(false, eval e X.env)] := by rfl) (h : X.K = K := by rfl) : PI X (.Tuple elts kk tpos) (.Call (.Name "enumerate" p) [e] [] pos) (iEnumT K ta) := h ▸ pi_enumT hg hm ha hs
theorem kpi_enum (hg : Gl X "enumerate") (hm : X.mg "enumerate" = none) (ha : PA X [e] ta) (hs : starEach [e] X.env = [(false, eval e X.env)] := by rfl) (h : X.K = K := by rfl) : PI X (.Tuple elts kk tpos) (.Call (.Name "enumerate" p) [e] [] pos) (iEnum K ta) := h ▸ pi_enum hg hm ha hs
theorem kpi_zipA (hg : Gl X "zip") (hm : X.mg "zip" = none) (ha : PA X [e, e2] ta)
    (hs : starEach [e, e2] X.env = (false, eval e X.env) :: starEach [e2] X.env := by rfl) (hpl : (backTo pos (starEach [e2] X.env)).any (·.1) = false := by rfl) (h : X.K = K := by rfl) :
    PI X (.Tuple elts kk tpos) (.Call (.Name "zip" p) [e, e2] [] pos) (RZ.iZipA K ta) := h ▸ RZ.pi_zipA hg hm ha hs hpl
theorem kpi_zipTL (hg : Gl X "zip") (hm : X.mg "zip" = none) (ha : PA X [e, e2] ta)
    (hs : starEach [e, e2] X.env = (false, eval e X.env) :: starEach [e2] X.env := by rfl) (hpl : (backTo pos (starEach [e2] X.env)).any (·.1) = false := by rfl) (h : X.K = K := by rfl) :
    PI X (.Tuple elts kk tpos) (.Call (.Name "zip" p) [e, e2] [] pos) (iZipM K ta) := h ▸ pi_zipTL hg hm ha hs hpl
theorem kpg_tup {es : List Expr} {k : Nat} {t : TGs} {n : Nat} (hc : X.calm = true) (h0 : PGs X es t)
    (hn : (assignEach es X.env).length = n := by rfl) (hst : (assignEach es X.env).findIdx? (·.1) = none := by rfl) (h : X.K = K := by rfl) : PG X (.Tuple es k pos) (gTup K n t) := h ▸ pg_tup hc h0 hn hst
theorem kpe_fld {f : Str} (he : PE X e tl) (hb : attributeBase e f X.env (eval e X.env) = eval e X.env) (h : X.K = K := by rfl) : PE X (.Attribute e f pos) (tFld K tl f) := h ▸ pe_fld he hb
variable {T : String} {name : Str} {id : String} {r : V → List V → Hp → VK → Prop} {o : Expr} {to : TE} {t : TA} {es : List Expr} {apos cpos : Pos}
theorem kpe_bm0 (pa : PlainAttrs T) (slot : Slot T name id) (hty : typeOf (.builtin id) = pure (.type "method_descriptor")) (hm : MtR X id r) (ho : PE X o to)
    (hbase : attributeBase o name X.env (eval o X.env) = eval o X.env := by rfl) (hline : (apos.endLine == cpos.line) = true := by rfl) (h : X.K = K := by rfl) : PE X (.Call (.Attribute o name apos) [] [] cpos) (tBM0 K T r to) := h ▸ pe_bm0 pa slot hty hm ho hbase hline
theorem kpe_bm (pa : PlainAttrs T) (slot : Slot T name id) (hty : typeOf (.builtin id) = pure (.type "method_descriptor")) (hm : MtR X id r) (ho : PE X o to) (ha : PA X (e :: es) t)
    (hbase : attributeBase o name X.env (eval o X.env) = eval o X.env := by rfl)
    (hfew : ((backTo cpos (starEach (e :: es) X.env)).all (fun x => !x.1) && (backToKw cpos (keywordEach [] X.env)).all (fun x => x.1.isSome)
      && decide ((e :: es).length + ([] : List Keyword).length + (if ([] : List Keyword).isEmpty then 0 else 1) < 30)) = true := by rfl)
    (hline : (apos.endLine == cpos.line) = true := by rfl) (hs : starEach (e :: es) X.env = (false, eval e X.env) :: starEach es X.env := by rfl) (hplain : (backTo cpos (starEach es X.env)).any (·.1) = false := by rfl) (h : X.K = K := by rfl) :
    PE X (.Call (.Attribute o name apos) (e :: es) [] cpos) (tBM K T r to t) := h ▸ pe_bm pa slot hty hm ho ha hbase hfew hline hs hplain
end
end Wk
set_option Elab.async false
set_option linter.all false
set_option maxRecDepth 100000
set_option maxHeartbeats 2000000
namespace Wk
open PySem PySem.Spec PyProof.Rows L2 Evl SSort
theorem cut_take {α : Type} (xs : List V) (k : Nat) : cutV xs none (some (k : Int)) = xs.take k := by
  unfold cutV
  rw [HT.sIx_none, HT.sIx_nat, Nat.sub_zero, List.drop_zero]
  by_cases h : k ≤ xs.length
  · rw [Nat.min_eq_left h]
  · rw [Nat.min_eq_right (by omega), List.take_of_length_le (Nat.le_refl _), List.take_of_length_le (by omega)]
theorem cut_drop (xs : List V) (k : Nat) : cutV xs (some (k : Int)) none = xs.drop k := by
  unfold cutV
  rw [HT.sIx_none, HT.sIx_nat]
  by_cases h : k ≤ xs.length
  · rw [Nat.min_eq_left h, List.take_of_length_le (by rw [List.length_drop]; omega)]
  · rw [Nat.min_eq_right (by omega), List.drop_eq_nil_of_le (by omega), List.drop_eq_nil_of_le (by omega)]; simp
theorem gd_at {x : List Int} {k : Nat} (h : k < x.length) : (x.map V.int)[k]? = some (V.int (gd x k)) := by
  rw [List.getElem?_map, List.getElem?_eq_getElem h]
  unfold gd
  rw [List.getD_eq_getElem?_getD, List.getElem?_eq_getElem h]; rfl
theorem atI_int {x : List Int} {k : Nat} (h : k < x.length) : atI (x.map V.int) (k : Int) = some (V.int (gd x k)) := atI_nat (gd_at h)
section
variable {K : PySem.W.Frag} {σ : L2.St} {H : Hp} {te ta tb : TE} {R : Rel}
theorem EvR.to {R' : Rel} (h : EvR te σ H R) (e : R = R') : EvR te σ H R' := e ▸ h
theorem ev_gd {x : List Int} {k : Nat} (ha : EvR ta σ H (ti x)) (hb : EvR tb σ H (nn k)) (h : k < x.length) : EvR (tOp (rIxT K) ta tb) σ H (ii (gd x k)) := ev_ixTV ha hb (atI_int h)
theorem ev_succ {k : Nat} (h : EvR ta σ H (nn k)) : EvR (tOp (rI0 fun i j => .int (i + j)) ta (tC (.int 1))) σ H (nn (k + 1)) := ev_I h ev_k
theorem ev_lenT {xs : List V} (h : EvR te σ H (tupV xs)) : EvR (tCB (rLn K) (tCons te tNil)) σ H (nn xs.length) := ev_cb (es1 h) fun vs H1 e hv Q q => by
  obtain ⟨a, rfl, p, rfl, hp⟩ := rels1 hv
  exact ⟨p, xs, rfl, .inr (SqT.of hp), q _ H1 (Ex.refl _) rfl⟩
theorem ev_lenTi {x : List Int} (h : EvR te σ H (ti x)) : EvR (tCB (rLn K) (tCons te tNil)) σ H (nn x.length) := (ev_lenT h).to (by rw [List.length_map])
theorem ev_lenTp {Rs : List Rel} (h : EvR te σ H (tp Rs)) : EvR (tCB (rLn K) (tCons te tNil)) σ H (nn Rs.length) := ev_cb (es1 h) fun vs H1 e hv Q q => by
  obtain ⟨a, rfl, p, ys, rfl, hp, hr⟩ := rels1 hv
  exact ⟨p, ys, rfl, .inr (SqT.of hp), q _ H1 (Ex.refl _) (by rw [rels_len hr]; rfl)⟩
theorem ev_lenL {Rs : List Rel} (h : EvR te σ H (ls Rs)) : EvR (tCB (rLn K) (tCons te tNil)) σ H (nn Rs.length) := ev_cb (es1 h) fun vs H1 e hv Q q => by
  obtain ⟨a, rfl, p, ys, rfl, hp, hr⟩ := rels1 hv
  exact ⟨p, ys, rfl, .inl (SqL.of hp), q _ H1 (Ex.refl _) (by rw [rels_len hr]; rfl)⟩
end
theorem ev_isiI {K : PySem.W.Frag} {σ : L2.St} {H : Hp} {ta : TE} {n : Int} {T : String} {b : Bool} (ha : EvR ta σ H (ii n)) (h : kitB "int" T = some b) : EvR (tCB (rIsi K) (tCons ta (tCons (tC (.ty T)) tNil))) σ H (bb b) :=
  ev_isi ha (fun v H1 h => by
    have h : v = .int n := h
    subst h
    exact .base (.int n)) (kit_ty h)
theorem rg3_turned (n : Nat) : rg3 ((n : Int) - 1) (-1) n = (turned n).map V.int := by
  unfold rg3 turned
  rw [List.map_map]
  refine List.map_congr_left fun k _ => ?_
  show V.int ((n : Int) - 1 + (k : Int) * -1) = V.int ((n : Int) - 1 - (k : Int))
  congr 1; omega
variable {P : Program} {w : World} {K : PySem.W.Frag} {mg : Str → Option Value} {base : Heap}
theorem ok_is_integer (C : Ctx K mg) : Ok P w K mg base 1 "is_integer" (He.fAd K d_is_integer.at_) P_is_integer [] (Pm (fun _ => True) (fun n : Int => [ii n]) (fun _ => bb true)) := by
  refine mkPm C.a_is_integer C.f_is_integer sc_is_integer (fun _ _ _ _ _ _ us hl => match us, hl with | [_], _ => rfl) (fun _ => rfl) fun cdv A outer s H vs Q E hr n _ hv hk => ?_
  obtain ⟨_, rfl, rfl⟩ := rels1 hv
  refine ⟨_, (pss_one (ps_ret (pe_and (pe_callB (kcall_isi K) (by rfl) C.g_isinstance (by decide +kernel) (pa_cons (pv 0) (pa_cons (pe_bltn (v := V.ty "int") (by rfl) C.g_int (by decide +kernel) rfl) pa_nil))) (pe_one (pe_not (pe_callB (kcall_isi K) (by rfl) C.g_isinstance (by decide +kernel) (pa_cons (pv 0) (pa_cons (pe_bltn (v := V.ty "bool") (by rfl) C.g_bool (by decide +kernel) rfl) pa_nil)))))))), ?_⟩
  refine s_ret (R := bb (true && !false)) (ev_andV (a := true) (b := !false) (ev_isiI (n := n) (ev_n rfl rfl) (by decide +kernel)) fun _ => ev_notV (ev_isiI (n := n) (ev_n rfl rfl) (by decide +kernel))) hk
theorem ok_is_from (C : Ctx K mg) : Ok P w K mg base 2 "is_from" (He.fAd K d_is_from.at_) P_is_from [] (Pm (fun _ => True) (fun d : Int × Int × Int => [ii d.1, ii d.2.1, ii d.2.2]) (fun d => bb (decide (d.2.1 ≤ d.1) && decide (d.1 ≤ d.2.2)))) := by
  have O_is_integer := ok_is_integer (P := P) (w := w) (base := base) C
  refine mkPm C.a_is_from C.f_is_from sc_is_from (fun _ _ _ _ _ _ us hl => match us, hl with | [_, _, _], _ => rfl) (fun _ => rfl) fun cdv A outer s H vs Q E hr ⟨n, lo, hi⟩ _ hv hk => ?_
  obtain ⟨_, _, _, rfl, rfl, rfl, rfl⟩ := rels3 hv
  refine ⟨_, (pss_one (ps_ret (pe_and (pcall O_is_integer (hr.mono (by decide)) (pa_cons (pv 0) pa_nil)) (pe_one (pe_chain op_le op_le (pv 1) (pv 0) (pv 2)))))), ?_⟩
  refine s_ret (R := bb _) (ev_andV (a := true) (ev_call0 n (es1 (ev_n rfl rfl)) rfl trivial) fun _ => (fun H1 e Q q => ?_ : EvR _ _ _ (bb (decide (lo ≤ n) && decide (n ≤ hi))))) hk
  refine ⟨_, rfl, _, rfl, _, _, rfl, rfl, _, rfl, ?_⟩
  refine ite2 (fun h => ⟨_, rfl, _, _, rfl, rfl, q _ _ (Ex.refl _) ?_⟩) fun h => q _ _ (Ex.refl _) ?_
  · show V.bl (decide (n ≤ hi)) = V.bl (decide (lo ≤ n) && decide (n ≤ hi)); rw [h]; rfl
  · have h' : decide (lo ≤ n) = false := by simpa using h
    show V.bl false = V.bl (decide (lo ≤ n) && decide (n ≤ hi)); rw [h']; rfl
theorem ok_need_cards (C : Ctx K mg) : Ok P w K mg base 3 "need_cards" (He.fAd K d_need_cards.at_) P_need_cards [] (Pm (fun n : Nat => 1 ≤ n ∧ n ≤ 7) (fun n : Nat => [nn n]) (fun _ => is .non)) := by
  have O_is_from := ok_is_from (P := P) (w := w) (base := base) C
  obtain ⟨t7, m_MOST_CARDS⟩ := C.c_MOST_CARDS
  refine mkPm C.a_need_cards C.f_need_cards sc_need_cards (fun _ _ _ _ _ _ us hl => match us, hl with | [_], _ => rfl) (fun _ => rfl) fun cdv A outer s H vs Q E hr n hn hv hk => ?_
  obtain ⟨_, rfl, rfl⟩ := rels1 hv
  refine ⟨_, (pss_one (ps_if (pt_not (pt_val (pcall O_is_from (hr.mono (by decide)) (pa_cons (pv 0) (pa_cons pe_int (pa_cons (pe_glob (v := V.int 7) rfl m_MOST_CARDS ⟨_, rfl⟩) pa_nil)))))) (pss_one ps_never) pss_nil)), ?_⟩
  refine s_skip (et_not (a := true) (t_B ?_)) fun H1 e => hk _ _ e rfl
  refine (ev_call0 ((n : Int), (1 : Int), (7 : Int)) (es_cons (ev_n rfl rfl) (es_cons ev_k (es1 ev_k))) rfl trivial).to ?_
  show bb _ = bb true
  rw [decide_eq_true (by omega : (1 : Int) ≤ (n : Int)), decide_eq_true (by omega : (n : Int) ≤ 7)]; rfl
theorem ok_turned_row (C : Ctx K mg) : Ok P w K mg base 1 "turned_row" (He.fAd K d_turned_row.at_) P_turned_row [] (Pm (fun n : Nat => n ≤ 7) (fun n : Nat => [nn n]) (fun n => ti (turned n))) := by
  refine mkPm C.a_turned_row C.f_turned_row sc_turned_row (fun _ _ _ _ _ _ us hl => match us, hl with | [_], _ => rfl) (fun _ => rfl) fun cdv A outer s H vs Q E hr n hn hv hk => ?_
  obtain ⟨_, rfl, rfl⟩ := rels1 hv
  refine ⟨_, (pss_one (ps_ret (pe_tupRg3 rfl (by rfl) C.g_tuple (by rfl) C.g_range (pa_cons (pe_op op_sub (pv 0) pe_int) (pa_cons (pe_un un_neg pe_int) (pa_cons (pe_un un_neg pe_int) pa_nil)))))), ?_⟩
  refine ⟨_, rfl, _, _, rfl, rfl, _, rfl, _, rfl, _, _, _, n, rfl, ?_, by omega, fun q hq => hk _ _ (Ex.new hq) ⟨q, rfl, ?_⟩⟩
  · have := RgC.neg (i := (n : Int) - 1) (j := -1) (by omega) (by omega) (by omega) (by omega)
    have e : ((n : Int) - 1 - -1).toNat = n := by omega
    rw [e] at this; exact this
  · rw [upd_same]; exact congrArg (fun z => some (HO.tup z)) (rg3_turned n)
theorem ok_exchanged (C : Ctx K mg) : Ok P w K mg base 1 "exchanged" (He.fAd K d_exchanged.at_) P_exchanged [] (Pm (fun d : List Int × Nat => d.2 + 1 < d.1.length ∧ d.1.length ≤ 1000) (fun d => [ti d.1, nn d.2]) (fun d => ti (exch d.1 d.2))) := by
  refine mkPm C.a_exchanged C.f_exchanged sc_exchanged (fun _ _ _ _ _ _ us hl => match us, hl with | [_, _], _ => rfl) (fun _ => rfl) fun cdv A outer s H vs Q E hr ⟨x, k⟩ ⟨hp, hl⟩ hv hk => ?_
  obtain ⟨xv, _, rfl, hx, rfl⟩ := rels2 hv
  have hp : k + 1 < x.length := hp
  have hl : x.length ≤ 1000 := hl
  refine ⟨_, (pss_one (ps_ret (pe_op (kcatA K) (pe_op (kcatA K) (pe_slice (ksl_tupA K) (pv 0) po_none (po_some (pv 1))) (pe_tup (pa_cons (pe_ix (kix_tup K) (pv 0) (pe_op op_add (pv 1) pe_int) (fun _ _ => rfl)) (pa_cons (pe_ix (kix_tup K) (pv 0) (pv 1) (fun _ _ => rfl)) pa_nil)))) (pe_slice (ksl_tupA K) (pv 0) (po_some (pe_op op_add (pv 1) pe_int)) po_none)))), ?_⟩
  refine s_ret (EvR.to (R := tupV ((x.map V.int).take k ++ [V.int (gd x (k+1)), V.int (gd x k)] ++ (x.map V.int).drop (k+2))) ?_ ?_) hk
  · have h2 : EvR (tOp (rI0 fun i j => .int (i + j)) (tVar 1) (tC (.int 2))) (L2.start N_exchanged [xv, V.int (k : Int)]) H (nn (k + 2)) := ev_I (g := fun i j => .int (i + j)) (i := (k : Int)) (j := 2) (ev_n rfl rfl) ev_k
    have t1 := ev_slT (K := K) (ev_n (i := 0) rfl hx) eo_n (eo_s (ev_n (i := 1) rfl rfl : EvR (tVar 1) (L2.start N_exchanged [xv, V.int (k : Int)]) H (nn k)))
    have t3 := ev_slT (K := K) (ev_n (i := 0) rfl hx) (eo_s h2) eo_n
    rw [cut_take (α := V)] at t1
    rw [cut_drop] at t3
    have t2 := ev_tup (es_cons (ev_gd (K := K) (ev_n (i := 0) rfl hx) (ev_succ (ev_n (i := 1) rfl rfl : EvR (tVar 1) (L2.start N_exchanged [xv, V.int (k : Int)]) H (nn k))) hp) (es1 (ev_gd (K := K) (ev_n (i := 0) rfl hx) (ev_n (i := 1) rfl rfl) (by omega)))) (by show 2 ≤ 100000; decide)
    refine ev_catT (ev_catT t1 (t2.imp fun v H1 _ h => tp_is (xs := [V.int (gd x (k+1)), V.int (gd x k)]).mp h) ?_) t3 ?_
    · simp; omega
    · simp; omega
  · unfold ti exch
    simp [List.map_append, List.map_take, List.map_drop]
theorem ok_done (C : Ctx K mg) : Ok P w K mg base 2 "done" (He.fAd K d_done.at_) P_done [] (Pm (fun d : List Int × Nat => d.2 + 1 < d.1.length ∧ d.1.length ≤ 1000) (fun d => [ti d.1, nn d.2]) (fun d => ti (dn d.1 d.2))) := by
  have O_exchanged := ok_exchanged (P := P) (w := w) (base := base) C
  refine mkPm C.a_done C.f_done sc_done (fun _ _ _ _ _ _ us hl => match us, hl with | [_, _], _ => rfl) (fun _ => rfl) fun cdv A outer s H vs Q E hr ⟨x, k⟩ ⟨hp, hl⟩ hv hk => ?_
  obtain ⟨_, _, rfl, hx, rfl⟩ := rels2 hv
  have hp : k + 1 < x.length := hp
  refine ⟨_, (pss_one (ps_ret (pe_ifExp (pt_cmpR op_gt (pe_ix (kix_tup K) (pv 0) (pv 1) (fun _ _ => rfl)) (pe_ix (kix_tup K) (pv 0) (pe_op op_add (pv 1) pe_int) (fun _ _ => rfl)) (nomark _)) (pcall O_exchanged (hr.mono (by decide)) (pa_cons (pv 0) (pa_cons (pv 1) pa_nil))) (pv 0)))), ?_⟩
  refine s_ret (R := ti (dn x k)) (ev_cond (b := desc x k) ?_ (fun h => ?_) fun h => ?_) hk
  · exact t_I (p := fun i j => decide (j < i)) (ev_gd (ev_n rfl hx) (ev_n (i := 1) rfl rfl) (by omega)) (ev_gd (ev_n rfl hx) (ev_succ (ev_n (i := 1) rfl rfl)) hp)
  · refine EvR.to (ev_call0 (x, k) (es_cons (ev_n rfl hx) (es1 (ev_n (R := nn k) rfl rfl))) rfl ⟨hp, hl⟩) ?_
    show ti (exch x k) = ti (dn x k)
    unfold dn; rw [if_pos h]
  · refine EvR.to (ev_n rfl hx) ?_
    unfold dn; rw [if_neg (by rw [h]; decide)]
end Wk
set_option Elab.async false
set_option linter.all false
set_option maxRecDepth 100000
set_option maxHeartbeats 2000000
namespace Wk
open PySem PySem.Spec PyProof.Rows L2 Evl SSort
def iv (l : List Nat) : List Int := l.map fun k : Nat => (k : Int)
theorem iv_len (l : List Nat) : (iv l).length = l.length := by unfold iv; rw [List.length_map]
section
variable {K : PySem.W.Frag} {σ : L2.St} {H : Hp} {te ta tb tl : TE} {tt : TT} {R A : Rel} {vs : List Nat} {g : TG} {α : Type}
theorem ti_tp {x : List Int} {v : V} {H : Hp} : (ti x).h v H ↔ (tp (x.map ii)).h v H := by
  have : x.map ii = (x.map V.int).map is := by rw [List.map_map]; rfl
  rw [this]; exact tp_is.symm
theorem ev_ti {x : List Int} (h : EvR te σ H (ti x)) : EvR te σ H (tp (x.map ii)) := h.imp fun _ _ _ z => ti_tp.mp z
theorem ev_tip {x : List Int} (h : EvR te σ H (tp (x.map ii))) : EvR te σ H (ti x) := h.imp fun _ _ _ z => ti_tp.mpr z
theorem tin_tp {x : List Nat} {v : V} {H : Hp} : (ti (iv x)).h v H ↔ (tp (x.map nn)).h v H := by
  rw [ti_tp]; unfold iv; rw [List.map_map]; rfl
theorem ev_tin {x : List Nat} (h : EvR te σ H (ti (iv x))) : EvR te σ H (tp (x.map nn)) := h.imp fun _ _ _ z => tin_tp.mp z
theorem im_ii {n : Int} : Im (ii n) := im_is
theorem im_nn {n : Nat} : Im (nn n) := im_is
theorem im_bb {b : Bool} : Im (bb b) := im_is
theorem im_ti {x : List Int} : Im (ti x) := im_tupV
theorem filter_yes {l : List α} : l.filter (fun _ => true) = l := by induction l with
  | nil => rfl
  | cons a l ih => simp
/-- a list of bools, ints by relations: the very list -/
theorem ls_bb {bs : List Bool} {v : V} {H : Hp} : (ls (bs.map bb)).h v H ↔ (lstV (bs.map V.bl)).h v H := by
  have : bs.map bb = (bs.map V.bl).map is := by rw [List.map_map]; rfl
  rw [this]; exact ls_is
theorem ls_ii {bs : List Int} {v : V} {H : Hp} : (ls (bs.map ii)).h v H ↔ (lstV (bs.map V.int)).h v H := by
  have : bs.map ii = (bs.map V.int).map is := by rw [List.map_map]; rfl
  rw [this]; exact ls_is
theorem ev_all {bs : List Bool} (h : EvR te σ H (ls (bs.map bb))) : EvR (tCB (rAll K) (tCons te tNil)) σ H (bb (bs.all id)) := ev_cb (es1 h) fun us H1 e hv Q q => by
  obtain ⟨a, rfl, ha⟩ := rels1 hv
  obtain ⟨p, rfl, hp⟩ := ls_bb.mp ha
  exact ⟨p, bs, rfl, SqL.of hp, q _ H1 (Ex.refl _) rfl⟩
theorem ev_allP {its : List α} {p : α → Bool} (h : EvR te σ H (ls ((its.filter fun _ => true).map fun a => bb (p a)))) : EvR (tCB (rAll K) (tCons te tNil)) σ H (bb (its.all p)) := by
  rw [filter_yes] at h
  have h2 : its.map (fun a => bb (p a)) = (its.map p).map bb := by rw [List.map_map]; rfl
  rw [h2] at h
  refine (ev_all h).to ?_
  rw [List.all_map]; rfl
theorem all_to {l : List α} {p : α → Bool} (h : ∀ a ∈ l, p a = true) : bb (l.all p) = bb true := by rw [List.all_eq_true.mpr h]
/-- len(set(t)) -/
theorem ev_lenSet {x : List Int} (h : EvR te σ H (ti x)) (hn : x.Nodup) (hl : x.length ≤ 1000) : EvR (tLenSetT K te) σ H (nn x.length) := fun H1 e Q q =>
  h H1 e _ fun v H2 e2 ⟨a, hv, ha⟩ => ⟨a, x, hv, SqT.of ha, hn, hl, q _ H2 e2 rfl⟩
theorem ev_isT {xs : List V} {T : String} {b : Bool} (ha : EvR ta σ H (tupV xs)) (h : kitB "tuple" T = some b) : EvR (tCB (rIsi K) (tCons ta (tCons (tC (.ty T)) tNil))) σ H (bb b) :=
  ev_isi ha (fun v H1 ⟨a, hv, hp⟩ => by subst hv; exact .base (.tup hp)) (kit_ty h)
theorem t_not {t : TT} {b : Bool} (h : EvT t σ H b) : EvT (tNot t) σ H (!b) := et_not h
/-- comparisons of natural numbers -/
theorem ev_eqN {a b : Nat} (ha : EvR ta σ H (nn a)) (hb : EvR tb σ H (nn b)) : EvR (tOp rEq ta tb) σ H (bb (decide (a = b))) := (ev_eq ha hb rfl).to (by
  congr 1
  rw [Bool.eq_iff_iff, decide_eq_true_iff, decide_eq_true_iff]
  constructor
  · intro h
    have := V.int.inj h
    omega
  · intro h; rw [h])
theorem ev_neN {a b : Nat} (ha : EvR ta σ H (nn a)) (hb : EvR tb σ H (nn b)) : EvR (tOp rNe ta tb) σ H (bb (!decide (a = b))) := (ev_ne ha hb rfl).to (by
  congr 2
  rw [Bool.eq_iff_iff, decide_eq_true_iff, decide_eq_true_iff]
  constructor
  · intro h
    have := V.int.inj h
    omega
  · intro h; rw [h])
theorem t_ltN {a b : Nat} (ha : EvR ta σ H (nn a)) (hb : EvR tb σ H (nn b)) : EvT (tTest (tOp (rI0 fun i j => .bl (decide (i < j))) ta tb)) σ H (decide (a < b)) := t_is (t_I ha hb) (by
  rw [Bool.eq_iff_iff, decide_eq_true_iff, decide_eq_true_iff]; omega)
theorem t_gtN {a b : Nat} (ha : EvR ta σ H (nn a)) (hb : EvR tb σ H (nn b)) : EvT (tTest (tOp (rI0 fun i j => .bl (decide (j < i))) ta tb)) σ H (decide (b < a)) := t_is (t_I ha hb) (by
  rw [Bool.eq_iff_iff, decide_eq_true_iff, decide_eq_true_iff]; omega)
/-- slices of tuples of ints -/
theorem ev_sl1 {x : List Int} {k : Nat} {th : TO} (ha : EvR ta σ H (ti x)) (h : EvO th σ H (some (k : Int))) : EvR (tSl (rSlA K) ta tNoPart th) σ H (ti (x.take k)) := (ev_slT ha eo_n h).to (by
  rw [cut_take (α := V)]; unfold ti; rw [List.map_take])
theorem ev_sl2 {x : List Int} {k : Nat} {tl : TO} (ha : EvR ta σ H (ti x)) (h : EvO tl σ H (some (k : Int))) : EvR (tSl (rSlA K) ta tl tNoPart) σ H (ti (x.drop k)) := (ev_slT ha h eo_n).to (by
  rw [cut_drop]; unfold ti; rw [List.map_drop])
/-! ### zip, enumerate in comprehensions -/
theorem walk_zipT {a b : Addr} {xs ys : List V} {n : Nat} (hn : n = min xs.length ys.length) : Walk (RZ.ItzT K a b) n (fun H => SqT K H a xs ∧ SqT K H b ys) (YPair (fun i => xs[i]?) (fun i => ys[i]?)) := by
  subst hn
  refine ⟨fun i _ hi q => ?_, fun _ q => ⟨xs, ys, q.1, q.2, by omega⟩, fun i H v H' _ q y => ?_⟩
  · have h1 : i < xs.length := by omega
    have h2 : i < ys.length := by omega
    exact ⟨xs, ys, xs[i], ys[i], q.1, q.2, by simp [h1], by simp [h2]⟩
  · obtain ⟨T, x, z, h1, h2, h3, h4, h5⟩ := y
    exact ⟨T, x, z, h1, h2, h3, h4 xs q.1, h5 ys q.2⟩
/-- a pair of names -/
abbrev g2 (K : PySem.W.Frag) (i j : Nat) : TG := gTup K 2 (gCons (gName i) (gCons (gName j) gNil))
theorem body_2 {i j : Nat} {v : V} {b : Bool} {x y : V} (hv : (tupV [x, y]).h v H) (hw : ∀ x y, wipe (((wipe σ vs).set i (some x)).set j (some y)) vs = wipe σ vs)
    (ht : EvT tt (((wipe σ vs).set i (some x)).set j (some y)) H b) (he : b = true → EvR te (((wipe σ vs).set i (some x)).set j (some y)) H R) : Body (g2 K i j) tt te vs σ H v b R := by
  obtain ⟨p, rfl, hp⟩ := hv
  exact ⟨_, fun Q q => ⟨p, _, rfl, SqT.of hp, rfl, _, _, rfl, _, _, rfl, rfl, q⟩, hw x y, ht, he⟩
/-- over zip of tuples -/
theorem ev_lcZT {xs ys : List V} {ta : TA} (T : V × V → Rel) (b : V × V → Bool) (h : EvRs ta σ H [tupV xs, tupV ys]) (im : ∀ a, Im (T a)) (hz : xs.length ≤ 50000)
    (hb : ∀ a ∈ xs.zip ys, ∀ v H', Ex H H' → (tupV [a.1, a.2]).h v H' → Body g tt te vs σ H' v (b a) (T a)) : EvR (tLc (RZ.iZipA K ta) g tt te vs) σ H (ls (((xs.zip ys).filter b).map T)) := fun H0 e Q q =>
  h H0 e _ fun us H1 e1 hr => by
    obtain ⟨_, _, rfl, ⟨p1, rfl, h1⟩, ⟨p2, rfl, h2⟩⟩ := rels2 hr
    refine ⟨p1, p2, xs, ys, rfl, .inr ⟨SqT.of h1, SqT.of h2, fun D hD => ?_⟩⟩
    refine lc_gen (walk_zipT (K := K) (a := p1) (b := p2) (xs := xs) (ys := ys) rfl) (xs.zip ys) (by rw [List.length_zip]) (fun a => tupV [a.1, a.2]) T b (fun H' e' => ⟨SqT.of (e' _ _ h1), SqT.of (e' _ _ h2)⟩) ?_ im (by omega) (fun a ha v H' e' hs => hb a ha v H' ((e.trans e1).trans e') hs) hD (fun v H' e' hv => q v H' (e1.trans e') hv)
    rintro i H x H' e' ⟨T', x1, y1, rfl, hT, rfl, hx, hy⟩
    refine ⟨Ex.new hT, fun a ha => ?_⟩
    have := List.getElem?_zip_eq_some (l₁ := xs) (l₂ := ys) (i := i) (z := a)
    rw [this] at ha
    have hx : xs[i]? = some x1 := hx
    have hy : ys[i]? = some y1 := hy
    rw [hx, hy] at ha
    cases ha.1
    cases ha.2
    exact ⟨T', rfl, upd_same⟩
theorem ev_lcZM {xs ys : List Rel} {ta : TA} (T : Rel × Rel → Rel) (b : Rel × Rel → Bool) (h : EvRs ta σ H [tp xs, ls ys]) (hl : xs.length = ys.length) (im : ∀ a, Im (T a)) (hz : xs.length ≤ 50000)
    (hb : ∀ a ∈ xs.zip ys, ∀ v H', Ex H H' → (tp [a.1, a.2]).h v H' → Body g tt te vs σ H' v (b a) (T a)) : EvR (tLc (iZipM K ta) g tt te vs) σ H (ls (((xs.zip ys).filter b).map T)) := fun H0 e Q q =>
  h H0 e _ fun us H1 e1 hr => by
    obtain ⟨_, _, rfl, ⟨p1, vs1, rfl, h1, r1⟩, ⟨p2, vs2, rfl, h2, r2⟩⟩ := rels2 hr
    have l1 := rels_len r1
    have l2 := rels_len r2
    refine ⟨p1, p2, vs1, vs2, rfl, SqT.of h1, SqL.of h2, fun D hD => ?_⟩
    refine lc_gen (walk_zipM (K := K) (a := p1) (b := p2) (xs := vs1) (ys := vs2) (by omega)) (xs.zip ys) (by rw [List.length_zip]; omega) (fun a => tp [a.1, a.2]) T b (fun H' e' => ⟨SqT.of (e' _ _ h1), SqL.of (e' _ _ h2)⟩) ?_ im (by omega) (fun a ha v H' e' hs => hb a ha v H' ((e.trans e1).trans e') hs) hD (fun v H' e' hv => q v H' (e1.trans e') hv)
    rintro i H x H' e' ⟨T', x1, y1, rfl, hT, rfl, hx, hy⟩
    refine ⟨Ex.new hT, fun a ha => ?_⟩
    have := List.getElem?_zip_eq_some (l₁ := xs) (l₂ := ys) (i := i) (z := a)
    rw [this] at ha
    obtain ⟨R1, k1, m1⟩ := rels_at' r1 hx
    obtain ⟨R2, k2, m2⟩ := rels_at' r2 hy
    rw [k1, k2] at ha
    cases ha.1
    cases ha.2
    exact ⟨T', _, rfl, upd_same, a.1.up (e'.trans (Ex.new hT)) m1, a.2.up (e'.trans (Ex.new hT)) m2, trivial⟩
/-- over enumerate of a list -/
theorem ev_lcEL {xs : List Rel} {ta : TA} (T : Nat × Rel → Rel) (b : Nat × Rel → Bool) (h : EvRs ta σ H [ls xs]) (im : ∀ a, Im (T a)) (hz : xs.length ≤ 50000)
    (hb : ∀ a ∈ (List.range xs.length).zip xs, ∀ v H', Ex H H' → (tp [nn a.1, a.2]).h v H' → Body g tt te vs σ H' v (b a) (T a)) : EvR (tLc (iEnum K ta) g tt te vs) σ H (ls ((((List.range xs.length).zip xs).filter b).map T)) := fun H0 e Q q =>
  h H0 e _ fun us H1 e1 hr => by
    obtain ⟨_, rfl, ⟨p1, vs1, rfl, h1, r1⟩⟩ := rels1 hr
    have l1 := rels_len r1
    refine ⟨p1, vs1, rfl, SqL.of h1, fun D hD => ?_⟩
    refine lc_gen (walk_enum (K := K) (a := p1) (xs := vs1)) ((List.range xs.length).zip xs) (by rw [List.length_zip, List.length_range]; omega) (fun a => tp [nn a.1, a.2]) T b (fun H' e' => SqL.of (e' _ _ h1)) ?_ im (by omega) (fun a ha v H' e' hs => hb a ha v H' ((e.trans e1).trans e') hs) hD (fun v H' e' hv => q v H' (e1.trans e') hv)
    rintro i H x H' e' ⟨T', x1, y1, rfl, hT, rfl, hx, hy⟩
    refine ⟨Ex.new hT, fun a ha => ?_⟩
    have := List.getElem?_zip_eq_some (l₁ := List.range xs.length) (l₂ := xs) (i := i) (z := a)
    rw [this] at ha
    obtain ⟨R1, k1, m1⟩ := rels_at' r1 hy
    have hi : i < xs.length := (List.getElem?_eq_some_iff.mp k1).1
    rw [k1, List.getElem?_range hi] at ha
    have hx : some (V.int (i : Nat)) = some x1 := hx
    cases hx
    obtain ⟨h3, h4⟩ := ha
    cases h4
    have h3 : i = a.1 := Option.some.inj h3
    exact ⟨T', _, rfl, upd_same, by rw [h3]; rfl, a.2.up (e'.trans (Ex.new hT)) m1, trivial⟩
/-- a pair of names, by relations -/
theorem body_p {i j : Nat} {v : V} {b : Bool} {A B : Rel} (hv : (tp [A, B]).h v H) (hw : ∀ x y, wipe (((wipe σ vs).set i (some x)).set j (some y)) vs = wipe σ vs)
    (ht : ∀ x y, A.h x H → B.h y H → EvT tt (((wipe σ vs).set i (some x)).set j (some y)) H b) (he : ∀ x y, A.h x H → B.h y H → b = true → EvR te (((wipe σ vs).set i (some x)).set j (some y)) H R) : Body (g2 K i j) tt te vs σ H v b R := by
  obtain ⟨p, ws, rfl, hp, hr⟩ := hv
  obtain ⟨x, y, rfl, hx, hy⟩ := rels2 hr
  exact ⟨_, fun Q q => ⟨p, _, rfl, SqT.of hp, rfl, _, _, rfl, _, _, rfl, rfl, q⟩, hw x y, ht x y hx hy, he x y hx hy⟩
/-! ### loops -/
variable {D : Ends} {tu tz : TS}
/-- what a loop asks: an invariant over the base heap H1, its start, the tuples kept, a turn, the end -/
structure Lp (D : Ends) (σ : L2.St) (H1 : Hp) (n : Nat) (turn : (Nat → L2.St → Hp → Prop) → Nat → L2.St → Hp → Prop) (Pv : Nat → L2.St → Hp → Prop) : Prop where
  start : Pv 0 σ H1
  keep : ∀ k σ' H', Pv k σ' H' → ExT H1 H'
  turn : ∀ k σ' H', k < n → Pv k σ' H' → turn Pv k σ' H'
  done : ∀ σ' H', Pv n σ' H' → D.nx σ' H'
abbrev rest (D : Ends) (Pv : Nat → L2.St → Hp → Prop) (k : Nat) : Ends := { D with nx := Pv (k + 1), ct := Pv (k + 1), bk := D.nx }
/-- for i, x in enumerate(t) -/
theorem s_forE {xs : List V} {ta : TA} {i j : Nat} (h : EvRs ta σ H [tupV xs])
    (L : ∀ H1, Ex H H1 → ∃ Pv, Lp D σ H1 xs.length (fun Pv k σ' H' => ∀ x H'', xs[k]? = some x → Ex H' H'' → tu (rest D Pv k) ((σ'.set i (some (.int (k : Int)))).set j (some x)) H'') Pv) :
    tFor (iEnumT K ta) (g2 K i j) tu D σ H :=
  h H (Ex.refl H) _ fun us H1 e1 hr => by
    obtain ⟨_, rfl, ⟨p, rfl, hp⟩⟩ := rels1 hr
    obtain ⟨Pv, L⟩ := L H1 e1
    refine ⟨p, xs, rfl, SqT.of hp, ?_⟩
    refine for_it (walk_enumT (K := K) (a := p) (xs := xs)) Pv L.start (fun k σ' H' _ z => SqT.of (L.keep k σ' H' z _ _ hp)) ?_ L.done
    rintro k x σ' H' H'' hk z ⟨T, x1, y1, rfl, hT, rfl, hx, hy⟩
    have hx : some (V.int (k : Nat)) = some x1 := hx
    cases hx
    exact ⟨T, _, rfl, SqT.of upd_same, rfl, _, _, rfl, _, _, rfl, rfl, L.turn k σ' H' hk z y1 _ hy (Ex.new hT)⟩
/-- for i, x in enumerate(l) -/
theorem s_forEL {Rs : List Rel} {ta : TA} {i j : Nat} (h : EvRs ta σ H [ls Rs])
    (L : ∀ H1 p ys, Ex H H1 → H1 p = some (.lst ys) → Rels Rs ys H1 → ∃ Pv, Lp D σ H1 Rs.length (fun Pv k σ' H' => H' p = some (.lst ys) ∧ ∀ x H'', ys[k]? = some x → Ex H' H'' → tu (rest D Pv k) ((σ'.set i (some (.int (k : Int)))).set j (some x)) H'') Pv ∧ ∀ σ' H', Pv Rs.length σ' H' → H' p = some (.lst ys)) :
    tFor (iEnum K ta) (g2 K i j) tu D σ H :=
  h H (Ex.refl H) _ fun us H1 e1 hr => by
    obtain ⟨_, rfl, ⟨p, ys, rfl, hp, hr⟩⟩ := rels1 hr
    obtain ⟨Pv, L, hE⟩ := L H1 p ys e1 hp hr
    have hl := rels_len hr
    refine ⟨p, ys, rfl, SqL.of hp, ?_⟩
    refine for_it (walk_enum (K := K) (a := p) (xs := ys)) Pv L.start (fun k σ' H' hk z => SqL.of ?_) ?_ (fun σ' H' z => L.done σ' H' (by rw [hl]; exact z))
    · by_cases h : k < Rs.length
      · exact (L.turn k σ' H' h z).1
      · have : k = Rs.length := by omega
        subst this; exact hE σ' H' z
    · rintro k x σ' H' H'' hk z ⟨T, x1, y1, rfl, hT, rfl, hx, hy⟩
      have hx : some (V.int (k : Nat)) = some x1 := hx
      cases hx
      exact ⟨T, _, rfl, SqT.of upd_same, rfl, _, _, rfl, _, _, rfl, rfl, (L.turn k σ' H' (by omega) z).2 y1 _ hy (Ex.new hT)⟩
/-- for i in range(n) -/
theorem s_forR {n : Nat} {ta : TA} {i : Nat} (h : EvRs ta σ H [nn n]) (hn : n ≤ 50000)
    (L : ∀ H1, Ex H H1 → ∃ Pv, Lp D σ H1 n (fun Pv k σ' H' => tu (rest D Pv k) (σ'.set i (some (.int (k : Int)))) H') Pv) :
    tFor (iRng1 ta) (gName i) tu D σ H :=
  h H (Ex.refl H) _ fun us H1 e1 hr => by
    obtain ⟨_, rfl, rfl⟩ := rels1 hr
    obtain ⟨Pv, L⟩ := L H1 e1
    refine ⟨(n : Int), rfl, by omega, by omega, ?_⟩
    rw [Int.toNat_natCast]
    refine for_it walk_range Pv L.start (fun _ _ _ _ _ => trivial) ?_ L.done
    rintro k x σ' H' H'' hk z ⟨rfl, rfl⟩
    have e : (0 : Int) + (k : Int) = (k : Int) := Int.zero_add _
    show tu (rest D Pv k) (σ'.set i (some (.int ((0 : Int) + (k : Int))))) H''
    rw [e]
    exact L.turn k σ' H'' hk z
/-- for x in l, l a list that stays -/
theorem s_forLs {Rs : List Rel} {i : Nat} (h : EvR tl σ H (ls Rs))
    (L : ∀ H1 p ys, Ex H H1 → H1 p = some (.lst ys) → Rels Rs ys H1 → ∃ Pv, Lp D σ H1 Rs.length (fun Pv k σ' H' => H' p = some (.lst ys) ∧ ∀ x, ys[k]? = some x → tu (rest D Pv k) (σ'.set i (some x)) H') Pv ∧ ∀ σ' H', Pv Rs.length σ' H' → H' p = some (.lst ys)) :
    tFor (iList K tl) (gName i) tu D σ H :=
  h H (Ex.refl H) _ fun v H1 e1 ⟨p, ys, hv, hp, hr⟩ => by
    obtain ⟨Pv, L, hE⟩ := L H1 p ys e1 hp hr
    have hl := rels_len hr
    refine ⟨p, hv, ⟨ys, SqL.of hp⟩, ?_⟩
    refine for_it (walk_list (K := K) (a := p) (xs := ys)) Pv L.start (fun k σ' H' hk z => SqL.of ?_) ?_ (fun σ' H' z => L.done σ' H' (by rw [hl]; exact z))
    · by_cases h : k < Rs.length
      · exact (L.turn k σ' H' h z).1
      · have : k = Rs.length := by omega
        subst this; exact hE σ' H' z
    · rintro k x σ' H' H'' hk z ⟨rfl, hx⟩
      exact (L.turn k σ' H'' (by omega) z).2 x hx
/-- for x in reversed(t) -/
theorem s_forRev {xs : List V} {i : Nat} (h : EvR tl σ H (tupV xs))
    (L : ∀ H1, Ex H H1 → ∃ Pv, Lp D σ H1 xs.length (fun Pv k σ' H' => ∀ x, xs[xs.length - 1 - k]? = some x → tu (rest D Pv k) (σ'.set i (some x)) H') Pv) :
    tFor (RT.iRevA K tl) (gName i) tu D σ H :=
  h H (Ex.refl H) _ fun v H1 e1 ⟨p, hv, hp⟩ => by
    obtain ⟨Pv, L⟩ := L H1 e1
    refine ⟨p, xs, hv, .inr ⟨SqT.of hp, ?_⟩⟩
    have w : Walk (RT.ItvT K p xs.length) xs.length (fun H => SqT K H p xs) (fun i H x H' => H' = H ∧ xs[xs.length - 1 - i]? = some x) :=
      ⟨fun i _ hi q => ⟨hi, xs, xs[xs.length - 1 - i]'(by omega), q, by simp [show xs.length - 1 - i < xs.length by omega]⟩, fun _ _ => Nat.le_refl _, fun _ _ _ _ _ q y => ⟨y.1, y.2 xs q⟩⟩
    refine for_it w Pv L.start (fun k σ' H' _ z => SqT.of (L.keep k σ' H' z _ _ hp)) ?_ L.done
    rintro k x σ' H' H'' hk z ⟨rfl, hx⟩
    exact L.turn k σ' H'' hk z x hx
/-- a, b = x, y -/
theorem s_par {A B : Rel} {i j : Nat} (ha : EvR ta σ H A) (hb : EvR tb σ H B) (k : ∀ x y H1, Ex H H1 → A.h x H1 → B.h y H1 → D.nx ((σ.set i (some x)).set j (some y)) H1) : tPar i j (tCons ta (tCons tb tNil)) D σ H :=
  (es_cons ha (es1 hb)) H (Ex.refl _) _ fun us H1 e1 hus => by
    obtain ⟨x, y, rfl, hx, hy⟩ := rels2 hus
    exact ⟨x, y, rfl, k x y H1 e1 hx hy⟩
theorem q_par {A B : Rel} {i j : Nat} (ha : EvR ta σ H A) (hb : EvR tb σ H B) (k : ∀ x y H1, Ex H H1 → A.h x H1 → B.h y H1 → tz D ((σ.set i (some x)).set j (some y)) H1) : tSeq (tPar i j (tCons ta (tCons tb tNil))) tz D σ H := s_par (D := { D with nx := tz D }) ha hb k
/-- a loop, then the rest -/
theorem q_of (h : tu { D with nx := tz D } σ H) : tSeq tu tz D σ H := h
end
end Wk
set_option Elab.async false
set_option linter.all false
set_option maxRecDepth 100000
set_option maxHeartbeats 2000000
namespace Wk
open PySem PySem.Spec PyProof.Rows L2 Evl SSort
variable {P : Program} {w : World} {K : PySem.W.Frag} {mg : Str → Option Value} {base : Heap}
theorem ok_is_row_of (C : Ctx K mg) : Ok P w K mg base 3 "is_row_of" (He.fAd K d_is_row_of.at_) P_is_row_of [] (Pm (fun d : Nat × List Int => Row d.1 d.2 ∧ d.1 ≤ 7) (fun d => [nn d.1, ti d.2]) (fun _ => bb true)) := by
  have O_is_from := ok_is_from (P := P) (w := w) (base := base) C
  refine mkPm C.a_is_row_of C.f_is_row_of sc_is_row_of (fun _ _ _ _ _ _ us hl => match us, hl with | [_, _], _ => rfl) (fun _ => rfl) fun cdv A outer s H vs Q E hr ⟨n, x⟩ ⟨hp, hl⟩ hv hk => ?_
  obtain ⟨nv, xv, rfl, rfl, hx⟩ := rels2 hv
  have hp : Row n x := hp
  have hl : n ≤ 7 := hl
  have hlen := hp.len
  refine ⟨_, (pss_cons (ps_if (PW.pt (pw_or (pt_not (pt_val (pe_callB (kcall_isi K) (by rfl) C.g_isinstance (by decide +kernel) (pa_cons (pv 1) (pa_cons (pe_bltn (v := V.ty "tuple") (by rfl) C.g_tuple (by decide +kernel) rfl) pa_nil))))) (pw_or (pt_cmpR op_ne (pe_callB (kcall_len K) (by rfl) C.g_len PySem.boot_len (pa_cons (pv 1) pa_nil)) (pv 0) (nomark _)) (pw_or1 (pt_not (pt_val (pe_callB (kcr_all K rfl) (by rfl) C.g_all (by decide +kernel) (pa_cons (pe_lc (own := [("card", 2)]) (g := gName 2) (tt := tYes) rfl sc_is_row_of.nd (kpi_tup K (pv 1)) (blkOk_by (own := [("card", 2)]) (N := N_is_row_of) (sc := defScope s_is_row_of) (by decide +kernel)) (fun _ _ _ _ _ => pg_name (i := 2) sc_is_row_of.nd rfl (Or.inl rfl)) (fun _ _ _ _ _ => pts_nil) (fun _ _ _ _ _ => (pcall O_is_from (hr.mono (by decide)) (pa_cons (pv 2) (pa_cons pe_int (pa_cons (pe_op op_sub (pv 0) pe_int) pa_nil)))))) pa_nil)))))))) (pss_one (ps_ret pe_bl)) pss_nil)
    (pss_one (ps_ret (pe_cmpR op_eq (pe_lenSetT rfl (by rfl) C.g_len (by rfl) C.g_set (pv 1)) (pv 0) (nomark _))))), ?_⟩
  have hxt : (ti x).h xv H := hx
  refine q_skip (t_is (et_or (a := false) (b := false) (et_not (a := true) (t_B (ev_isT (ev_n rfl hxt) (by decide +kernel)))) fun _ => et_or (a := false) (b := false) (t_is (t_test (ev_neN (ev_lenTi (ev_n rfl hxt)) (ev_n (R := nn n) rfl rfl))) (by rw [hlen]; simp)) fun _ => et_not (a := true) (t_B (EvR.to (ev_allP (its := x) (p := fun a => decide (0 ≤ a) && decide (a ≤ (n : Int) - 1)) ?_) (all_to fun a ha => ?_)))) rfl) fun H1 e => ?_
  · refine ev_lcT x ii (fun a => bb (decide (0 ≤ a) && decide (a ≤ (n : Int) - 1))) (fun _ => true) (ev_ti (ev_n rfl hxt)) (fun _ => im_bb) (by omega) fun a ha v H' e hv => body_n (fun _ => rfl) t_yes fun _ => ?_
    exact ev_call0 (a, (0 : Int), (n : Int) - 1) (es_cons (ev_n rfl hv) (es_cons ev_k (es1 (ev_I (ev_n (R := nn n) rfl rfl) ev_k)))) rfl trivial
  · have := hp.bd a ha
    rw [decide_eq_true (by omega), decide_eq_true (by omega)]; rfl
  · refine s_ret (R := bb true) (EvR.to (ev_eqN (ev_lenSet (ev_n rfl ((ti x).up e hxt)) hp.nd (by omega)) (ev_n (R := nn n) rfl rfl)) (by rw [hlen]; simp)) fun v H2 e2 hv => hk v H2 (e.trans e2) hv
theorem ok_need_word (C : Ctx K mg) : Ok P w K mg base 3 "need_word" (He.fAd K d_need_word.at_) P_need_word [.int 200] (Pm (fun d : Nat × List Nat => Wd d.1 d.2 ∧ d.2.length ≤ 200) (fun d => [nn d.1, ti (iv d.2), ii 200]) (fun _ => is .non)) := by
  have O_is_from := ok_is_from (P := P) (w := w) (base := base) C
  obtain ⟨fd, F⟩ := C.f_need_word
  obtain ⟨ds, hds, hb⟩ := F.binds1 (ps := P_need_word) 2 0 (by show [V.int 200] ≠ []; decide) rfl (fun T kV doc pm an cdv ct us its h1 h2 => match us, its, h1, h2 with | [_, _], [_], _, _ => ⟨_, rfl, rfl⟩)
  refine ⟨C.a_need_word, fd, ds, ?_, hb, hds, F.kp⟩
  refine fnPm F sc_need_word (fun _ => rfl) fun cdv A outer s H vs Q E hr ⟨n, x⟩ ⟨hp, hl⟩ hv hk => ?_
  obtain ⟨nv, xv, _, rfl, rfl, hx, rfl⟩ := rels3 hv
  have hp : Wd n x := hp
  have hl : x.length ≤ 200 := hl
  have hli : (iv x).length ≤ 200 := by rw [iv_len]; exact hl
  have hxt : (ti (iv x)).h xv H := hx
  refine ⟨_, (pss_one (ps_if (PW.pt (pw_or (pt_not (pt_val (pe_callB (kcall_isi K) (by rfl) C.g_isinstance (by decide +kernel) (pa_cons (pv 1) (pa_cons (pe_bltn (v := V.ty "tuple") (by rfl) C.g_tuple (by decide +kernel) rfl) pa_nil))))) (pw_or (pt_cmpR op_gt (pe_callB (kcall_len K) (by rfl) C.g_len PySem.boot_len (pa_cons (pv 1) pa_nil)) (pv 2) (nomark _)) (pw_or1 (pt_not (pt_val (pe_callB (kcr_all K rfl) (by rfl) C.g_all (by decide +kernel) (pa_cons (pe_lc (own := [("deed", 3)]) (g := gName 3) (tt := tYes) rfl sc_need_word.nd (kpi_tup K (pv 1)) (blkOk_by (own := [("deed", 3)]) (N := N_need_word) (sc := defScope s_need_word) (by decide +kernel)) (fun _ _ _ _ _ => pg_name (i := 3) sc_need_word.nd rfl (Or.inl rfl)) (fun _ _ _ _ _ => pts_nil) (fun _ _ _ _ _ => (pcall O_is_from (hr.mono (by decide)) (pa_cons (pv 3) (pa_cons pe_int (pa_cons (pe_op op_sub (pv 0) pe_int) pa_nil)))))) pa_nil)))))))) (pss_one ps_never) pss_nil)), ?_⟩
  refine s_skip (t_is (et_or (a := false) (b := false) (et_not (a := true) (t_B (ev_isT (ev_n rfl hxt) (by decide +kernel)))) fun _ => et_or (a := false) (b := false) (t_is (t_I (ev_lenTi (ev_n rfl hxt)) (ev_n (R := ii 200) rfl rfl)) (by rw [decide_eq_false_iff_not]; omega)) fun _ => et_not (a := true) (t_B (EvR.to (ev_allP (its := iv x) (p := fun a => decide (0 ≤ a) && decide (a ≤ (n : Int) - 2)) ?_) (all_to fun a ha => ?_)))) rfl) fun H1 e => hk _ _ e rfl
  · refine ev_lcT (iv x) ii (fun a => bb (decide (0 ≤ a) && decide (a ≤ (n : Int) - 2))) (fun _ => true) (ev_ti (ev_n rfl hxt)) (fun _ => im_bb) (by omega) fun a ha v H' e hv => body_n (fun _ => rfl) t_yes fun _ => ?_
    exact ev_call0 (a, (0 : Int), (n : Int) - 2) (es_cons (ev_n rfl hv) (es_cons ev_k (es1 (ev_I (ev_n (R := nn n) rfl rfl) ev_k)))) rfl trivial
  · unfold iv at ha
    obtain ⟨k, hk, rfl⟩ := List.mem_map.mp ha
    have := hp k hk
    rw [decide_eq_true (by omega), decide_eq_true (by omega)]; rfl
/-- ascending places below a size -/
def Lot (m : Nat) (L : List Nat) : Prop := L.Pairwise (· < ·) ∧ ∀ p ∈ L, p < m
theorem lot_len {m : Nat} : ∀ {L : List Nat} {lo : Nat}, L.Pairwise (· < ·) → (∀ p ∈ L, lo ≤ p ∧ p < m) → L.length ≤ m - lo
  | [], _, _, _ => Nat.zero_le _
  | a :: L, lo, h, hb => by
    have h1 := List.pairwise_cons.mp h
    have h2 := hb a List.mem_cons_self
    have := lot_len (L := L) (lo := a + 1) h1.2 fun p hp => ⟨h1.1 p hp, (hb p (List.mem_cons_of_mem _ hp)).2⟩
    rw [List.length_cons]; omega
theorem Lot.len {m : Nat} {L : List Nat} (h : Lot m L) : L.length ≤ m := lot_len (lo := 0) h.1 fun p hp => ⟨Nat.zero_le _, h.2 p hp⟩
theorem ok_is_lot_of (C : Ctx K mg) : Ok P w K mg base 3 "is_lot_of" (He.fAd K d_is_lot_of.at_) P_is_lot_of [] (Pm (fun d : Nat × List Nat => Lot d.1 d.2 ∧ d.1 ≤ 200) (fun d => [nn d.1, ti (iv d.2)]) (fun _ => bb true)) := by
  have O_is_from := ok_is_from (P := P) (w := w) (base := base) C
  refine mkPm C.a_is_lot_of C.f_is_lot_of sc_is_lot_of (fun _ _ _ _ _ _ us hl => match us, hl with | [_, _], _ => rfl) (fun _ => rfl) fun cdv A outer s H vs Q E hr ⟨n, x⟩ ⟨hp, hl⟩ hv hk => ?_
  obtain ⟨nv, xv, rfl, rfl, hx⟩ := rels2 hv
  have hp : Lot n x := hp
  have hl : n ≤ 200 := hl
  have hli : (iv x).length ≤ 200 := by rw [iv_len]; have := hp.len; omega
  have hxt : (ti (iv x)).h xv H := hx
  refine ⟨_, (pss_cons (ps_if (PW.pt (pw_or (pt_not (pt_val (pe_callB (kcall_isi K) (by rfl) C.g_isinstance (by decide +kernel) (pa_cons (pv 1) (pa_cons (pe_bltn (v := V.ty "tuple") (by rfl) C.g_tuple (by decide +kernel) rfl) pa_nil))))) (pw_or1 (pt_not (pt_val (pe_callB (kcr_all K rfl) (by rfl) C.g_all (by decide +kernel) (pa_cons (pe_lc (own := [("place", 2)]) (g := gName 2) (tt := tYes) rfl sc_is_lot_of.nd (kpi_tup K (pv 1)) (blkOk_by (own := [("place", 2)]) (N := N_is_lot_of) (sc := defScope s_is_lot_of) (by decide +kernel)) (fun _ _ _ _ _ => pg_name (i := 2) sc_is_lot_of.nd rfl (Or.inl rfl)) (fun _ _ _ _ _ => pts_nil) (fun _ _ _ _ _ => (pcall O_is_from (hr.mono (by decide)) (pa_cons (pv 2) (pa_cons pe_int (pa_cons (pe_op op_sub (pv 0) pe_int) pa_nil)))))) pa_nil))))))) (pss_one (ps_ret pe_bl)) pss_nil)
    (pss_one (ps_ret (pe_callB (kcr_all K rfl) (by rfl) C.g_all (by decide +kernel) (pa_cons (pe_lc (own := [("one", 3), ("other", 4)]) (g := g2 K 3 4) (tt := tYes) rfl sc_is_lot_of.nd (kpi_zipA K (by rfl) C.g_zip (pa_cons (pv 1) (pa_cons (pe_slice (ksl_tupA K) (pv 1) (po_some pe_int) po_none) pa_nil))) (blkOk_by (own := [("one", 3), ("other", 4)]) (N := N_is_lot_of) (sc := defScope s_is_lot_of) (by decide +kernel)) (fun _ _ _ _ _ => (kpg_tup K rfl (pgs_cons (pg_name (i := 3) sc_is_lot_of.nd rfl (Or.inl rfl)) (pgs_cons (pg_name (i := 4) sc_is_lot_of.nd rfl (Or.inl rfl)) pgs_nil)))) (fun _ _ _ _ _ => pts_nil) (fun _ _ _ _ _ => (pe_cmpR op_lt (pv 3) (pv 4) (nomark _)))) pa_nil))))), ?_⟩
  refine q_skip (t_is (et_or (a := false) (b := false) (et_not (a := true) (t_B (ev_isT (ev_n rfl hxt) (by decide +kernel)))) fun _ => et_not (a := true) (t_B (EvR.to (ev_allP (its := iv x) (p := fun a => decide (0 ≤ a) && decide (a ≤ (n : Int) - 1)) ?_) (all_to fun a ha => ?_)))) rfl) fun H1 e => ?_
  · refine ev_lcT (iv x) ii (fun a => bb (decide (0 ≤ a) && decide (a ≤ (n : Int) - 1))) (fun _ => true) (ev_ti (ev_n rfl hxt)) (fun _ => im_bb) (by omega) fun a ha v H' e hv => body_n (fun _ => rfl) t_yes fun _ => ?_
    exact ev_call0 (a, (0 : Int), (n : Int) - 1) (es_cons (ev_n rfl hv) (es_cons ev_k (es1 (ev_I (ev_n (R := nn n) rfl rfl) ev_k)))) rfl trivial
  · unfold iv at ha
    obtain ⟨k, hk, rfl⟩ := List.mem_map.mp ha
    have := hp.2 k hk
    rw [decide_eq_true (by omega), decide_eq_true (by omega)]; rfl
  · have hx1 := (ti (iv x)).up e hxt
    have e1 : cutV ((iv x).map V.int) (some 1) none = ((iv x).drop 1).map V.int := by
      rw [show (1 : Int) = ((1 : Nat) : Int) from rfl, cut_drop, List.map_drop]
    have hs : EvR (tSl (rSlA K) (tVar 1) (tPart (tC (V.int 1))) tNoPart) (L2.start N_is_lot_of [V.int (n : Int), xv]) H1 (tupV (((iv x).drop 1).map V.int)) := (ev_slT (ev_n rfl hx1) (eo_s ev_k) eo_n).to (by rw [e1])
    have hz := ev_lcZT (K := K) (σ := L2.start N_is_lot_of [V.int (n : Int), xv]) (H := H1) (g := g2 K 3 4) (tt := tYes) (te := tOp (rI0 fun i j => .bl (decide (i < j))) (tVar 3) (tVar 4)) (vs := [3, 4]) (xs := (iv x).map V.int) (ys := ((iv x).drop 1).map V.int)
      (fun p => bb (match p with | (.int a, .int b) => decide (a < b) | _ => false)) (fun _ => true) (es_cons (ev_n (i := 1) rfl hx1) (es1 hs)) (fun _ => im_bb) (by rw [List.length_map]; omega) (fun p hp v H' e hv => ?_)
    · refine s_ret (R := bb true) (EvR.to (ev_allP hz) (all_to fun p hp => ?_)) fun v H2 e2 hv => hk v H2 (e.trans e2) hv
      rw [List.mem_iff_getElem?] at hp
      obtain ⟨i, hi⟩ := hp
      rw [List.getElem?_zip_eq_some] at hi
      rw [List.getElem?_map, List.getElem?_map, List.getElem?_drop] at hi
      obtain ⟨p1, p2⟩ := p
      obtain ⟨h1, h2⟩ := hi
      unfold iv at h1 h2
      rw [List.getElem?_map] at h1 h2
      cases h3 : x[i]? with
      | none => rw [h3] at h1; cases h1
      | some a =>
        cases h4 : x[1 + i]? with
        | none => rw [h4] at h2; cases h2
        | some b =>
          rw [h3] at h1
          rw [h4] at h2
          obtain rfl : V.int (a : Int) = p1 := Option.some.inj h1
          obtain rfl : V.int (b : Int) = p2 := Option.some.inj h2
          obtain ⟨l3, e3⟩ := List.getElem?_eq_some_iff.mp h3
          obtain ⟨l4, e4⟩ := List.getElem?_eq_some_iff.mp h4
          have := List.pairwise_iff_getElem.mp hp.1 i (1 + i) l3 l4 (by omega)
          rw [e3, e4] at this
          show decide ((a : Int) < (b : Int)) = true
          rw [decide_eq_true_iff]; omega
    · obtain ⟨p1, p2⟩ := p
      have hm := List.of_mem_zip hp
      obtain ⟨a, _, rfl⟩ := List.mem_map.mp hm.1
      obtain ⟨b, _, rfl⟩ := List.mem_map.mp hm.2
      exact body_2 hv (fun _ _ => rfl) t_yes fun _ => ev_I (ev_n rfl rfl) (ev_n rfl rfl)
theorem ok_need_lot (C : Ctx K mg) : Ok P w K mg base 4 "need_lot" (He.fAd K d_need_lot.at_) P_need_lot [] (Pm (fun d : List Nat × List Nat => Lot d.1.length d.2 ∧ d.1.length ≤ 200) (fun d => [ti (iv d.1), ti (iv d.2)]) (fun _ => is .non)) := by
  have O_is_lot_of := ok_is_lot_of (P := P) (w := w) (base := base) C
  refine mkPm C.a_need_lot C.f_need_lot sc_need_lot (fun _ _ _ _ _ _ us hl => match us, hl with | [_, _], _ => rfl) (fun _ => rfl) fun cdv A outer s H vs Q E hr ⟨x, l⟩ ⟨hp, hl⟩ hv hk => ?_
  obtain ⟨xv, lv, rfl, hx, hlv⟩ := rels2 hv
  refine ⟨_, (pss_one (ps_if (pt_not (pt_val (pcall O_is_lot_of (hr.mono (by decide)) (pa_cons (pe_callB (kcall_len K) (by rfl) C.g_len PySem.boot_len (pa_cons (pv 0) pa_nil)) (pa_cons (pv 1) pa_nil))))) (pss_one ps_never) pss_nil)), ?_⟩
  refine s_skip (et_not (a := true) (t_B (ev_call0 (x.length, l) (es_cons ((ev_lenTi (ev_n rfl hx)).to (by rw [iv_len])) (es1 (ev_n rfl hlv))) rfl ⟨hp, hl⟩))) fun H1 e => hk _ _ e rfl
theorem ok_need_goal (C : Ctx K mg) : Ok P w K mg base 4 "need_goal" (He.fAd K d_need_goal.at_) P_need_goal [] (Pm (fun d : Nat × List Int => Row d.1 d.2 ∧ d.1 ≤ 7) (fun d => [nn d.1, ti d.2]) (fun _ => is .non)) := by
  have O_is_row_of := ok_is_row_of (P := P) (w := w) (base := base) C
  refine mkPm C.a_need_goal C.f_need_goal sc_need_goal (fun _ _ _ _ _ _ us hl => match us, hl with | [_, _], _ => rfl) (fun _ => rfl) fun cdv A outer s H vs Q E hr ⟨n, x⟩ hp hv hk => ?_
  obtain ⟨xv, lv, rfl, rfl, hx⟩ := rels2 hv
  refine ⟨_, (pss_one (ps_if (pt_not (pt_val (pcall O_is_row_of (hr.mono (by decide)) (pa_cons (pv 0) (pa_cons (pv 1) pa_nil))))) (pss_one ps_never) pss_nil)), ?_⟩
  refine s_skip (et_not (a := true) (t_B (ev_call0 (n, x) (es_cons (ev_n (R := nn n) rfl rfl) (es1 (ev_n rfl hx))) rfl hp))) fun H1 e => hk _ _ e rfl
end Wk
set_option Elab.async false
set_option linter.all false
set_option maxRecDepth 100000
set_option maxHeartbeats 2000000
namespace Wk
open PySem PySem.Spec PyProof.Rows L2 Evl SSort
/-- a set of places -/
def st (w : World) (L : List Nat) : Rel := ⟨fun v H => ∃ a c, v = .ref a ∧ H a = some (SetO w a (fun j => decide (j ∈ iv L)) c), fun e ⟨a, c, h, k⟩ => ⟨a, c, h, e _ _ k⟩⟩
theorem mem_iv {L : List Nat} {k : Nat} : (k : Int) ∈ iv L ↔ k ∈ L := by
  unfold iv
  rw [List.mem_map]
  constructor
  · rintro ⟨a, ha, e⟩
    have : a = k := by omega
    exact this ▸ ha
  · intro h
    exact ⟨k, h, rfl⟩
theorem inV_ints {k : Int} : ∀ {ns : List Int}, inV (.int k) (ns.map V.int) = decide (k ∈ ns)
  | [] => rfl
  | n :: ns => by
    have ih := inV_ints (k := k) (ns := ns)
    unfold inV at ih ⊢
    rw [List.map_cons, List.any_cons, ih, Bool.eq_iff_iff, Bool.or_eq_true, decide_eq_true_iff, decide_eq_true_iff, List.mem_cons]
    have : eqV (V.int n) (V.int k) = true ↔ k = n := by
      show (n == k) = true ↔ k = n
      rw [beq_iff_eq]; exact eq_comm
    rw [this]
theorem flat_ints : ∀ {ns : List Int}, (ns.map V.int).all flatV = true
  | [] => rfl
  | n :: ns => by rw [List.map_cons, List.all_cons, flat_ints]; rfl
section
variable {w : World} {K : PySem.W.Frag} {σ : L2.St} {H : Hp} {te ta tb : TE} {L : List Nat} {k : Nat}
theorem ev_set {x : List Nat} (h : EvR te σ H (ti (iv x))) (hl : x.length ≤ 1000) : EvR (tCB (rSetT K w) (tCons te tNil)) σ H (st w x) := ev_cb (es1 h) fun us H1 e hv Q q => by
  obtain ⟨_, rfl, p, rfl, hp⟩ := rels1 hv
  exact ⟨p, iv x, rfl, SqT.of hp, by rw [iv_len]; exact hl, fun p' c hn => q _ _ (Ex.new hn) ⟨p', c, rfl, upd_same⟩⟩
theorem ev_notInS (ha : EvR ta σ H (nn k)) (hb : EvR tb σ H (st w L)) : EvR (tOp (rSNotIn w) ta tb) σ H (bb (!has L k)) :=
  ev_o ha hb fun x y H1 _ hx ⟨a, c, hy, hs⟩ Q q => ⟨(k : Int), a, _, c, hx, hy, hs, q _ H1 (Ex.refl _) (by
    show V.bl (!decide ((k : Int) ∈ iv L)) = V.bl (!has L k)
    unfold has; congr 2; rw [decide_eq_decide]; exact mem_iv)⟩
theorem ev_inS (ha : EvR ta σ H (nn k)) (hb : EvR tb σ H (st w L)) : EvR (tOp (rSIn w) ta tb) σ H (bb (has L k)) :=
  ev_o ha hb fun x y H1 _ hx ⟨a, c, hy, hs⟩ Q q => ⟨(k : Int), a, _, c, hx, hy, hs, q _ H1 (Ex.refl _) (by
    show V.bl (decide ((k : Int) ∈ iv L)) = V.bl (has L k)
    unfold has; congr 1; rw [decide_eq_decide]; exact mem_iv)⟩
theorem ev_inT (ha : EvR ta σ H (nn k)) (hb : EvR tb σ H (ti (iv L))) : EvR (tOp (rIn K false) ta tb) σ H (bb (has L k)) :=
  ev_o ha hb fun x y H1 _ hx ⟨a, hy, hs⟩ Q q => by
    have hx : x = .int (k : Int) := hx
    subst hx
    refine ⟨a, _, hy, .inr (SqT.of hs), rfl, flat_ints, q _ H1 (Ex.refl _) ?_⟩
    show V.bl (inV _ _) = V.bl (has L k)
    rw [inV_ints]; unfold has; congr 1; rw [decide_eq_decide]; exact mem_iv
theorem ev_notInT (ha : EvR ta σ H (nn k)) (hb : EvR tb σ H (ti (iv L))) : EvR (tOp (rIn K true) ta tb) σ H (bb (!has L k)) :=
  ev_o ha hb fun x y H1 _ hx ⟨a, hy, hs⟩ Q q => by
    have hx : x = .int (k : Int) := hx
    subst hx
    refine ⟨a, _, hy, .inr (SqT.of hs), rfl, flat_ints, q _ H1 (Ex.refl _) ?_⟩
    show V.bl (!inV _ _) = V.bl (!has L k)
    rw [inV_ints]; unfold has; congr 2; rw [decide_eq_decide]; exact mem_iv
theorem ev_isN {te : TE} {v : V} (h : EvR te σ H (is v)) : EvR (tOp (fun x y H Q => y = .non ∧ Q (.bl (decide (x = .non))) H) te (tC .non)) σ H (bb (decide (v = .non))) :=
  ev_o h ev_k fun x y H1 _ hx hy Q q => ⟨hy, q _ H1 (Ex.refl _) (by cases hx; rfl)⟩
end
/-- None, or an object -/
def lk (b : Bool) : Rel := ⟨fun v _ => if b = true then v = .non else ∃ a, v = .ref a, fun _ h => h⟩
theorem iv_at {w : List Nat} {k : Nat} {x : V} (h : ((iv w).map V.int)[k]? = some x) : ∃ s, w[k]? = some s ∧ x = .int (s : Int) := by
  unfold iv at h
  rw [List.getElem?_map, List.getElem?_map] at h
  cases e : w[k]? with
  | none => rw [e] at h; cases h
  | some s =>
    rw [e] at h
    exact ⟨s, rfl, (Option.some.inj h).symm⟩
variable {P : Program} {w : World} {K : PySem.W.Frag} {mg : Str → Option Value} {base : Heap}
theorem ok_run_left (C : Ctx K mg) : Ok P w K mg base 3 "run_left" (He.fAd K d_run_left.at_) P_run_left [] (Pm (fun d : Nat × List Int × List Nat × List Nat => Row d.1 d.2.1 ∧ Wd d.1 d.2.2.1 ∧ d.1 ≤ 7 ∧ d.2.2.2.length ≤ 200) (fun d => [ti d.2.1, ti (iv d.2.2.1), ti (iv d.2.2.2)]) (fun d => ti (runF d.2.1 d.2.2.1 0 (has d.2.2.2)))) := by
  have O_done := ok_done (P := P) (w := w) (base := base) C
  refine mkPm C.a_run_left C.f_run_left sc_run_left (fun _ _ _ _ _ _ us hl => match us, hl with | [_, _, _], _ => rfl) (fun _ => rfl) fun cdv A outer s H vs Q E hr ⟨n, x, wd, L⟩ ⟨hR, hW, hn, hL⟩ hv hk => ?_
  obtain ⟨xv, wv, lv, rfl, hx, hw, hl⟩ := rels3 hv
  have hR : Row n x := hR
  have hW : Wd n wd := hW
  have hL : L.length ≤ 200 := hL
  refine ⟨_, (pss_cons (ps_set (i := 3) sc_run_left.nd rfl (Or.inl rfl) (pe_callTy (kcr_setT K w rfl) (by rfl) C.g_set (by decide +kernel) (pa_cons (pv 2) pa_nil)))
    (pss_cons (ps_for PassesOwn.never rfl (kpi_enumT K (by rfl) C.g_enumerate (pa_cons (pv 1) pa_nil)) (kpg_tup K rfl (pgs_cons (pg_name (i := 4) sc_run_left.nd rfl (Or.inl rfl)) (pgs_cons (pg_name (i := 5) sc_run_left.nd rfl (Or.inl rfl)) pgs_nil))) (pss_one (ps_if (pt_cmpR (kor_snotin w) (pv 4) (pv 3) (by rfl)) (pss_one (ps_set (i := 0) sc_run_left.nd rfl (Or.inl rfl) (pcall O_done (hr.mono (by decide)) (pa_cons (pv 0) (pa_cons (pv 5) pa_nil))))) pss_nil)))
    (pss_one (ps_ret (pv 0))))), ?_⟩
  refine q_set (ev_set (ev_n rfl hl) (by omega)) fun fv H1 e1 hf => ?_
  refine q_of (s_forE (xs := (iv wd).map V.int) (es1 (ev_n rfl ((ti (iv wd)).up e1 hw))) fun H2 e2 => ⟨fun k σ' H' => Ex H2 H' ∧ ∃ rv a b, σ' = [some rv, some wv, some lv, some fv, a, b] ∧ (ti (runF x (wd.take k) 0 (has L))).h rv H', ?_⟩)
  refine ⟨⟨Ex.refl _, xv, none, none, rfl, (ti x).up (e1.trans e2) hx⟩, fun k σ' H' z => Ex.t z.1, ?_, ?_⟩
  · rintro k σ' H' hk' ⟨e3, rv, a, b, rfl, hrv⟩ y H'' hy e4
    obtain ⟨d, hd, rfl⟩ := iv_at hy
    have hdn : d + 1 < n := hW d (List.mem_of_getElem? hd)
    have hRk : Row n (runF x (wd.take k) 0 (has L)) := runF_row (fun s hs => hW s (List.mem_of_mem_take hs)) hR
    have hst := (st w L).up ((e2.trans e3).trans e4) hf
    refine s_when (t_test (ev_notInS (w := w) (L := L) (k := k) (ev_n rfl rfl) (ev_n rfl hst))) (fun hb H3 e5 => ?_) (fun hb H3 e5 => ?_)
    · refine s_set (ev_call0 (runF x (wd.take k) 0 (has L), d) (es_cons (ev_n rfl ((ti _).up (e4.trans e5) hrv)) (es1 (ev_n (R := nn d) rfl rfl))) rfl ⟨by show d + 1 < _; rw [hRk.len]; exact hdn, by show _ ≤ 1000; rw [hRk.len]; omega⟩) fun v H4 e6 hv => ?_
      refine ⟨((e3.trans e4).trans e5).trans e6, v, _, _, rfl, ?_⟩
      rw [runF_snoc hd, if_neg (by simpa using hb)]
      exact hv
    · refine ⟨(e3.trans e4).trans e5, rv, _, _, rfl, ?_⟩
      rw [runF_snoc hd, if_pos (by simpa using hb)]
      exact (ti _).up (e4.trans e5) hrv
  · rintro σ' H' ⟨e3, rv, a, b, rfl, hrv⟩
    rw [List.length_map, iv_len, List.take_length] at hrv
    exact s_ret (ev_n rfl hrv) fun v H3 e4 hv => hk v H3 (((e1.trans e2).trans e3).trans e4) hv
abbrev sp_counts_below : Sp := Pm (fun d : List Int × Nat => d.1.length ≤ 7) (fun d => [ti d.1, nn d.2]) (fun d => ls ((List.range (d.1.length + 1)).map fun v => nn (cnt d.1 d.2 v)))
theorem ok_counts_below (C : Ctx K mg) : Ok P w K mg base 1 "counts_below" (He.fAd K d_counts_below.at_) P_counts_below [] sp_counts_below := by
  refine mkPm C.a_counts_below C.f_counts_below sc_counts_below (fun _ _ _ _ _ _ us hl => match us, hl with | [_, _], _ => rfl) (fun _ => rfl) fun cdv A outer s H vs Q E hr ⟨x, i⟩ hl hv hk => ?_
  obtain ⟨xv, _, rfl, hx, rfl⟩ := rels2 hv
  have hl : x.length ≤ 7 := hl
  have hx : (ti x).h xv H := hx
  refine ⟨_, (pss_one (ps_ret (pe_lc (own := [("bound", 3)]) (g := gName 3) (tt := tYes) rfl sc_counts_below.nd (pi_range1 rfl C.g_range (pa_cons (pe_op op_add (pe_callB (kcall_len K) (by rfl) C.g_len PySem.boot_len (pa_cons (pv 0) pa_nil)) pe_int) pa_nil)) (blkOk_by (own := [("bound", 3)]) (N := N_counts_below) (sc := defScope s_counts_below) (by decide +kernel)) (fun _ _ _ _ _ => pg_name (i := 3) sc_counts_below.nd rfl (Or.inr rfl)) (fun _ _ _ _ _ => pts_nil) (fun _ _ _ _ _ => (pe_callB (kcall_len K) (by rfl) C.g_len PySem.boot_len (pa_cons (pe_lc (own := [("card", 2)]) (g := gName 2)  rfl sc_counts_below.nd (kpi_tup K (pe_slice (ksl_tupA K) (pv 0) po_none (po_some (pv 1)))) (blkOk_by (own := [("card", 2)]) (N := N_counts_below) (sc := (relS (lcSc (stV (stAt (defBody s_counts_below) [0]))) (defScope s_counts_below))) (by decide +kernel)) (fun _ _ _ _ _ => pg_name (i := 2) sc_counts_below.nd rfl (Or.inl rfl)) (fun _ _ _ _ _ => (pts_one (pt_cmpR op_lt (pv 2) (pv 3) (nomark _)))) (fun _ _ _ _ _ => (pv 2))) pa_nil)))))), ?_⟩
  refine s_ret (EvR.to (ev_lcR (x.length + 1) (fun v => nn (cnt x i v)) (fun _ => true) (es1 (ev_succ (ev_lenTi (ev_n rfl hx)))) (fun _ => im_nn) (by omega) fun v hv H1 e => body_n (fun _ => rfl) t_yes fun _ => ?_) (by rw [filter_yes])) hk
  refine (ev_lenL (ev_lcT (x.take i) ii ii (fun c => decide (c < (v : Int))) (ev_ti (ev_sl1 (ev_n rfl ((ti x).up e hx)) (eo_s (ev_n (R := nn i) rfl rfl)))) (fun _ => im_ii) (by rw [List.length_take]; omega) fun c hc cv H2 e2 hcv => body_n (fun _ => rfl) ?_ fun _ => ev_n rfl hcv)).to ?_
  · exact t_I (ev_n rfl hcv) (ev_n (R := nn v) rfl rfl)
  · rw [List.length_map]; rfl
theorem ok_lacks (C : Ctx K mg) : Ok P w K mg base 2 "lacks" (He.fAd K d_lacks.at_) P_lacks [] (Pm (fun d : Nat × List Int × List Int => d.2.1.length = d.1 ∧ d.2.2.length = d.1 ∧ d.1 ≤ 7) (fun d => [ti d.2.1, ti d.2.2]) (fun d => lk (farB d.1 d.2.1 d.2.2))) := by
  have O_counts_below := ok_counts_below (P := P) (w := w) (base := base) C
  refine mkPm C.a_lacks C.f_lacks sc_lacks (fun _ _ _ _ _ _ us hl => match us, hl with | [_, _], _ => rfl) (fun _ => rfl) fun cdv A outer s H vs Q E hr ⟨n, x, g⟩ ⟨hx1, hg1, hn⟩ hv hk => ?_
  obtain ⟨xv, gv, rfl, hx, hg⟩ := rels2 hv
  have hx1 : x.length = n := hx1
  have hg1 : g.length = n := hg1
  have hn : n ≤ 7 := hn
  have hx : (ti x).h xv H := hx
  have hg : (ti g).h gv H := hg
  have hk : ∀ v H', Ex H H' → (lk (farB n x g)).h v H' → Q v H' := hk
  refine ⟨_, (pss_cons (ps_for PassesOwn.never rfl (pi_range1 rfl C.g_range (pa_cons (pe_op op_add (pe_callB (kcall_len K) (by rfl) C.g_len PySem.boot_len (pa_cons (pv 0) pa_nil)) pe_int) pa_nil)) (pg_name (i := 2) sc_lacks.nd rfl (Or.inl rfl)) (pss_cons (ps_par (i := 3) (j := 4) (by rfl) sc_lacks.nd rfl rfl (by decide) rfl rfl (pa_cons (pcall O_counts_below (hr.mono (by decide)) (pa_cons (pv 0) (pa_cons (pv 2) pa_nil))) (pa_cons (pcall O_counts_below (hr.mono (by decide)) (pa_cons (pv 1) (pa_cons (pv 2) pa_nil))) pa_nil)) (by rfl))
    (pss_one (ps_for PassesOwn.never rfl (pi_range1 rfl C.g_range (pa_cons (pe_op op_add (pe_callB (kcall_len K) (by rfl) C.g_len PySem.boot_len (pa_cons (pv 0) pa_nil)) pe_int) pa_nil)) (pg_name (i := 5) sc_lacks.nd rfl (Or.inl rfl)) (pss_one (ps_if (pt_cmpR op_lt (pe_ix (kix_list K) (pv 3) (pv 5) (fun _ _ => rfl)) (pe_ix (kix_list K) (pv 4) (pv 5) (fun _ _ => rfl)) (nomark _)) (pss_one (ps_ret (pe_tup (pa_cons (pv 2) (pa_cons (pv 5) pa_nil))))) pss_nil))))))
    (pss_one (ps_ret pe_non))), ?_⟩
  refine q_of (s_forR (n := n + 1) (es1 ((ev_succ (ev_lenTi (ev_n rfl hx))).to (by rw [hx1]))) (by omega) fun H1 e1 => ⟨fun k σ' H' => Ex H1 H' ∧ (∃ a b c d, σ' = [some xv, some gv, a, b, c, d]) ∧ ∀ i, i < k → ∀ v, v ≤ n → cnt g i v ≤ cnt x i v, ?_⟩)
  refine ⟨⟨Ex.refl _, ⟨none, none, none, none, rfl⟩, fun i hi => by omega⟩, fun k σ' H' z => Ex.t z.1, ?_, ?_⟩
  · rintro k σ' H' hk' ⟨e2, ⟨a, b, c, d, rfl⟩, hi⟩
    have e12 := e1.trans e2
    have hx2 := (ti x).up e12 hx
    have hg2 := (ti g).up e12 hg
    have c1 : EvR (tCall sp_counts_below [] E0 (tCons (tVar 0) (tCons (tVar 2) tNil))) [some xv, some gv, some (V.int (k : Int)), b, c, d] H' (ls ((List.range (n + 1)).map fun v => nn (cnt x k v))) :=
      (ev_call0 (x, k) (es_cons (ev_n rfl hx2) (es1 (ev_n (R := nn k) rfl rfl))) rfl (by show x.length ≤ 7; omega)).to (by show ls _ = ls _; rw [hx1])
    have c2 : EvR (tCall sp_counts_below [] E0 (tCons (tVar 1) (tCons (tVar 2) tNil))) [some xv, some gv, some (V.int (k : Int)), b, c, d] H' (ls ((List.range (n + 1)).map fun v => nn (cnt g k v))) :=
      (ev_call0 (g, k) (es_cons (ev_n rfl hg2) (es1 (ev_n (R := nn k) rfl rfl))) rfl (by show g.length ≤ 7; omega)).to (by show ls _ = ls _; rw [hg1])
    refine q_par c1 c2 fun o t H3 e3 ho ht => ?_
    have hx3 := (ti x).up e3 hx2
    refine s_forR (n := n + 1) (es1 ((ev_succ (ev_lenTi (ev_n rfl hx3))).to (by rw [hx1]))) (by omega) fun H4 e4 => ⟨fun l σ' H' => Ex H4 H' ∧ (∃ d, σ' = [some xv, some gv, some (V.int (k : Int)), some o, some t, d]) ∧ ∀ v, v < l → cnt g k v ≤ cnt x k v, ?_⟩
    refine ⟨⟨Ex.refl _, ⟨_, rfl⟩, fun i hi => by omega⟩, fun k σ' H' z => Ex.t z.1, ?_, ?_⟩
    · rintro l σ' H5 hl' ⟨e5, ⟨d, rfl⟩, hj⟩
      have at1 : ((List.range (n + 1)).map fun v => nn (cnt x k v))[l]? = some (nn (cnt x k l)) := by rw [List.getElem?_map, List.getElem?_range hl']; rfl
      have at2 : ((List.range (n + 1)).map fun v => nn (cnt g k v))[l]? = some (nn (cnt g k l)) := by rw [List.getElem?_map, List.getElem?_range hl']; rfl
      refine s_when (t_ltN (ev_ixL (ev_n rfl ((ls _).up (e4.trans e5) ho)) (ev_n (R := nn l) rfl rfl) at1) (ev_ixL (ev_n rfl ((ls _).up (e4.trans e5) ht)) (ev_n (R := nn l) rfl rfl) at2)) (fun hb H6 e6 => ?_) (fun hb H6 e6 => ?_)
      · have hlt : cnt x k l < cnt g k l := of_decide_eq_true hb
        refine s_ret (ev_tup (es_cons (ev_n (R := nn k) rfl rfl) (es1 (ev_n (R := nn l) rfl rfl))) (by show 2 ≤ 100000; decide)) fun v H7 e7 hv => hk v H7 (((((e12.trans e3).trans e4).trans e5).trans e6).trans e7) ?_
        rw [not_farB (by omega) (by omega) hlt]
        obtain ⟨p, _, rfl, _⟩ := hv
        exact ⟨p, rfl⟩
      · refine ⟨e5.trans e6, ⟨_, rfl⟩, fun v hv => ?_⟩
        have hge : ¬ cnt x k l < cnt g k l := of_decide_eq_false hb
        by_cases he : v = l
        · subst he; omega
        · exact hj v (by omega)
    · rintro σ' H5 ⟨e5, ⟨d, rfl⟩, hj⟩
      refine ⟨((e2.trans e3).trans e4).trans e5, ⟨_, _, _, _, rfl⟩, fun i hi' v hv => ?_⟩
      by_cases he : i = k
      · subst he; exact hj v (by omega)
      · exact hi i (by omega) v hv
  · rintro σ' H' ⟨e2, ⟨a, b, c, d, rfl⟩, hi⟩
    have hf : farB n x g = true := farB_iff.mpr fun i hi' v hv => hi i (by omega) v hv
    dsimp only
    refine s_ret (ev_k (v := V.non)) fun v H3 e3 hv => ?_
    exact hk v H3 ((e1.trans e2).trans e3) (by rw [hf]; exact hv)
theorem ok_harmless (C : Ctx K mg) : Ok P w K mg base 4 "harmless" (He.fAd K d_harmless.at_) P_harmless [] (Pm (fun d : Nat × List Nat × List Int × List Nat => Wd d.1 d.2.1 ∧ d.1 ≤ 7 ∧ d.2.2.1.length = d.1 ∧ d.2.2.2.length ≤ 200) (fun d => [nn d.1, ti (iv d.2.1), ti d.2.2.1, ti (iv d.2.2.2)]) (fun d => bb (farB d.1 (runF (turned d.1) d.2.1 0 (has d.2.2.2)) d.2.2.1))) := by
  have O_lacks := ok_lacks (P := P) (w := w) (base := base) C
  have O_run_left := ok_run_left (P := P) (w := w) (base := base) C
  have O_turned_row := ok_turned_row (P := P) (w := w) (base := base) C
  refine mkPm C.a_harmless C.f_harmless sc_harmless (fun _ _ _ _ _ _ us hl => match us, hl with | [_, _, _, _], _ => rfl) (fun _ => rfl) fun cdv A outer s H vs Q E hr ⟨n, wd, g, L⟩ ⟨hW, hn, hg1, hL⟩ hv hk => ?_
  obtain ⟨_, wv, gv, lv, rfl, rfl, hw, hg, hl⟩ := rels4 hv
  refine ⟨_, (pss_one (ps_ret (pe_cmpR op_isN (pcall O_lacks (hr.mono (by decide)) (pa_cons (pcall O_run_left (hr.mono (by decide)) (pa_cons (pcall O_turned_row (hr.mono (by decide)) (pa_cons (pv 0) pa_nil)) (pa_cons (pv 1) (pa_cons (pv 3) pa_nil)))) (pa_cons (pv 2) pa_nil))) pe_non (nomark _)))), ?_⟩
  have hRr : Row n (runF (turned n) wd 0 (has L)) := runF_row hW (turned_row n)
  have h1 := ev_call0 (E := E0) (D := Nat × List Int × List Int) (pre := fun d => d.2.1.length = d.1 ∧ d.2.2.length = d.1 ∧ d.1 ≤ 7) (As := fun d => [ti d.2.1, ti d.2.2]) (Rf := fun d => lk (farB d.1 d.2.1 d.2.2)) (n, runF (turned n) wd 0 (has L), g)
    (es_cons (ev_call0 (E := E0) (pre := fun d : Nat × List Int × List Nat × List Nat => Row d.1 d.2.1 ∧ Wd d.1 d.2.2.1 ∧ d.1 ≤ 7 ∧ d.2.2.2.length ≤ 200) (As := fun d => [ti d.2.1, ti (iv d.2.2.1), ti (iv d.2.2.2)]) (Rf := fun d => ti (runF d.2.1 d.2.2.1 0 (has d.2.2.2))) (n, turned n, wd, L)
      (es_cons (ev_call0 (E := E0) (pre := fun n : Nat => n ≤ 7) (As := fun n : Nat => [nn n]) (Rf := fun n => ti (turned n)) n (es1 (ev_n (σ := L2.start N_harmless [V.int (n : Int), wv, gv, lv]) (i := 0) (R := nn n) rfl rfl)) rfl hn) (es_cons (ev_n (i := 1) rfl hw) (es1 (ev_n (i := 3) rfl hl)))) rfl ⟨turned_row n, hW, hn, hL⟩) (es1 (ev_n (i := 2) rfl hg))) rfl ⟨hRr.len, hg1, hn⟩
  refine s_ret (ev_o h1 ev_k fun x y H1 _ hx hy Q' q => ⟨hy, q _ H1 (Ex.refl _) ?_⟩) hk
  show V.bl (decide (x = V.non)) = V.bl (farB n (runF (turned n) wd 0 (has L)) g)
  have hx : (if farB n (runF (turned n) wd 0 (has L)) g = true then x = V.non else ∃ a, x = V.ref a) := hx
  congr 1
  by_cases hb : farB n (runF (turned n) wd 0 (has L)) g = true
  · rw [if_pos hb] at hx
    rw [hb, hx]; rfl
  · rw [if_neg hb] at hx
    obtain ⟨a, rfl⟩ := hx
    simp only [Bool.not_eq_true] at hb
    rw [hb]; rfl
theorem ok_need_short (C : Ctx K mg) : Ok P w K mg base 4 "need_short" (He.fAd K d_need_short.at_) P_need_short [] (Pm (fun d : Nat × List Nat => Wd d.1 d.2 ∧ d.2.length ≤ 40 ∧ 1 ≤ d.1 ∧ d.1 ≤ 7) (fun d => [nn d.1, ti (iv d.2)]) (fun _ => is .non)) := by
  have O_need_cards := ok_need_cards (P := P) (w := w) (base := base) C
  have O_need_word := ok_need_word (P := P) (w := w) (base := base) C
  obtain ⟨t7, m_MOST_SHORT⟩ := C.c_MOST_SHORT
  refine mkPm C.a_need_short C.f_need_short sc_need_short (fun _ _ _ _ _ _ us hl => match us, hl with | [_, _], _ => rfl) (fun _ => rfl) fun cdv A outer s H vs Q E hr ⟨n, wd⟩ ⟨hW, hl, h1, h7⟩ hv hk => ?_
  obtain ⟨_, wv, rfl, rfl, hw⟩ := rels2 hv
  have hl : wd.length ≤ 40 := hl
  refine ⟨_, (pss_cons (ps_expr (pcall O_need_cards (hr.mono (by decide)) (pa_cons (pv 0) pa_nil)))
    (pss_cons (ps_expr (pcall O_need_word (hr.mono (by decide)) (pa_cons (pv 0) (pa_cons (pv 1) pa_nil))))
    (pss_one (ps_if (pt_cmpR op_gt (pe_callB (kcall_len K) (by rfl) C.g_len PySem.boot_len (pa_cons (pv 1) pa_nil)) (pe_glob (v := V.int 40) rfl m_MOST_SHORT ⟨_, rfl⟩) (nomark _)) (pss_one ps_never) pss_nil)))), ?_⟩
  refine q_drop (ev_call0 n (es1 (ev_n (R := nn n) rfl rfl)) rfl ⟨h1, h7⟩) fun H1 e1 => ?_
  have hw1 := (ti _).up e1 hw
  refine q_drop (ev_call (n, wd) (es_cons (ev_n (R := nn n) rfl rfl) (es1 (ev_n rfl hw1))) rfl ⟨hW, by show wd.length ≤ 200; omega⟩) fun H2 e2 => ?_
  refine s_skip (t_is (t_I (ev_lenTi (ev_n rfl ((ti _).up e2 hw1))) (ev_k (v := V.int 40))) ?_) fun H3 e3 => hk _ _ ((e1.trans e2).trans e3) rfl
  show decide ((40 : Int) < ((iv wd).length : Int)) = false
  rw [decide_eq_false_iff_not, iv_len]; omega
theorem ok_need_case (C : Ctx K mg) : Ok P w K mg base 5 "need_case" (He.fAd K d_need_case.at_) P_need_case [] (Pm (fun d : Nat × List Nat × List Int => Wd d.1 d.2.1 ∧ d.2.1.length ≤ 40 ∧ 1 ≤ d.1 ∧ d.1 ≤ 7 ∧ Row d.1 d.2.2) (fun d => [nn d.1, ti (iv d.2.1), ti d.2.2]) (fun _ => is .non)) := by
  have O_need_short := ok_need_short (P := P) (w := w) (base := base) C
  have O_need_goal := ok_need_goal (P := P) (w := w) (base := base) C
  refine mkPm C.a_need_case C.f_need_case sc_need_case (fun _ _ _ _ _ _ us hl => match us, hl with | [_, _, _], _ => rfl) (fun _ => rfl) fun cdv A outer s H vs Q E hr ⟨n, wd, g⟩ ⟨hW, hl, h1, h7, hg1⟩ hv hk => ?_
  obtain ⟨_, wv, gv, rfl, rfl, hw, hg⟩ := rels3 hv
  refine ⟨_, (pss_cons (ps_expr (pcall O_need_short (hr.mono (by decide)) (pa_cons (pv 0) (pa_cons (pv 1) pa_nil))))
    (pss_one (ps_expr (pcall O_need_goal (hr.mono (by decide)) (pa_cons (pv 0) (pa_cons (pv 2) pa_nil)))))), ?_⟩
  refine q_drop (ev_call0 (n, wd) (es_cons (ev_n (R := nn n) rfl rfl) (es1 (ev_n rfl hw))) rfl ⟨hW, hl, h1, h7⟩) fun H1 e1 => ?_
  refine s_drop (ev_call0 (n, g) (es_cons (ev_n (R := nn n) rfl rfl) (es1 (ev_n rfl ((ti _).up e1 hg)))) rfl ⟨hg1, h7⟩) fun H2 e2 => hk _ _ (e1.trans e2) rfl
theorem ok_is_within (C : Ctx K mg) : Ok P w K mg base 1 "is_within" (He.fAd K d_is_within.at_) P_is_within [] (Pm (fun d : List Nat × List Nat => d.1.length ≤ 200) (fun d => [ti (iv d.1), ti (iv d.2)]) (fun d => bb (d.1.all (has d.2)))) := by
  refine mkPm C.a_is_within C.f_is_within sc_is_within (fun _ _ _ _ _ _ us hl => match us, hl with | [_, _], _ => rfl) (fun _ => rfl) fun cdv A outer s H vs Q E hr ⟨x, y⟩ hl hv hk => ?_
  obtain ⟨xv, yv, rfl, hx, hy⟩ := rels2 hv
  have hl : x.length ≤ 200 := hl
  refine ⟨_, (pss_one (ps_ret (pe_callB (kcr_all K rfl) (by rfl) C.g_all (by decide +kernel) (pa_cons (pe_lc (own := [("place", 2)]) (g := gName 2) (tt := tYes) rfl sc_is_within.nd (kpi_tup K (pv 0)) (blkOk_by (own := [("place", 2)]) (N := N_is_within) (sc := defScope s_is_within) (by decide +kernel)) (fun _ _ _ _ _ => pg_name (i := 2) sc_is_within.nd rfl (Or.inl rfl)) (fun _ _ _ _ _ => pts_nil) (fun _ _ _ _ _ => (pe_cmpR (kin_seq K) (pv 2) (pv 1) (by rfl)))) pa_nil)))), ?_⟩
  refine s_ret (ev_allP (its := x) (p := has y) (ev_lcT x nn (fun a => bb (has y a)) (fun _ => true) (ev_tin (ev_n rfl hx)) (fun _ => im_bb) (by omega) fun a ha v H' e hv => body_n (fun _ => rfl) t_yes fun _ => ev_inT (ev_n rfl hv) (ev_n rfl ((ti (iv y)).up e hy)))) hk
end Wk
set_option Elab.async false
set_option linter.all false
set_option maxRecDepth 100000
set_option maxHeartbeats 2000000
namespace Wk
open PySem PySem.Spec PyProof.Rows L2 Evl SSort
section
variable {K : PySem.W.Frag} {σ : L2.St} {H : Hp} {te ta tb tl : TE} {A B R : Rel}
/-- tuple of a list's items -/
theorem ev_tupOf {Rs : List Rel} (h : EvR te σ H (ls Rs)) : EvR (tCB (rTupOf K) (tCons te tNil)) σ H (tp Rs) := ev_cb (es1 h) fun us H1 e hv Q q => by
  obtain ⟨_, rfl, p, ys, rfl, hp, hr⟩ := rels1 hv
  exact ⟨p, ys, rfl, .inl ⟨SqL.of hp, fun l hl => q _ _ (Ex.new hl) ⟨l, ys, rfl, upd_same, hr.up (Ex.new hl)⟩⟩⟩
theorem ev_listOfT {Rs : List Rel} (h : EvR te σ H (tp Rs)) : EvR (tCB (rListOf K) (tCons te tNil)) σ H (ls Rs) := ev_cb (es1 h) fun us H1 e hv Q q => by
  obtain ⟨_, rfl, p, ys, rfl, hp, hr⟩ := rels1 hv
  exact ⟨p, ys, rfl, .inr (SqT.of hp), fun l hl => q _ _ (Ex.new hl) ⟨l, ys, rfl, upd_same, hr.up (Ex.new hl)⟩⟩
/-- lists one after the other -/
theorem ev_cat {Rs Ss : List Rel} (ha : EvR ta σ H (ls Rs)) (hb : EvR tb σ H (ls Ss)) (hl : Rs.length + Ss.length ≤ 100000) : EvR (tOp rCat ta tb) σ H (ls (Rs ++ Ss)) :=
  ev_o ha hb fun x y H1 _ ⟨a, xs, hx, h1, r1⟩ ⟨b, ys, hy, h2, r2⟩ Q q => ⟨a, b, xs, ys, hx, hy, h1, h2, sz_of (by rw [← rels_len r1, ← rels_len r2]; exact hl), fun p hp => q _ _ (Ex.new hp) ⟨p, _, rfl, upd_same, (rels_app r1 r2).up (Ex.new hp)⟩⟩
theorem ev_tupI {ta : TA} {ns : List Int} (h : EvRs ta σ H (ns.map ii)) (hl : ns.length ≤ 100000) : EvR (tTup ta) σ H (ti ns) := ev_tip (ev_tup h (by rw [List.length_map]; exact hl))
theorem ev_catI {xs ys : List Int} (ha : EvR ta σ H (ti xs)) (hb : EvR tb σ H (ti ys)) (hl : xs.length + ys.length ≤ 100000) : EvR (tOp (rCatA K) ta tb) σ H (ti (xs ++ ys)) :=
  (ev_catT ha hb (by simp; exact hl)).to (by unfold ti; rw [List.map_append])
end
/-- the subsets in the order of the law -/
def subs : Nat → List (List Nat)
  | 0 => [[]]
  | m + 1 => subs m ++ (subs m).map (· ++ [m])
theorem subs_len : ∀ m, (subs m).length = 2 ^ m
  | 0 => rfl
  | m + 1 => by rw [subs, List.length_append, List.length_map, subs_len m, Nat.pow_succ]; omega
theorem subs_lot : ∀ {m : Nat} {L : List Nat}, L ∈ subs m ↔ Lot m L
  | 0, L => by
    unfold subs Lot
    constructor
    · intro h
      rw [List.mem_singleton] at h
      subst h
      exact ⟨.nil, fun _ h => by cases h⟩
    · rintro ⟨_, h⟩
      cases L with
      | nil => exact List.mem_singleton.mpr rfl
      | cons a L => exact absurd (h a List.mem_cons_self) (by omega)
  | m + 1, L => by
    unfold subs
    rw [List.mem_append, List.mem_map, subs_lot]
    constructor
    · rintro (h | ⟨J, hJ, rfl⟩)
      · exact ⟨h.1, fun p hp => by have := h.2 p hp; omega⟩
      · rw [subs_lot] at hJ
        refine ⟨List.pairwise_append.mpr ⟨hJ.1, List.pairwise_singleton .., fun a ha b hb => ?_⟩, fun p hp => ?_⟩
        · rw [List.mem_singleton] at hb
          subst hb; exact hJ.2 a ha
        · rcases List.mem_append.mp hp with h | h
          · have := hJ.2 p h; omega
          · rw [List.mem_singleton] at h; omega
    · rintro ⟨h1, h2⟩
      rcases List.eq_nil_or_concat L with rfl | ⟨J, a, rfl⟩
      · exact .inl ⟨.nil, fun _ h => by cases h⟩
      · rw [List.concat_eq_append] at h1 h2 ⊢
        have h3 := List.pairwise_append.mp h1
        have ha := h2 a (by simp)
        by_cases he : a = m
        · subst he
          exact .inr ⟨J, subs_lot.mpr ⟨h3.1, fun p hp => h3.2.2 p hp _ (List.mem_singleton.mpr rfl)⟩, rfl⟩
        · refine .inl ⟨h1, fun p hp => ?_⟩
          rcases List.mem_append.mp hp with h | h
          · have := h3.2.2 p h a (List.mem_singleton.mpr rfl); omega
          · rw [List.mem_singleton] at h; omega
variable {P : Program} {w : World} {K : PySem.W.Frag} {mg : Str → Option Value} {base : Heap}
theorem ok__law_turned (C : Ctx K mg) : Ok P w K mg base 1 "_law_turned" (He.fAd K d__law_turned.at_) P__law_turned [] (Pm (fun n : Nat => n ≤ 7) (fun n : Nat => [nn n]) (fun n => ti (turned n))) := by
  refine mkPm C.a__law_turned C.f__law_turned sc__law_turned (fun _ _ _ _ _ _ us hl => match us, hl with | [_], _ => rfl) (fun _ => rfl) fun cdv A outer s H vs Q E hr n hn hv hk => ?_
  obtain ⟨_, rfl, rfl⟩ := rels1 hv
  have hn : n ≤ 7 := hn
  refine ⟨_, (pss_one (ps_ret (pe_callTy (kcall_tuple_of K) (by rfl) C.g_tuple (by decide +kernel) (pa_cons (pe_lc (own := [("_law_card", 1)]) (g := gName 1) (tt := tYes) rfl sc__law_turned.nd (pi_range1 rfl C.g_range (pa_cons (pv 0) pa_nil)) (blkOk_by (own := [("_law_card", 1)]) (N := N__law_turned) (sc := defScope s__law_turned) (by decide +kernel)) (fun _ _ _ _ _ => pg_name (i := 1) sc__law_turned.nd rfl (Or.inl rfl)) (fun _ _ _ _ _ => pts_nil) (fun _ _ _ _ _ => (pe_op op_sub (pe_op op_sub (pv 0) pe_int) (pv 1)))) pa_nil)))), ?_⟩
  refine s_ret (ev_tip (x := turned n) ((ev_tupOf (ev_lcR n (fun k => ii ((n : Int) - 1 - (k : Int))) (fun _ => true) (es1 (ev_n (R := nn n) rfl rfl)) (fun _ => im_ii) (by omega) fun k hk' H' e => body_n (fun _ => rfl) t_yes fun _ => ?_)).to ?_)) hk
  · exact ev_I (g := fun i j => .int (i - j)) (ev_I (g := fun i j => .int (i - j)) (ev_n (R := nn n) rfl rfl) ev_k) (ev_n (R := nn k) rfl rfl)
  · rw [filter_yes]; unfold turned; rw [List.map_map]; rfl
theorem ok__law_swap (C : Ctx K mg) : Ok P w K mg base 1 "_law_swap" (He.fAd K d__law_swap.at_) P__law_swap [] (Pm (fun d : List Int × Nat => d.2 + 1 < d.1.length ∧ d.1.length ≤ 1000) (fun d => [ti d.1, nn d.2]) (fun d => ti (exch d.1 d.2))) := by
  refine mkPm C.a__law_swap C.f__law_swap sc__law_swap (fun _ _ _ _ _ _ us hl => match us, hl with | [_, _], _ => rfl) (fun _ => rfl) fun cdv A outer s H vs Q E hr ⟨x, k⟩ ⟨hp, hl⟩ hv hk => ?_
  obtain ⟨xv, _, rfl, hx, rfl⟩ := rels2 hv
  have hp : k + 1 < x.length := hp
  have hl : x.length ≤ 1000 := hl
  refine ⟨_, (pss_one (ps_ret (pe_op (kcatA K) (pe_op (kcatA K) (pe_slice (ksl_tupA K) (pv 0) po_none (po_some (pv 1))) (pe_tup (pa_cons (pe_ix (kix_tup K) (pv 0) (pe_op op_add (pv 1) pe_int) (fun _ _ => rfl)) (pa_cons (pe_ix (kix_tup K) (pv 0) (pv 1) (fun _ _ => rfl)) pa_nil)))) (pe_slice (ksl_tupA K) (pv 0) (po_some (pe_op op_add (pv 1) pe_int)) po_none)))), ?_⟩
  have hx : (ti x).h xv H := hx
  refine s_ret (R := ti (exch x k)) ?_ hk
  have h2 : EvR (tOp (rI0 fun i j => .int (i + j)) (tVar 1) (tC (.int 2))) (L2.start N__law_swap [xv, V.int (k : Int)]) H (nn (k + 2)) := ev_I (g := fun i j => .int (i + j)) (i := (k : Int)) (j := 2) (ev_n rfl rfl) ev_k
  refine (ev_catI (ev_catI (ev_sl1 (ev_n (i := 0) rfl hx) (eo_s (ev_n (i := 1) (R := nn k) rfl rfl))) (ev_tupI (ns := [gd x (k+1), gd x k]) (es_cons (ev_gd (ev_n (i := 0) rfl hx) (ev_succ (ev_n (i := 1) (R := nn k) rfl rfl)) hp) (es1 (ev_gd (ev_n (i := 0) rfl hx) (ev_n (i := 1) (R := nn k) rfl rfl) (by omega)))) (by show 2 ≤ 100000; decide)) ?_) (ev_sl2 (ev_n (i := 0) rfl hx) (eo_s h2)) ?_)
  · simp; omega
  · simp; omega
theorem ok__law_run (C : Ctx K mg) : Ok P w K mg base 2 "_law_run" (He.fAd K d__law_run.at_) P__law_run [] (Pm (fun d : Nat × List Int × List Nat × List Nat => Row d.1 d.2.1 ∧ Wd d.1 d.2.2.1 ∧ d.1 ≤ 7) (fun d => [ti d.2.1, ti (iv d.2.2.1), ti (iv d.2.2.2)]) (fun d => ti (runF d.2.1 d.2.2.1 0 (has d.2.2.2)))) := by
  have O__law_swap := ok__law_swap (P := P) (w := w) (base := base) C
  refine mkPm C.a__law_run C.f__law_run sc__law_run (fun _ _ _ _ _ _ us hl => match us, hl with | [_, _, _], _ => rfl) (fun _ => rfl) fun cdv A outer s H vs Q E hr ⟨n, x, wd, L⟩ ⟨hR, hW, hn⟩ hv hk => ?_
  obtain ⟨xv, wv, lv, rfl, hx, hw, hl⟩ := rels3 hv
  have hR : Row n x := hR
  have hW : Wd n wd := hW
  have hn : n ≤ 7 := hn
  refine ⟨_, (pss_cons (ps_for PassesOwn.never rfl (kpi_enumT K (by rfl) C.g_enumerate (pa_cons (pv 1) pa_nil)) (kpg_tup K rfl (pgs_cons (pg_name (i := 3) sc__law_run.nd rfl (Or.inl rfl)) (pgs_cons (pg_name (i := 4) sc__law_run.nd rfl (Or.inl rfl)) pgs_nil))) (pss_one (ps_if (PW.pt (pw_and (pt_cmpR (knotIn_seq K) (pv 3) (pv 2) (by rfl)) (pw_and1 (pt_cmpR op_gt (pe_ix (kix_tup K) (pv 0) (pv 4) (fun _ _ => rfl)) (pe_ix (kix_tup K) (pv 0) (pe_op op_add (pv 4) pe_int) (fun _ _ => rfl)) (nomark _))))) (pss_one (ps_set (i := 0) sc__law_run.nd rfl (Or.inl rfl) (pcall O__law_swap (hr.mono (by decide)) (pa_cons (pv 0) (pa_cons (pv 4) pa_nil))))) pss_nil)))
    (pss_one (ps_ret (pv 0)))), ?_⟩
  refine q_of (s_forE (xs := (iv wd).map V.int) (es1 (ev_n rfl hw)) fun H2 e2 => ⟨fun k σ' H' => Ex H2 H' ∧ ∃ rv a b, σ' = [some rv, some wv, some lv, a, b] ∧ (ti (runF x (wd.take k) 0 (has L))).h rv H', ?_⟩)
  refine ⟨⟨Ex.refl _, xv, none, none, rfl, (ti x).up e2 hx⟩, fun k σ' H' z => Ex.t z.1, ?_, ?_⟩
  · rintro k σ' H' hk' ⟨e3, rv, a, b, rfl, hrv⟩ y H'' hy e4
    obtain ⟨d, hd, rfl⟩ := iv_at hy
    have hdn : d + 1 < n := hW d (List.mem_of_getElem? hd)
    have hRk : Row n (runF x (wd.take k) 0 (has L)) := runF_row (fun s hs => hW s (List.mem_of_mem_take hs)) hR
    have hst := (ti (iv L)).up ((e2.trans e3).trans e4) hl
    have hrv4 := (ti _).up e4 hrv
    refine s_when (et_and (t_test (ev_notInT (L := L) (k := k) (ev_n rfl rfl) (ev_n rfl hst))) fun _ => (t_I (p := fun i j => decide (j < i)) (ev_gd (ev_n rfl hrv4) (ev_n (R := nn d) rfl rfl) (by rw [hRk.len]; omega)) (ev_gd (ev_n rfl hrv4) (ev_succ (ev_n (R := nn d) rfl rfl)) (by rw [hRk.len]; omega)) : EvT _ _ _ (desc (runF x (wd.take k) 0 (has L)) d))) (fun hb H3 e5 => ?_) (fun hb H3 e5 => ?_)
    · have hb : (!has L k && desc (runF x (wd.take k) 0 (has L)) d) = true := hb
      rw [Bool.and_eq_true] at hb
      refine s_set (ev_call0 (runF x (wd.take k) 0 (has L), d) (es_cons (ev_n rfl ((ti _).up (e4.trans e5) hrv)) (es1 (ev_n (R := nn d) rfl rfl))) rfl ⟨by show d + 1 < _; rw [hRk.len]; exact hdn, by show _ ≤ 1000; rw [hRk.len]; omega⟩) fun v H4 e6 hv => ?_
      refine ⟨((e3.trans e4).trans e5).trans e6, v, _, _, rfl, ?_⟩
      rw [runF_snoc hd, if_neg (by simpa using hb.1)]
      unfold dn
      rw [if_pos hb.2]
      exact hv
    · have hb : (!has L k && desc (runF x (wd.take k) 0 (has L)) d) = false := hb
      refine ⟨(e3.trans e4).trans e5, rv, _, _, rfl, ?_⟩
      rw [runF_snoc hd]
      by_cases hc : has L k = true
      · rw [if_pos hc]
        exact (ti _).up (e4.trans e5) hrv
      · rw [if_neg hc]
        have hd' : desc (runF x (wd.take k) 0 (has L)) d = false := by
          simp only [Bool.not_eq_true] at hc
          rw [hc] at hb
          simpa using hb
        unfold dn
        rw [hd', if_neg (by decide)]
        exact (ti _).up (e4.trans e5) hrv
  · rintro σ' H' ⟨e3, rv, a, b, rfl, hrv⟩
    rw [List.length_map, iv_len, List.take_length] at hrv
    dsimp only
    exact s_ret (ev_n rfl hrv) fun v H3 e4 hv => hk v H3 ((e2.trans e3).trans e4) hv
theorem ok__law_end (C : Ctx K mg) : Ok P w K mg base 3 "_law_end" (He.fAd K d__law_end.at_) P__law_end [] (Pm (fun d : Nat × List Nat × List Nat => Wd d.1 d.2.1 ∧ d.1 ≤ 7) (fun d => [ti (iv d.2.1), ti (iv d.2.2), nn d.1]) (fun d => ti (runF (turned d.1) d.2.1 0 (has d.2.2)))) := by
  have O__law_run := ok__law_run (P := P) (w := w) (base := base) C
  have O__law_turned := ok__law_turned (P := P) (w := w) (base := base) C
  refine mkPm C.a__law_end C.f__law_end sc__law_end (fun _ _ _ _ _ _ us hl => match us, hl with | [_, _, _], _ => rfl) (fun _ => rfl) fun cdv A outer s H vs Q E hr ⟨n, wd, L⟩ ⟨hW, hn⟩ hv hk => ?_
  obtain ⟨wv, lv, _, rfl, hw, hl, rfl⟩ := rels3 hv
  refine ⟨_, (pss_one (ps_ret (pcall O__law_run (hr.mono (by decide)) (pa_cons (pcall O__law_turned (hr.mono (by decide)) (pa_cons (pv 2) pa_nil)) (pa_cons (pv 0) (pa_cons (pv 1) pa_nil)))))), ?_⟩
  exact s_ret (ev_call0 (n, turned n, wd, L) (es_cons (ev_call0 n (es1 (ev_n (R := nn n) rfl rfl)) rfl hn) (es_cons (ev_n rfl hw) (es1 (ev_n rfl hl)))) rfl ⟨turned_row n, hW, hn⟩) hk
theorem ok__law_far (C : Ctx K mg) : Ok P w K mg base 1 "_law_far" (He.fAd K d__law_far.at_) P__law_far [] (Pm (fun d : Nat × List Int × List Int => d.2.1.length = d.1 ∧ d.2.2.length = d.1 ∧ d.1 ≤ 7) (fun d => [ti d.2.1, ti d.2.2]) (fun d => bb (farB d.1 d.2.1 d.2.2))) := by
  refine mkPm C.a__law_far C.f__law_far sc__law_far (fun _ _ _ _ _ _ us hl => match us, hl with | [_, _], _ => rfl) (fun _ => rfl) fun cdv A outer s H vs Q E hr ⟨n, x, g⟩ ⟨hx1, hg1, hn⟩ hv hk => ?_
  obtain ⟨xv, gv, rfl, hx, hg⟩ := rels2 hv
  have hx1 : x.length = n := hx1
  have hg1 : g.length = n := hg1
  have hn : n ≤ 7 := hn
  have hx : (ti x).h xv H := hx
  have hg : (ti g).h gv H := hg
  have hk : ∀ v H', Ex H H' → (bb (farB n x g)).h v H' → Q v H' := hk
  refine ⟨_, (pss_cons (ps_for PassesOwn.never rfl (pi_range1 rfl C.g_range (pa_cons (pe_op op_add (pe_callB (kcall_len K) (by rfl) C.g_len PySem.boot_len (pa_cons (pv 0) pa_nil)) pe_int) pa_nil)) (pg_name (i := 2) sc__law_far.nd rfl (Or.inl rfl)) (pss_one (ps_for PassesOwn.never rfl (pi_range1 rfl C.g_range (pa_cons (pe_op op_add (pe_callB (kcall_len K) (by rfl) C.g_len PySem.boot_len (pa_cons (pv 0) pa_nil)) pe_int) pa_nil)) (pg_name (i := 3) sc__law_far.nd rfl (Or.inr rfl)) (pss_one (ps_if (pt_cmpR op_lt (pe_callB (kcall_len K) (by rfl) C.g_len PySem.boot_len (pa_cons (pe_lc (own := [("_law_card", 4)]) (g := gName 4)  rfl sc__law_far.nd (kpi_tup K (pe_slice (ksl_tupA K) (pv 0) po_none (po_some (pv 2)))) (blkOk_by (own := [("_law_card", 4)]) (N := N__law_far) (sc := defScope s__law_far) (by decide +kernel)) (fun _ _ _ _ _ => pg_name (i := 4) sc__law_far.nd rfl (Or.inl rfl)) (fun _ _ _ _ _ => (pts_one (pt_cmpR op_lt (pv 4) (pv 3) (nomark _)))) (fun _ _ _ _ _ => (pv 4))) pa_nil)) (pe_callB (kcall_len K) (by rfl) C.g_len PySem.boot_len (pa_cons (pe_lc (own := [("_law_card", 4)]) (g := gName 4)  rfl sc__law_far.nd (kpi_tup K (pe_slice (ksl_tupA K) (pv 1) po_none (po_some (pv 2)))) (blkOk_by (own := [("_law_card", 4)]) (N := N__law_far) (sc := defScope s__law_far) (by decide +kernel)) (fun _ _ _ _ _ => pg_name (i := 4) sc__law_far.nd rfl (Or.inl rfl)) (fun _ _ _ _ _ => (pts_one (pt_cmpR op_lt (pv 4) (pv 3) (nomark _)))) (fun _ _ _ _ _ => (pv 4))) pa_nil)) (nomark _)) (pss_one (ps_ret pe_bl)) pss_nil)))))
    (pss_one (ps_ret pe_bl))), ?_⟩
  refine q_of (s_forR (n := n + 1) (es1 ((ev_succ (ev_lenTi (ev_n rfl hx))).to (by rw [hx1]))) (by omega) fun H1 e1 => ⟨fun k σ' H' => Ex H1 H' ∧ (∃ a b, σ' = [some xv, some gv, a, b, none]) ∧ ∀ i, i < k → ∀ v, v ≤ n → cnt g i v ≤ cnt x i v, ?_⟩)
  refine ⟨⟨Ex.refl _, ⟨none, none, rfl⟩, fun i hi => by omega⟩, fun k σ' H' z => Ex.t z.1, ?_, ?_⟩
  · rintro k σ' H' hk' ⟨e2, ⟨a, b, rfl⟩, hi⟩
    have e12 := e1.trans e2
    have hx3 := (ti x).up e12 hx
    have hg3 := (ti g).up e12 hg
    refine s_forR (n := n + 1) (es1 ((ev_succ (ev_lenTi (ev_n rfl hx3))).to (by rw [hx1]))) (by omega) fun H4 e4 => ⟨fun l σ' H' => Ex H4 H' ∧ (∃ d, σ' = [some xv, some gv, some (V.int (k : Int)), d, none]) ∧ ∀ v, v < l → cnt g k v ≤ cnt x k v, ?_⟩
    refine ⟨⟨Ex.refl _, ⟨_, rfl⟩, fun i hi => by omega⟩, fun k σ' H' z => Ex.t z.1, ?_, ?_⟩
    · rintro l σ' H5 hl' ⟨e5, ⟨d, rfl⟩, hj⟩
      have q : ∀ (z : List Int) (j : Nat) (zv : V), z.length ≤ 7 → j < 2 → (ti z).h zv H5 → ([some xv, some gv, some (V.int (k : Int)), some (V.int (l : Int)), none] : L2.St)[j]? = some (some zv) →
          EvR (tCB (rLn K) (tCons (tLc (iTup K (tSl (rSlA K) (tVar j) tNoPart (tPart (tVar 2)))) (gName 4) (tTest (tOp (rI0 fun i j => .bl (decide (i < j))) (tVar 4) (tVar 3))) (tVar 4) [4]) tNil)) [some xv, some gv, some (V.int (k : Int)), some (V.int (l : Int)), none] H5 (nn (cnt z k l)) := by
        intro z j zv hz hj2 hzv hs
        refine (ev_lenL (ev_lcT (z.take k) ii ii (fun c => decide (c < (l : Int))) (ev_ti (ev_sl1 (ev_n hs hzv) (eo_s (ev_n (R := nn k) rfl rfl)))) (fun _ => im_ii) (by rw [List.length_take]; omega) fun c hc cv H2 e2 hcv => body_n (fun _ => rfl) ?_ fun _ => ev_n rfl hcv)).to ?_
        · exact t_I (ev_n rfl hcv) (ev_n (R := nn l) rfl rfl)
        · rw [List.length_map]; rfl
      refine s_when (t_ltN (q x 0 xv (by omega) (by omega) ((ti x).up (e4.trans e5) hx3) rfl) (q g 1 gv (by omega) (by omega) ((ti g).up (e4.trans e5) hg3) rfl)) (fun hb H6 e6 => ?_) (fun hb H6 e6 => ?_)
      · have hlt : cnt x k l < cnt g k l := of_decide_eq_true hb
        refine s_ret (ev_k (v := V.bl false)) fun v H7 e7 hv => hk v H7 ((((e12.trans e4).trans e5).trans e6).trans e7) ?_
        rw [not_farB (by omega) (by omega) hlt]
        exact hv
      · refine ⟨e5.trans e6, ⟨_, rfl⟩, fun v hv => ?_⟩
        have hge : ¬ cnt x k l < cnt g k l := of_decide_eq_false hb
        by_cases he : v = l
        · subst he; omega
        · exact hj v (by omega)
    · rintro σ' H5 ⟨e5, ⟨d, rfl⟩, hj⟩
      refine ⟨(e2.trans e4).trans e5, ⟨_, _, rfl⟩, fun i hi' v hv => ?_⟩
      by_cases he : i = k
      · subst he; exact hj v (by omega)
      · exact hi i (by omega) v hv
  · rintro σ' H' ⟨e2, ⟨a, b, rfl⟩, hi⟩
    have hf : farB n x g = true := farB_iff.mpr fun i hi' v hv => hi i (by omega) v hv
    dsimp only
    refine s_ret (ev_k (v := V.bl true)) fun v H3 e3 hv => ?_
    exact hk v H3 ((e1.trans e2).trans e3) (by rw [hf]; exact hv)
theorem ok__law_fine (C : Ctx K mg) : Ok P w K mg base 4 "_law_fine" (He.fAd K d__law_fine.at_) P__law_fine [] (Pm (fun d : Nat × List Nat × List Int × List Nat => Wd d.1 d.2.1 ∧ d.1 ≤ 7 ∧ d.2.2.1.length = d.1) (fun d => [nn d.1, ti (iv d.2.1), ti d.2.2.1, ti (iv d.2.2.2)]) (fun d => bb (farB d.1 (runF (turned d.1) d.2.1 0 (has d.2.2.2)) d.2.2.1))) := by
  have O__law_far := ok__law_far (P := P) (w := w) (base := base) C
  have O__law_end := ok__law_end (P := P) (w := w) (base := base) C
  refine mkPm C.a__law_fine C.f__law_fine sc__law_fine (fun _ _ _ _ _ _ us hl => match us, hl with | [_, _, _, _], _ => rfl) (fun _ => rfl) fun cdv A outer s H vs Q E hr ⟨n, wd, g, L⟩ ⟨hW, hn, hg1⟩ hv hk => ?_
  obtain ⟨_, wv, gv, lv, rfl, rfl, hw, hg, hl⟩ := rels4 hv
  refine ⟨_, (pss_one (ps_ret (pcall O__law_far (hr.mono (by decide)) (pa_cons (pcall O__law_end (hr.mono (by decide)) (pa_cons (pv 1) (pa_cons (pv 3) (pa_cons (pv 0) pa_nil)))) (pa_cons (pv 2) pa_nil))))), ?_⟩
  have hRr : Row n (runF (turned n) wd 0 (has L)) := runF_row hW (turned_row n)
  exact s_ret (ev_call0 (n, runF (turned n) wd 0 (has L), g) (es_cons (ev_call0 (n, wd, L) (es_cons (ev_n rfl hw) (es_cons (ev_n rfl hl) (es1 (ev_n (R := nn n) rfl rfl)))) rfl ⟨hW, hn⟩) (es1 (ev_n rfl hg))) rfl ⟨hRr.len, hg1, hn⟩) hk
theorem ok__law_subsets (C : Ctx K mg) : Ok P w K mg base 1 "_law_subsets" (He.fAd K d__law_subsets.at_) P__law_subsets [] (Pm (fun m : Nat => m ≤ 9) (fun m => [nn m]) (fun m => ls ((subs m).map fun L => ti (iv L)))) := by
  refine mkPm C.a__law_subsets C.f__law_subsets sc__law_subsets (fun _ _ _ _ _ _ us hl => match us, hl with | [_], _ => rfl) (fun _ => rfl) fun cdv A outer s H vs Q E hr m hm hv hk => ?_
  obtain ⟨_, rfl, rfl⟩ := rels1 hv
  have hm : m ≤ 9 := hm
  refine ⟨_, (pss_cons (ps_set (i := 1) sc__law_subsets.nd rfl (Or.inl rfl) (pe_lst (pa_cons (pe_tup pa_nil) pa_nil)))
    (pss_cons (ps_for PassesOwn.never rfl (pi_range1 rfl C.g_range (pa_cons (pv 0) pa_nil)) (pg_name (i := 2) sc__law_subsets.nd rfl (Or.inr rfl)) (pss_one (ps_set (i := 1) sc__law_subsets.nd rfl (Or.inl rfl) (pe_op op_cat (pv 1) (pe_lc (own := [("_law_lot_here", 3)]) (g := gName 3) (tt := tYes) rfl sc__law_subsets.nd (kpi_list K (pv 1)) (blkOk_by (own := [("_law_lot_here", 3)]) (N := N__law_subsets) (sc := defScope s__law_subsets) (by decide +kernel)) (fun _ _ _ _ _ => pg_name (i := 3) sc__law_subsets.nd rfl (Or.inl rfl)) (fun _ _ _ _ _ => pts_nil) (fun _ _ _ _ _ => (pe_op (kcatA K) (pv 3) (pe_tup (pa_cons (pv 2) pa_nil)))))))))
    (pss_one (ps_ret (pv 1))))), ?_⟩
  refine q_set (R := ls ((subs 0).map fun L => ti (iv L))) (ev_lst (es1 (ev_tupI (ns := []) es_nil (by decide))) (by decide)) fun fv H1 e1 hf => ?_
  refine q_of (s_forR (n := m) (es1 (ev_n (R := nn m) rfl rfl)) (by omega) fun H2 e2 => ⟨fun k σ' H' => Ex H2 H' ∧ ∃ v a, σ' = [some (V.int (m : Int)), some v, a, none] ∧ (ls ((subs k).map fun L => ti (iv L))).h v H', ?_⟩)
  refine ⟨⟨Ex.refl _, fv, none, rfl, (ls _).up e2 hf⟩, fun k σ' H' z => Ex.t z.1, ?_, ?_⟩
  · rintro k σ' H' hk' ⟨e3, v, a, rfl, hvk⟩
    have hl : (subs k).length ≤ 512 := by
      rw [subs_len]
      exact Nat.le_trans (Nat.pow_le_pow_right (by decide) (by omega : k ≤ 9)) (by decide)
    refine s_set (R := ls ((subs (k + 1)).map fun L => ti (iv L))) ?_ fun v2 H4 e4 hv2 => ⟨e3.trans e4, v2, _, rfl, hv2⟩
    refine EvR.to (ev_cat (ev_n rfl hvk) (ev_lcL (subs k) (fun L => ti (iv L)) (fun L => ti (iv L ++ [(k : Int)])) (fun _ => true) (ev_n rfl hvk) (fun _ => im_ti) (by omega) fun L hL lv H5 e5 hlv => body_n (fun _ => rfl) t_yes fun _ => ?_) ?_) ?_
    · refine ev_catI (ev_n rfl hlv) (ev_tupI (ns := [(k : Int)]) (es1 (ev_n (R := nn k) rfl rfl)) (by show 1 ≤ 100000; decide)) ?_
      have := (subs_lot.mp hL).len
      rw [iv_len]
      show L.length + 1 ≤ 100000
      omega
    · rw [filter_yes, List.length_map, List.length_map]; omega
    · rw [filter_yes, show subs (k + 1) = subs k ++ (subs k).map (· ++ [k]) from rfl, List.map_append, List.map_map]
      congr 2
      refine List.map_congr_left fun L _ => ?_
      show ti (iv L ++ [(k : Int)]) = ti (iv (L ++ [k]))
      unfold iv; rw [List.map_append]; rfl
  · rintro σ' H' ⟨e3, v, a, rfl, hvk⟩
    dsimp only
    exact s_ret (ev_n rfl hvk) fun v H3 e4 hv => hk v H3 (((e1.trans e2).trans e3).trans e4) hv
end Wk
set_option Elab.async false
set_option linter.all false
set_option maxRecDepth 100000
set_option maxHeartbeats 2000000
namespace Wk
open PySem PySem.Spec PyProof.Rows L2 Evl SSort
/-! ### the row of the draws, the one thing that is written -/
structure ExR (a : Addr) (H H' : Hp) : Prop where
  o : ∀ b o, b ≠ a → H b = some o → H' b = some o
  l : ∀ l r, H a = some (.lst (.ref l :: r)) → ∃ r', H' a = some (.lst (.ref l :: r'))
theorem ExR.refl (a : Addr) (H : Hp) : ExR a H H := ⟨fun _ _ _ h => h, fun _ r h => ⟨r, h⟩⟩
theorem ExR.trans {a : Addr} {H H1 H2 : Hp} (x : ExR a H H1) (y : ExR a H1 H2) : ExR a H H2 := ⟨fun b o n h => y.o b o n (x.o b o n h), fun l r h => let ⟨_, h1⟩ := x.l l r h; y.l l _ h1⟩
theorem ExR.of {a : Addr} {H H' : Hp} (e : Ex H H') : ExR a H H' := ⟨fun b o _ h => e b o h, fun _ r h => ⟨r, e _ _ h⟩⟩
theorem ExR.put {a : Addr} {H : Hp} {l : Addr} {r r' : List V} (h : H a = some (.lst (.ref l :: r))) : ExR a H (upd H a (.lst (.ref l :: r'))) := ⟨fun b u n h => by rw [upd_ne n]; exact h, fun l2 r2 h2 => by
  rw [h] at h2
  cases h2
  exact ⟨r', upd_same⟩⟩
def Sk (K : PySem.W.Frag) (a : Addr) (H : Hp) (l : Addr) (xs : List V) : Prop :=
  (l ≠ a ∧ Rd H l (.lst xs)) ∨ ∃ (o : Obj) (its : Array Value) (n : Nat), K.lookup l = some o ∧ o.cls = .type "list" ∧ o.dict = none ∧ o.data = .seq its n ∧ its.size ≤ sizeLine ∧ Vals xs its.toList
theorem Sk.sq {K : PySem.W.Frag} {a : Addr} {H : Hp} {l : Addr} {xs : List V} (h : Sk K a H l xs) : SqL K H l xs := h.elim (fun h => .inl h.2) .inr
theorem Sk.up {K : PySem.W.Frag} {a : Addr} {H H' : Hp} {l : Addr} {xs : List V} (e : ExR a H H') (h : Sk K a H l xs) : Sk K a H' l xs := by
  rcases h with ⟨n, h⟩ | h
  · refine .inl ⟨n, ?_⟩
    rcases h with h | ⟨o, h⟩
    · exact .inl (e.o l _ n h)
    · exact .inr ⟨o, e.o l _ n h⟩
  · exact .inr h
structure Rw' (K : PySem.W.Frag) (a : Addr) (H : Hp) (l : Addr) (xs : List Int) (i s c : Int) : Prop where
  at_ : H a = some (.lst [.ref l, .int i, .int s, .int c])
  sk : Sk K a H l (xs.map V.int)
  i0 : 0 ≤ i
  s0 : 0 ≤ s
  s1 : s < 2147483647
def Rw (K : PySem.W.Frag) (a : Addr) (H : Hp) : Prop := ∃ l xs i s c, Rw' K a H l xs i s c
theorem Rw'.up {K : PySem.W.Frag} {a : Addr} {H H' : Hp} {l : Addr} {xs : List Int} {i s c : Int} (e : Ex H H') (h : Rw' K a H l xs i s c) : Rw' K a H' l xs i s c := ⟨e _ _ h.at_, h.sk.up (.of e), h.i0, h.s0, h.s1⟩
theorem Rw.up {K : PySem.W.Frag} {a : Addr} {H H' : Hp} (e : Ex H H') : Rw K a H → Rw K a H' := fun ⟨l, xs, i, s, c, h⟩ => ⟨l, xs, i, s, c, h.up e⟩
theorem Rw'.put {K : PySem.W.Frag} {a : Addr} {H : Hp} {l : Addr} {xs : List Int} {i s c i' s' c' : Int} (h : Rw' K a H l xs i s c) (h1 : 0 ≤ i') (h2 : 0 ≤ s') (h3 : s' < 2147483647) : Rw' K a (upd H a (.lst [.ref l, .int i', .int s', .int c'])) l xs i' s' c' := ⟨upd_same, h.sk.up (.put h.at_), h1, h2, h3⟩
/-- tuples stay -/
theorem Rw.ext {K : PySem.W.Frag} {a : Addr} {H H' : Hp} (h : Rw K a H) (e : ExR a H H') : ExT H H' := fun b xs hb => by
  obtain ⟨l, ys, i, s, c, h⟩ := h
  refine e.o b _ (fun z => ?_) hb
  subst z
  rw [h.at_] at hb; cases hb
/-- a value, the row kept -/
def EvM (K : PySem.W.Frag) (a : Addr) (te : TE) (σ : L2.St) (H : Hp) (R : Rel) : Prop := Rw K a H → ∀ Q : VK, (∀ v H2, ExR a H H2 → Rw K a H2 → R.h v H2 → Q v H2) → te σ H Q
def PmR (K : PySem.W.Frag) {D : Type} (pre : D → Prop) (As : D → List Rel) (R : D → Rel) : Sp := fun vs H Q _ => ∃ d a us, pre d ∧ vs = .ref a :: us ∧ Rw K a H ∧ Rels (As d) us H ∧ ∀ v H', ExR a H H' → Rw K a H' → (R d).h v H' → Q v H'
section
variable {K : PySem.W.Frag} {a : Addr} {σ : L2.St} {H : Hp} {te : TE} {R : Rel}
theorem em_of (h : EvR te σ H R) : EvM K a te σ H R := fun r Q q => h H (Ex.refl H) Q fun v H2 e hv => q v H2 (.of e) (r.up e) hv
theorem em_call {D : Type} {pre : D → Prop} {As : D → List Rel} {Rf : D → Rel} {E : XK} {i : Nat} {ta : TA} (d : D) (hs : σ[i]? = some (some (.ref a))) (h : EvRs ta σ H (As d)) (hp : pre d) : EvM K a (tCall (PmR K pre As Rf) [] E (tCons (tVar i) ta)) σ H (Rf d) := fun r Q q =>
  ⟨.ref a, hs, h H (Ex.refl H) _ fun vs H2 e2 hv => ⟨d, a, vs, hp, by simp, r.up e2, hv, fun v H3 e3 r3 h3 => q v H3 ((ExR.of e2).trans e3) r3 h3⟩⟩
theorem ev_int {i : Int} (h : EvR te σ H (ii i)) : EvR (tCB (fun xs H Q => (∃ i, xs = [V.int i] ∧ Q (.int i) H) ∨ ∃ k, xs = [V.bl k] ∧ Q (.int (if k then 1 else 0)) H) (tCons te tNil)) σ H (ii i) := ev_cb (es1 h) fun us H1 e hv Q q => by
  obtain ⟨_, rfl, rfl⟩ := rels1 hv
  exact .inl ⟨i, rfl, q _ H1 (Ex.refl _) rfl⟩
theorem ev_intB {b : Bool} (h : EvR te σ H (bb b)) : EvR (tCB (fun xs H Q => (∃ i, xs = [V.int i] ∧ Q (.int i) H) ∨ ∃ k, xs = [V.bl k] ∧ Q (.int (if k then 1 else 0)) H) (tCons te tNil)) σ H (ii (if b then 1 else 0)) := ev_cb (es1 h) fun us H1 e hv Q q => by
  obtain ⟨_, rfl, rfl⟩ := rels1 hv
  exact .inr ⟨b, rfl, q _ H1 (Ex.refl _) rfl⟩
end
section
variable {P : Program} {w : World} {K : PySem.W.Frag} {mg : Str → Option Value} {base : Heap} {d : He.DefD} {N ps : List Str} {k : Nat} {x : Str} {f : Addr} {D : Type} {pre : D → Prop} {As : D → List Rel} {R : D → Rel}
theorem mkPmR (hx : mg x = some (.ref (He.fAd K d.at_))) (F : ∃ fd, FunD K d.name d.qual d.params d.body d.scope [] [] (He.fAd K d.at_) fd) (S : FnScope N ps d.scope)
    (hb : ∀ (kV doc pm : Value) (an : Option Addr) (cdv ct : Value) (us : List Value), us.length = ps.length → bindArgs (PySem.W.fnOf d.name d.qual d.params d.body d.scope .none kV doc pm an cdv ct) ⟨us, []⟩ = pure (ps.zip us)) (hl : ∀ d, (As d).length + 1 = ps.length)
    (hbody : ∀ (cdv : Value) (A : Around) (outer : List Env) (s : Shared) (H : Hp) (a : Addr) (us : List V) (Q : VK) (E : XK), Room k (A.deeper (envOfC d.qual d.scope s.heap.objs.size (He.fAd K d.at_) cdv)) → ∀ x, pre x → Rw K a H → Rels (As x) us H → (∀ v H', ExR a H H' → Rw K a H' → (R x).h v H' → Q v H') →
      ∃ t, PSs (cxOf CX0 P w K mg base N d.qual d.scope (He.fAd K d.at_) cdv A outer s H E).nox d.body t ∧ t { nx := fun _ H' => Q .non H', rt := Q } (start N (.ref a :: us)) H) : Ok P w K mg base (k + 1) x (He.fAd K d.at_) ps [] (PmR K pre As R) := by
  obtain ⟨fd, F⟩ := F
  refine ⟨hx, fd, [], ?_, F.bindsN hb, .nil, F.kp⟩
  refine F.ok S (fun vs H Q E ⟨d, a, us, _, h1, _, h, _⟩ => by rw [h1, List.length_cons, ← rels_len h, hl]) fun cdv A outer s H vs Q E hr ⟨d, a, us, hp, h1, hw, ha, hk⟩ => ?_
  subst h1
  obtain ⟨t, h, q⟩ := hbody cdv A outer s H a us Q E hr d hp hw ha hk
  exact ⟨t, PSs.nox h, q⟩
end
/-- some answer of a kind -/
def ex {α : Type} (p : α → Prop) (T : α → Rel) : Rel := ⟨fun v H => ∃ a, p a ∧ (T a).h v H, fun e ⟨a, h, k⟩ => ⟨a, h, (T a).up e k⟩⟩
theorem im_ex {α : Type} {p : α → Prop} {T : α → Rel} (m : ∀ a, Im (T a)) : Im (ex p T) := ⟨fun e ⟨a, h, k⟩ => ⟨a, h, (m a).up e k⟩⟩
end Wk
set_option Elab.async false
set_option linter.all false
set_option maxRecDepth 100000
set_option maxHeartbeats 2000000
namespace Wk
open PySem PySem.Spec PyProof.Rows L2 Evl SSort
theorem fmod_nat {i : Int} {m : Nat} (h : 1 ≤ m) : ∃ k : Nat, k < m ∧ i.fmod (m : Int) = (k : Int) := by
  have h0 : (0 : Int) < (m : Int) := by omega
  have h1 := Int.fmod_nonneg_of_pos i h0
  have h2 := Int.fmod_lt_of_pos i h0
  exact ⟨(i.fmod m).toNat, by omega, by omega⟩
variable {P : Program} {w : World} {K : PySem.W.Frag} {mg : Str → Option Value} {base : Heap}
abbrev sp_taken (K : PySem.W.Frag) : Sp := PmR K (fun m : Nat => 1 ≤ m ∧ m < 1000) (fun m => [nn m]) (fun m => ex (· < m) nn)
theorem ok__law_taken (C : Ctx K mg) : Ok P w K mg base 1 "_law_taken" (He.fAd K d__law_taken.at_) P__law_taken [] (sp_taken K) := by
  refine mkPmR C.a__law_taken C.f__law_taken sc__law_taken (fun _ _ _ _ _ _ us hl => match us, hl with | [_, _], _ => rfl) (fun _ => rfl) fun cdv A outer s H a us Q E hr m ⟨m1, m2⟩ hw hv hk => ?_
  obtain ⟨_, rfl, rfl⟩ := rels1 hv
  obtain ⟨l, xs, i, sd, c, hw⟩ := hw
  refine ⟨_, (pss_cons (ps_if (pt_cmpR op_gt (pe_ix (kix_list K) (pv 0) pe_int (fun _ _ => rfl)) pe_int (nomark _)) (pss_cons (ps_set (i := 2) sc__law_taken.nd rfl (Or.inl rfl) (pe_op op_modN (pe_callTy call_int1 (by rfl) C.g_int (by decide +kernel) (pa_cons (pe_ix (kix_list K) (pv 0) pe_int (fun _ _ => rfl)) pa_nil)) (pv 1)))
    (pss_cons (ps_asg (pe_op op_fdivN (pe_ix (kix_list K) (pv 0) pe_int (fun _ _ => rfl)) (pv 1)) (pg_sub (pv 0) pe_int set_list))
    (pss_one (ps_ret (pv 2))))) pss_nil)
    (pss_cons (ps_asg (pe_op op_add (pe_ix (kix_list K) (pv 0) pe_int (fun _ _ => rfl)) pe_int) (pg_sub (pv 0) pe_int set_list))
    (pss_cons (ps_if (pt_cmpR op_gt (pe_ix (kix_list K) (pv 0) pe_int (fun _ _ => rfl)) (pe_callB (kcall_len K) (by rfl) C.g_len PySem.boot_len (pa_cons (pe_ix (kix_list K) (pv 0) pe_int (fun _ _ => rfl)) pa_nil)) (nomark _)) (pss_cons (ps_asg (pe_op op_modN (pe_callTy call_int1 (by rfl) C.g_int (by decide +kernel) (pa_cons (pe_op op_add (pe_op op_mul (pe_ix (kix_list K) (pv 0) pe_int (fun _ _ => rfl)) pe_int) pe_int) pa_nil)) pe_int) (pg_sub (pv 0) pe_int set_list))
    (pss_one (ps_ret (pe_op op_modN (pe_callTy call_int1 (by rfl) C.g_int (by decide +kernel) (pa_cons (pe_op op_fdivN (pe_ix (kix_list K) (pv 0) pe_int (fun _ _ => rfl)) pe_int) pa_nil)) (pv 1))))) pss_nil)
    (pss_cons (ps_set (i := 3) sc__law_taken.nd rfl (Or.inl rfl) (pe_ix (kix_list K) (pe_ix (kix_list K) (pv 0) pe_int (fun _ _ => rfl)) (pe_op op_sub (pe_ix (kix_list K) (pv 0) pe_int (fun _ _ => rfl)) pe_int) (fun _ _ => rfl)))
    (pss_cons (ps_asg (pe_op op_modN (pe_callTy call_int1 (by rfl) C.g_int (by decide +kernel) (pa_cons (pe_op op_add (pe_op op_add (pe_op op_mul (pe_ix (kix_list K) (pv 0) pe_int (fun _ _ => rfl)) pe_int) (pv 3)) pe_int) pa_nil)) pe_int) (pg_sub (pv 0) pe_int set_list))
    (pss_cons (ps_if (pt_cmpR op_ge (pv 3) (pe_op op_pow pe_int pe_int) (nomark _)) (pss_one (ps_asg (pe_op op_fdivN (pv 3) (pv 1)) (pg_sub (pv 0) pe_int set_list))) pss_nil)
    (pss_one (ps_ret (pe_op op_modN (pe_callTy call_int1 (by rfl) C.g_int (by decide +kernel) (pa_cons (pv 3) pa_nil)) (pv 1)))))))))), ?_⟩
  have cd : ∀ {z : Int}, CDivN z (m : Int) := ⟨by omega, by omega⟩
  have rowAt : ∀ {σ : L2.St} {H' : Hp} {i s c : Int}, σ[0]? = some (some (V.ref a)) → Rw' K a H' l xs i s c → EvR (tVar 0) σ H' (lstV [.ref l, .int i, .int s, .int c]) := fun h0 h => ev_n h0 ⟨a, rfl, h.at_⟩
  refine q_when (t_is (t_I (ev_ixLV (v := .int c) (rowAt rfl hw) (ev_k (v := .int 3)) rfl) (ev_k (v := .int 0))) rfl) (fun hb H1 e1 => ?_) (fun hb H1 e1 => ?_)
  · have hw1 := hw.up e1
    obtain ⟨k, hk1, hk2⟩ := fmod_nat (i := c) m1
    refine q_set (ev_Ic (C := fun _ j => j ≠ 0) (g := fun i j => .int (i.fmod j)) (ev_int (ev_ixLV (v := .int c) (rowAt rfl hw1) (ev_k (v := .int 3)) rfl)) (ev_n (R := nn m) rfl rfl) (by omega)) fun v H2 e2 hv => ?_
    have hv : v = .int (c.fmod m) := hv
    subst hv
    have hw2 := hw1.up e2
    refine q_setL hw2.at_ (ev_evr (ev_Ic (C := CDivN) (g := fun i j => .int (i.fdiv j)) (ev_ixLV (v := .int c) (rowAt rfl hw2) (ev_k (v := .int 3)) rfl) (ev_n (R := nn m) rfl rfl) cd)) (ev_evr (ev_n (R := is (.ref a)) rfl rfl)) (j := 3) (ev_evr ev_k) (by show 3 < 4; decide) fun H3 e3 => ?_
    have hw3 := hw2.up e3
    have hw4 := hw3.put (i' := i) (s' := sd) (c' := c.fdiv m) hw.i0 hw.s0 hw.s1
    refine s_ret (ev_n (R := nn k) (by rw [hk2]; rfl) rfl) fun v H5 e5 hv => hk v H5 ?_ ⟨l, xs, _, _, _, hw4.up e5⟩ ⟨k, hk1, hv⟩
    exact (((ExR.of ((e1.trans e2).trans e3)).trans (.put hw3.at_))).trans (.of e5)
  · have hw1 := hw.up e1
    refine q_setL hw1.at_ (ev_evr (ev_I (g := fun i j => .int (i + j)) (ev_ixLV (v := .int i) (rowAt rfl hw1) (ev_k (v := .int 1)) rfl) (ev_k (v := .int 1)))) (ev_evr (ev_n (R := is (.ref a)) rfl rfl)) (j := 1) (ev_evr ev_k) (by show 1 < 4; decide) fun H2 e2 => ?_
    have hi0 := hw.i0
    have hs0 := hw.s0
    have hs1 := hw.s1
    have hw2 := (hw1.up e2).put (i' := i + 1) (s' := sd) (c' := c) (by omega) hw.s0 hw.s1
    have eR2 : ExR a H (upd H2 a (.lst [.ref l, .int (i + 1), .int sd, .int c])) := (ExR.of (e1.trans e2)).trans (.put (hw1.up e2).at_)
    have lenS : ∀ {H' : Hp} {i s c : Int} {σ : L2.St}, σ[0]? = some (some (V.ref a)) → Rw' K a H' l xs i s c → EvR (tCB (rLn K) (tCons (tOp (rIxL K) (tVar 0) (tC (.int 0))) tNil)) σ H' (nn xs.length) := fun h0 h =>
      ev_cb (es1 (ev_ixLV (v := .ref l) (rowAt h0 h) (ev_k (v := .int 0)) rfl)) fun us H1 e hv Q q => by
        obtain ⟨_, rfl, rfl⟩ := rels1 hv
        exact ⟨l, _, rfl, .inl ((h.up e).sk.sq), q _ H1 (Ex.refl _) (by rw [List.length_map]; rfl)⟩
    refine q_when (t_is (t_I (ev_ixLV (v := .int (i + 1)) (rowAt rfl hw2) (ev_k (v := .int 1)) rfl) (lenS rfl hw2)) rfl) (fun hb2 H3 e3 => ?_) (fun hb2 H3 e3 => ?_)
    · have hw3 := hw2.up e3
      obtain ⟨s', hs', es'⟩ := fmod_nat (i := sd * 48271 + 11) (m := 2147483647) (by decide)
      have es' : (sd * 48271 + 11).fmod 2147483647 = (s' : Int) := es'
      refine q_setL hw3.at_ (v := .int (s' : Int)) (ev_evr ((ev_Ic (C := fun _ j => j ≠ 0) (g := fun i j => .int (i.fmod j)) (ev_int (ev_I (g := fun i j => .int (i + j)) (ev_Ic (C := CMul) (g := fun i j => .int (i * j)) (ev_ixLV (v := .int sd) (rowAt rfl hw3) (ev_k (v := .int 2)) rfl) (ev_k (v := .int 48271)) (.inr ⟨by decide, by decide⟩)) (ev_k (v := .int 11)))) (ev_k (v := .int 2147483647)) (by decide)).to (by rw [es']))) (ev_evr (ev_n (R := is (.ref a)) rfl rfl)) (j := 2) (ev_evr ev_k) (by show 2 < 4; decide) fun H4 e4 => ?_
      have hw4 := (hw3.up e4).put (i' := i + 1) (s' := (s' : Int)) (c' := c) (by omega) (by omega) (by omega)
      obtain ⟨k, hk1, hk2⟩ := fmod_nat (i := Int.fdiv (s' : Int) 7) m1
      refine s_ret ((ev_Ic (C := fun _ j => j ≠ 0) (g := fun i j => .int (i.fmod j)) (ev_int (ev_Ic (C := CDivN) (g := fun i j => .int (i.fdiv j)) (ev_ixLV (v := .int (s' : Int)) (rowAt rfl hw4) (ev_k (v := .int 2)) rfl) (ev_k (v := .int 7)) ⟨by decide, by decide⟩)) (ev_n (R := nn m) rfl rfl) (by omega)).to (R' := nn k) (by rw [hk2]; rfl)) fun v H5 e5 hv => hk v H5 ?_ ⟨l, xs, _, _, _, hw4.up e5⟩ ⟨k, hk1, hv⟩
      exact ((eR2.trans (.of (e3.trans e4))).trans (.put (hw3.up e4).at_)).trans (.of e5)
    · have hw3 := hw2.up e3
      have hlt : i < (xs.length : Int) := by
        have : decide ((xs.length : Int) < i + 1) = false := hb2
        rw [decide_eq_false_iff_not] at this; omega
      obtain ⟨cell, hcell⟩ : ∃ cell : Int, (xs.map V.int)[i.toNat]? = some (.int cell) := by
        have : i.toNat < xs.length := by omega
        exact ⟨xs[i.toNat], by rw [List.getElem?_map, List.getElem?_eq_getElem this]; rfl⟩
      have cellAt : ∀ {H' : Hp} {σ : L2.St} {s c : Int}, σ[0]? = some (some (V.ref a)) → Rw' K a H' l xs (i + 1) s c → EvR (tOp (rIxL K) (tOp (rIxL K) (tVar 0) (tC (.int 0))) (tOp (rI0 fun i j => .int (i - j)) (tOp (rIxL K) (tVar 0) (tC (.int 1))) (tC (.int 1)))) σ H' (ii cell) := fun h0 h =>
        ev_o (ev_ixLV (v := .ref l) (rowAt h0 h) (ev_k (v := .int 0)) rfl) (ev_I (g := fun i j => .int (i - j)) (ev_ixLV (v := .int (i + 1)) (rowAt h0 h) (ev_k (v := .int 1)) rfl) (ev_k (v := .int 1))) fun x y H1 e hx hy Q q => by
          have hy : y = .int (i + 1 - 1) := hy
          refine ⟨l, xs.map V.int, (i.toNat : Nat), .int cell, hx, ?_, (h.up e).sk.sq, atI_nat hcell, q _ H1 (Ex.refl _) rfl⟩
          rw [hy]; congr 1; omega
      refine q_set (cellAt rfl hw3) fun v H4 e4 hv => ?_
      have hv : v = .int cell := hv
      subst hv
      have hw4 := hw3.up e4
      obtain ⟨s', hs', es'⟩ := fmod_nat (i := sd * 48271 + cell + 11) (m := 2147483647) (by decide)
      have es' : (sd * 48271 + cell + 11).fmod 2147483647 = (s' : Int) := es'
      refine q_setL hw4.at_ (v := .int (s' : Int)) (ev_evr ((ev_Ic (C := fun _ j => j ≠ 0) (g := fun i j => .int (i.fmod j)) (ev_int (ev_I (g := fun i j => .int (i + j)) (ev_I (g := fun i j => .int (i + j)) (ev_Ic (C := CMul) (g := fun i j => .int (i * j)) (ev_ixLV (v := .int sd) (rowAt rfl hw4) (ev_k (v := .int 2)) rfl) (ev_k (v := .int 48271)) (.inr ⟨by decide, by decide⟩)) (ev_n (R := ii cell) rfl rfl)) (ev_k (v := .int 11)))) (ev_k (v := .int 2147483647)) (by decide)).to (by rw [es']))) (ev_evr (ev_n (R := is (.ref a)) rfl rfl)) (j := 2) (ev_evr ev_k) (by show 2 < 4; decide) fun H5 e5 => ?_
      have hw5 := (hw4.up e5).put (i' := i + 1) (s' := (s' : Int)) (c' := c) (by omega) (by omega) (by omega)
      have eR5 : ExR a H (upd H5 a (.lst [.ref l, .int (i + 1), .int (s' : Int), .int c])) := (eR2.trans (.of ((e3.trans e4).trans e5))).trans (.put (hw4.up e5).at_)
      obtain ⟨k, hk1, hk2⟩ := fmod_nat (i := cell) m1
      have fin : ∀ {H6 : Hp} {c' : Int}, Rw' K a H6 l xs (i + 1) (s' : Int) c' → ExR a H H6 → tRet (tOp (rI (fun _ j => j ≠ 0) fun i j => .int (i.fmod j)) (tCB (fun xs H Q => (∃ i, xs = [V.int i] ∧ Q (.int i) H) ∨ ∃ k, xs = [V.bl k] ∧ Q (.int (if k then 1 else 0)) H) (tCons (tVar 3) tNil)) (tVar 1)) { nx := fun _ H' => Q .non H', rt := Q } [some (V.ref a), some (V.int (m : Int)), none, some (V.int cell)] H6 := fun {H6 c'} h6 e6 => by
        refine s_ret ((ev_Ic (C := fun _ j => j ≠ 0) (g := fun i j => .int (i.fmod j)) (ev_int (ev_n (R := ii cell) rfl rfl)) (ev_n (R := nn m) rfl rfl) (by omega)).to (R' := nn k) (by rw [hk2]; rfl)) fun v H7 e7 hv => hk v H7 (e6.trans (.of e7)) ⟨l, xs, _, _, _, h6.up e7⟩ ⟨k, hk1, hv⟩
      refine q_when (t_is (t_I (p := fun i j => decide (j ≤ i)) (ev_n (R := ii cell) rfl rfl) (ev_Ic (C := CPow) (g := fun i j => .int (i ^ j.toNat)) (ev_k (v := .int 10)) (ev_k (v := .int 18)) ⟨by decide, by decide, by decide⟩)) rfl) (fun hb3 H6 e6 => ?_) (fun hb3 H6 e6 => ?_)
      · have hw6 := hw5.up e6
        refine s_setL hw6.at_ (ev_evr (ev_Ic (C := CDivN) (g := fun i j => .int (i.fdiv j)) (ev_n (R := ii cell) rfl rfl) (ev_n (R := nn m) rfl rfl) cd)) (ev_evr (ev_n (R := is (.ref a)) rfl rfl)) (j := 3) (ev_evr ev_k) (by show 3 < 4; decide) fun H7 e7 => ?_
        exact fin ((hw6.up e7).put (i' := i + 1) (s' := (s' : Int)) (c' := cell.fdiv m) (by omega) (by omega) (by omega)) ((eR5.trans (.of (e6.trans e7))).trans (.put (hw6.up e7).at_))
      · exact fin (hw5.up e6) (eR5.trans (.of e6))
end Wk
set_option Elab.async false
set_option linter.all false
set_option maxRecDepth 100000
set_option maxHeartbeats 2000000
namespace Wk
open PySem PySem.Spec PyProof.Rows L2 Evl SSort
section
variable {K : PySem.W.Frag} {a : Addr} {σ : L2.St} {H : Hp} {te t0 : TE} {tt : TT} {R : Rel} {vs : List Nat}
theorem ExR.mut {H' : Hp} {p : Addr} {o : HO} (e : ExR a H H') (h : H p = none) : ExR a H (upd H' p o) := ⟨fun b u n hb => by
  rw [upd_ne (ne_of_none hb h)]
  exact e.o b u n hb, fun l r hl => by
  rw [upd_ne (ne_of_none hl h)]
  exact e.l l r hl⟩
theorem Rw.ne {p : Addr} (r : Rw K a H) (h : H p = none) : p ≠ a := fun z => by
  obtain ⟨l, xs, i, s, c, r⟩ := r
  subst z
  have := r.at_
  rw [h] at this; cases this
/-- another object is written -/
theorem Rw.mut {H0 : Hp} {p : Addr} {o : HO} (h0 : Rw K a H0) (e : ExR a H0 H) (h : H0 p = none) (r : Rw K a H) : Rw K a (upd H p o) := by
  have na := h0.ne h
  obtain ⟨l, xs, i, s, c, r⟩ := r
  obtain ⟨l0, xs0, _, _, _, r0⟩ := h0
  obtain ⟨r', hr'⟩ := e.l _ _ r0.at_
  have hl : l = l0 := by
    have := r.at_
    rw [hr'] at this
    cases this; rfl
  subst hl
  refine ⟨l, xs0, i, s, c, ⟨by rw [upd_ne (Ne.symm na)]; exact r.at_, ?_, r.i0, r.s0, r.s1⟩⟩
  rcases r0.sk with ⟨n, hk⟩ | hk
  · refine .inl ⟨n, ?_⟩
    rcases hk with hk | ⟨o', hk⟩
    · exact .inl (by rw [upd_ne (ne_of_none hk h)]; exact e.o _ _ n hk)
    · exact .inr ⟨o', by rw [upd_ne (ne_of_none hk h)]; exact e.o _ _ n hk⟩
  · exact .inr hk
def EvMT (K : PySem.W.Frag) (a : Addr) (tt : TT) (σ : L2.St) (H : Hp) : Prop := Rw K a H → ∀ Q : Bool → Hp → Prop, (∀ b H2, ExR a H H2 → Rw K a H2 → Q b H2) → tt σ H Q
theorem emt_yes : EvMT K a tYes σ H := fun r Q q => q true H (.refl _ _) r
theorem em_lcR {p : Nat → Prop} {N j : Nat} (h : EvM K a t0 σ H (ex (· ≤ N) nn)) (hN : N ≤ 1000) (hw : ∀ x, wipe ((wipe σ vs).set j (some x)) vs = wipe σ vs)
    (hb : ∀ (k : Nat) H', k < N → ExR a H H' → EvMT K a tt ((wipe σ vs).set j (some (.int (k : Int)))) H' ∧ ∀ H2, ExR a H' H2 → EvM K a te ((wipe σ vs).set j (some (.int (k : Int)))) H2 (ex p nn)) :
    EvM K a (tLc (iRng1 (tCons t0 tNil)) (gName j) tt te vs) σ H (ex (fun ns : List Nat => (∀ k ∈ ns, p k) ∧ ns.length ≤ N) (fun ns => ls (ns.map nn))) := fun r Q q =>
  h r _ fun v H1 e1 r1 hv => by
    obtain ⟨n, hn, hv⟩ := hv
    have hv : v = .int (n : Int) := hv
    subst hv
    refine ⟨(n : Int), rfl, by omega, by omega, fun D hD => ?_⟩
    rw [Int.toNat_natCast]
    have nD := r1.ne hD
    refine lc_it walk_range (Qd := fun H => Q (.ref D) H) (fun i H' => ExR a H1 H' ∧ Rw K a H' ∧ ∃ ns : List Nat, H' D = some (.lst ((iv ns).map V.int)) ∧ (∀ k ∈ ns, p k) ∧ ns.length ≤ i) ⟨(ExR.refl a H1).mut hD, r1.mut (.refl _ _) hD r1, [], upd_same, (fun _ h => nomatch h), Nat.le_refl _⟩ (fun _ _ _ _ => trivial) ?_ ?_
    · rintro i x H2 H' hi ⟨e2, r2, ns, hns, hp, hl⟩ ⟨rfl, rfl⟩
      show gName j (V.int ((0 : Int) + (i : Int))) (wipe σ vs) H' _
      rw [Int.zero_add]
      obtain ⟨k1, k2⟩ := hb i H' (by omega) (e1.trans e2)
      refine ⟨hw _, k1 r2 _ fun b H3 e3 r3 => ?_⟩
      cases b with
      | false =>
        show ExR a H1 H3 ∧ _
        exact ⟨e2.trans e3, r3, ns, e3.o _ _ nD hns, hp, by omega⟩
      | true =>
        show te _ H3 _
        refine k2 H3 e3 r3 _ fun y H4 e4 r4 hy => ?_
        obtain ⟨m, hm, hy⟩ := hy
        have hy : y = .int (m : Int) := hy
        subst hy
        refine ⟨(iv ns).map V.int, e4.o _ _ nD (e3.o _ _ nD hns), sz_lt (by rw [List.length_map, iv_len]; omega), ((e2.trans e3).trans e4).mut hD, r1.mut ((e2.trans e3).trans e4) hD r4, ns ++ [m], ?_, ?_, ?_⟩
        · rw [upd_same]; unfold iv; simp
        · intro k hk
          rcases List.mem_append.mp hk with h | h
          · exact hp k h
          · rw [List.mem_singleton] at h; subst h; exact hm
        · rw [List.length_append]; show ns.length + 1 ≤ i + 1; omega
    · rintro H' ⟨e2, r2, ns, hns, hp, hl⟩
      refine q _ _ (e1.trans e2) r2 ⟨ns, ⟨hp, by omega⟩, ?_⟩
      refine ⟨D, _, rfl, hns, ?_⟩
      have : ns.map nn = ((iv ns).map V.int).map is := by unfold iv; rw [List.map_map, List.map_map]; rfl
      rw [this]; exact rels_is.mpr rfl
theorem em_tupOf {p : List Nat → Prop} (h : EvM K a te σ H (ex p (fun ns => ls (ns.map nn)))) : EvM K a (tCB (rTupOf K) (tCons te tNil)) σ H (ex p (fun ns => ti (iv ns))) := fun r Q q =>
  h r _ fun v H1 e1 r1 ⟨ns, hp, hv⟩ => by
    obtain ⟨l, ys, rfl, hl, hr⟩ := hv
    exact ⟨l, ys, rfl, .inl ⟨SqL.of hl, fun t ht => q _ _ (e1.trans (.of (Ex.new ht))) (r1.up (Ex.new ht)) ⟨ns, hp, tin_tp.mpr ⟨t, ys, rfl, upd_same, hr.up (Ex.new ht)⟩⟩⟩⟩
variable {D : Ends}
theorem m_ret (r : Rw K a H) (h : EvM K a te σ H R) (k : ∀ v H1, ExR a H H1 → Rw K a H1 → R.h v H1 → D.rt v H1) : tRet te D σ H := h r _ k
theorem m_set {i : Nat} (r : Rw K a H) (h : EvM K a te σ H R) (k : ∀ v H1, ExR a H H1 → Rw K a H1 → R.h v H1 → D.nx (σ.set i (some v)) H1) : tAsg te (gName i) D σ H := h r _ k
theorem mq_set {i : Nat} {tz : TS} (r : Rw K a H) (h : EvM K a te σ H R) (k : ∀ v H1, ExR a H H1 → Rw K a H1 → R.h v H1 → tz D (σ.set i (some v)) H1) : tSeq (tAsg te (gName i)) tz D σ H := h r _ k
/-- a value joined to one made after it -/
theorem em_succ {p : Nat → Prop} (h : EvM K a te σ H (ex p nn)) : EvM K a (tOp (rI0 fun i j => .int (i + j)) te (tC (.int 1))) σ H (ex (fun k => ∃ j, k = j + 1 ∧ p j) nn) := fun r Q q =>
  h r _ fun v H1 e1 r1 ⟨k, hk, hv⟩ => ⟨(k : Int), 1, hv, rfl, q _ H1 e1 r1 ⟨k + 1, ⟨k, rfl, hk⟩, rfl⟩⟩
theorem EvM.imp {R' : Rel} (h : EvM K a te σ H R) (i : ∀ v H, R.h v H → R'.h v H) : EvM K a te σ H R' := fun r Q q => h r Q fun v H2 e r2 hv => q v H2 e r2 (i v H2 hv)
theorem ev_listRg {tr : TE} {n : Nat} (h : EvR tr σ H (nn n)) (hn : n ≤ 1000) : EvR (tLstRg (tRg1 tr)) σ H (lstV ((List.range n).map fun i => V.int (i : Nat))) := fun H1 e Q q => h H1 e _ fun v H2 e2 hv =>
  ⟨(n : Int), hv, ⟨by omega, by omega, by omega, by omega, by omega⟩, fun p hp => q _ _ (e2.trans (Ex.new hp)) ⟨p, rfl, by
    rw [upd_same]; unfold rgV
    rw [show ((n : Int) - 0).toNat = n by omega]
    congr 2
    refine List.map_congr_left fun k _ => ?_
    rw [Int.zero_add]⟩⟩
theorem ev_tupRg {tr : TE} {n : Nat} (h : EvR tr σ H (nn n)) (hn : n ≤ 1000) : EvR (tTupRg (tRg1 tr)) σ H (ti (iv (List.range n))) := fun H1 e Q q => h H1 e _ fun v H2 e2 hv =>
  ⟨(n : Int), hv, ⟨by omega, by omega, by omega, by omega, by omega⟩, fun p hp => q _ _ (e2.trans (Ex.new hp)) ⟨p, rfl, by
    rw [upd_same]; unfold rgV iv
    rw [show ((n : Int) - 0).toNat = n by omega, List.map_map]
    congr 2
    refine List.map_congr_left fun k _ => ?_
    rw [Int.zero_add]; rfl⟩⟩
end
variable {P : Program} {w : World} {K : PySem.W.Frag} {mg : Str → Option Value} {base : Heap}
theorem ok__law_word (C : Ctx K mg) : Ok P w K mg base 2 "_law_word" (He.fAd K d__law_word.at_) P__law_word [] (PmR K (fun d : Nat × Nat => 1 ≤ d.1 ∧ d.1 ≤ 7 ∧ d.2 ≤ 100) (fun d => [nn d.1, nn d.2]) (fun d => ex (fun wd => Wd d.1 wd ∧ wd.length ≤ d.2) (fun wd => ti (iv wd)))) := by
  have O__law_taken := ok__law_taken (P := P) (w := w) (base := base) C
  refine mkPmR C.a__law_word C.f__law_word sc__law_word (fun _ _ _ _ _ _ us hl => match us, hl with | [_, _, _], _ => rfl) (fun _ => rfl) fun cdv A outer s H a us Q E hr ⟨n, mo⟩ ⟨m1, m2, m3⟩ hw hv hk => ?_
  obtain ⟨_, _, rfl, rfl, rfl⟩ := rels2 hv
  have m1 : 1 ≤ n := m1
  have m2 : n ≤ 7 := m2
  have m3 : mo ≤ 100 := m3
  refine ⟨_, (pss_cons (ps_if (pt_cmpR op_lt (pv 1) pe_int (nomark _)) (pss_one (ps_ret (pe_tup pa_nil))) pss_nil)
    (pss_one (ps_ret (pe_callTy (kcall_tuple_of K) (by rfl) C.g_tuple (by decide +kernel) (pa_cons (pe_lc (own := [("_law_turn", 3)]) (g := gName 3) (tt := tYes) rfl sc__law_word.nd (pi_range1 rfl C.g_range (pa_cons (pcall O__law_taken (hr.mono (by decide)) (pa_cons (pv 0) (pa_cons (pe_op op_add (pv 2) pe_int) pa_nil))) pa_nil)) (blkOk_by (own := [("_law_turn", 3)]) (N := N__law_word) (sc := defScope s__law_word) (by decide +kernel)) (fun _ _ _ _ _ => pg_name (i := 3) sc__law_word.nd rfl (Or.inl rfl)) (fun _ _ _ _ _ => pts_nil) (fun _ _ _ _ _ => (pcall O__law_taken (hr.mono (by decide)) (pa_cons (pv 0) (pa_cons (pe_op op_sub (pv 1) pe_int) pa_nil))))) pa_nil))))), ?_⟩
  refine q_when (t_is (t_I (p := fun i j => decide (i < j)) (ev_n (R := nn n) rfl rfl) (ev_k (v := .int 2))) rfl) (fun hb H1 e1 => ?_) (fun hb H1 e1 => ?_)
  · refine s_ret (ev_tupI (ns := []) es_nil (by decide)) fun v H2 e2 hv => hk v H2 (.of (e1.trans e2)) (hw.up (e1.trans e2)) ⟨[], ⟨(fun _ h => nomatch h), Nat.zero_le _⟩, hv⟩
  · have hn : 2 ≤ n := by
      have : decide ((n : Int) < 2) = false := hb
      rw [decide_eq_false_iff_not] at this; omega
    refine m_ret (hw.up e1) (em_tupOf (p := fun wd => (∀ k ∈ wd, k + 1 < n) ∧ wd.length ≤ mo) (em_lcR (p := fun k => k + 1 < n) ((em_call (mo + 1) rfl (es1 (ev_succ (ev_n (R := nn mo) rfl rfl))) (show 1 ≤ mo + 1 ∧ mo + 1 < 1000 by omega)).imp fun v H ⟨k, hk, hv⟩ => ⟨k, by omega, hv⟩) (by omega) (fun _ => rfl) fun k H' hk' e' => ⟨emt_yes, fun H2 e2 => (em_call (n - 1) rfl (es1 ((ev_I (g := fun i j => .int (i - j)) (ev_n (R := nn n) rfl rfl) (ev_k (v := .int 1))).to (by show is _ = is _; congr 2; omega))) (show 1 ≤ n - 1 ∧ n - 1 < 1000 by omega)).imp fun v H ⟨k, hk, hv⟩ => ⟨k, by omega, hv⟩⟩)) fun v H2 e2 r2 hv => hk v H2 ((ExR.of e1).trans e2) r2 hv
theorem ok__law_lot (C : Ctx K mg) : Ok P w K mg base 2 "_law_lot" (He.fAd K d__law_lot.at_) P__law_lot [] (PmR K (fun n : Nat => n ≤ 100) (fun n => [nn n]) (fun n => ex (fun _ => True) (fun wd => ti (iv wd)))) := by
  have O__law_taken := ok__law_taken (P := P) (w := w) (base := base) C
  refine mkPmR C.a__law_lot C.f__law_lot sc__law_lot (fun _ _ _ _ _ _ us hl => match us, hl with | [_, _], _ => rfl) (fun _ => rfl) fun cdv A outer s H a us Q E hr n m1 hw hv hk => ?_
  obtain ⟨_, rfl, rfl⟩ := rels1 hv
  have m1 : n ≤ 100 := m1
  refine ⟨_, (pss_cons (ps_set (i := 2) sc__law_lot.nd rfl (Or.inr rfl) (pcall O__law_taken (hr.mono (by decide)) (pa_cons (pv 0) (pa_cons pe_int pa_nil))))
    (pss_one (ps_ret (pe_callTy (kcall_tuple_of K) (by rfl) C.g_tuple (by decide +kernel) (pa_cons (pe_lc (own := [("_law_place", 3)]) (g := gName 3)  rfl sc__law_lot.nd (pi_range1 rfl C.g_range (pa_cons (pv 1) pa_nil)) (blkOk_by (own := [("_law_place", 3)]) (N := N__law_lot) (sc := defScope s__law_lot) (by decide +kernel)) (fun _ _ _ _ _ => pg_name (i := 3) sc__law_lot.nd rfl (Or.inl rfl)) (fun _ _ _ _ _ => (pts_one (pt_cmpR op_eq (pcall O__law_taken (hr.mono (by decide)) (pa_cons (pv 0) (pa_cons (pe_op op_add pe_int (pv 2)) pa_nil))) pe_int (nomark _)))) (fun _ _ _ _ _ => (pv 3))) pa_nil))))), ?_⟩
  refine mq_set hw (em_call 4 rfl (es1 ev_k) (by decide)) fun v H1 e1 r1 hv => ?_
  obtain ⟨y, hy, hv⟩ := hv
  have hv : v = .int (y : Int) := hv
  subst hv
  refine m_ret r1 (em_tupOf (p := fun _ => True) ((em_lcR (p := fun k => True) (N := n) (em_of ((ev_n (R := nn n) rfl rfl).imp fun v H _ h => ⟨n, Nat.le_refl _, h⟩)) (by omega) (fun _ => rfl) fun k H' hk' e' => ⟨?_, fun H2 e2 => em_of ((ev_n (R := nn k) rfl rfl).imp fun v H _ h => ⟨k, trivial, h⟩)⟩).imp fun v H ⟨k, hk, hv⟩ => ⟨k, trivial, hv⟩)) fun v H2 e2 r2 hv => hk v H2 (e1.trans e2) r2 hv
  refine fun r Q q => em_call (2 + y) rfl (es1 (ev_I (g := fun i j => .int (i + j)) (i := 2) (j := (y : Int)) ev_k (ev_n (R := nn y) rfl rfl))) (show 1 ≤ 2 + y ∧ 2 + y < 1000 by omega) r _ fun v H2 e2 r2 hv => ?_
  obtain ⟨z, hz, hv⟩ := hv
  have hv : v = .int (z : Int) := hv
  subst hv
  exact ⟨rfl, _, rfl, q _ H2 e2 r2⟩
end Wk
set_option Elab.async false
set_option linter.all false
set_option maxRecDepth 100000
set_option maxHeartbeats 2000000
namespace Wk
open PySem PySem.Spec PyProof.Rows L2 Evl SSort
variable {P : Program} {w : World} {K : PySem.W.Frag} {mg : Str → Option Value} {base : Heap}
def spPick (K : PySem.W.Frag) : Sp := fun vs H Q _ => ∃ (a p : Addr) (ys : List V), vs = [V.ref a, V.ref p] ∧ Rw K a H ∧ p ≠ a ∧ H p = some (.lst ys) ∧ 1 ≤ ys.length ∧ ys.length < 1000 ∧ ∀ (v : V) (H' : Hp) (i : Nat), ExR a H H' → Rw K a H' → ys[i]? = some v → Q v H'
theorem ok__law_pick (C : Ctx K mg) : Ok P w K mg base 2 "_law_pick" (He.fAd K d__law_pick.at_) P__law_pick [] (spPick K) := by
  have O__law_taken := ok__law_taken (P := P) (w := w) (base := base) C
  obtain ⟨fd, F⟩ := C.f__law_pick
  refine ⟨C.a__law_pick, fd, [], ?_, F.bindsN (fun _ _ _ _ _ _ us hl => match us, hl with | [_, _], _ => rfl), .nil, F.kp⟩
  refine F.ok sc__law_pick (fun vs H Q E ⟨a, p, ys, h1, _⟩ => by rw [h1]; rfl) fun cdv A outer s H vs Q E hr ⟨a, p, ys, h1, hw, hne, hp, y1, y2, hk⟩ => ?_
  subst h1
  refine ⟨_, PSs.nox ((pss_one (ps_ret (pe_ix (kix_list K) (pv 1) (pcall O__law_taken (hr.mono (by decide)) (pa_cons (pv 0) (pa_cons (pe_callB (kcall_len K) (by rfl) C.g_len PySem.boot_len (pa_cons (pv 1) pa_nil)) pa_nil))) (fun _ _ => rfl))))), ?_⟩
  have hlen : EvR (tCB (rLn K) (tCons (tVar 1) tNil)) (start N__law_pick [V.ref a, V.ref p]) H (nn ys.length) := ev_cb (es1 (ev_n (R := lstV ys) rfl ⟨p, rfl, hp⟩)) fun us H1 e hv Q q => by
    obtain ⟨_, rfl, p', rfl, h'⟩ := rels1 hv
    exact ⟨p', ys, rfl, .inl (SqL.of h'), q _ H1 (Ex.refl _) rfl⟩
  refine ⟨.ref p, rfl, ?_⟩
  refine em_call ys.length (a := a) rfl (es1 hlen) ⟨y1, y2⟩ hw _ fun v H1 e1 r1 hv => ?_
  obtain ⟨k, hkl, hv⟩ := hv
  have hv : v = .int (k : Int) := hv
  subst hv
  have hk1 : k < ys.length := hkl
  exact ⟨p, ys, (k : Int), ys[k], rfl, rfl, SqL.of (e1.o _ _ hne hp), atI_nat (by simp [hk1]), hk _ _ k e1 r1 (by simp [hk1])⟩
theorem ok__law_sorter (C : Ctx K mg) : Ok P w K mg base 1 "_law_sorter" (He.fAd K d__law_sorter.at_) P__law_sorter [] (Pm (fun n : Nat => 1 ≤ n ∧ n ≤ 7) (fun n => [nn n]) (fun n => ex (fun wd => Wd n wd ∧ wd.length ≤ 50) (fun wd => ti (iv wd)))) := by
  refine mkPm C.a__law_sorter C.f__law_sorter sc__law_sorter (fun _ _ _ _ _ _ us hl => match us, hl with | [_], _ => rfl) (fun _ => rfl) fun cdv A outer s H vs Q E hr n ⟨m1, m2⟩ hv hk => ?_
  obtain ⟨_, rfl, rfl⟩ := rels1 hv
  refine ⟨_, (pss_cons (ps_set (i := 1) sc__law_sorter.nd rfl (Or.inl rfl) (pe_tup pa_nil))
    (pss_cons (ps_for PassesOwn.never rfl (pi_range1 rfl C.g_range (pa_cons (pe_op op_sub (pv 0) pe_int) pa_nil)) (pg_name (i := 2) sc__law_sorter.nd rfl (Or.inl rfl)) (pss_one (ps_set (i := 1) sc__law_sorter.nd rfl (Or.inl rfl) (pe_op (kcatA K) (pv 1) (pe_tupRg rfl (by rfl) C.g_tuple (prg_1 (by rfl) C.g_range (pe_op op_sub (pe_op op_sub (pv 0) pe_int) (pv 2))))))))
    (pss_one (ps_ret (pv 1))))), ?_⟩
  refine q_set (ev_tupI (ns := []) es_nil (by decide)) fun fv H1 e1 hf => ?_
  have n1 : ∀ {σ : L2.St} {H' : Hp}, σ[0]? = some (some (V.int (n : Int))) → EvR (tOp (rI0 fun i j => .int (i - j)) (tVar 0) (tC (.int 1))) σ H' (nn (n - 1)) := fun h => (ev_I (g := fun i j => .int (i - j)) (ev_n (R := nn n) h rfl) (ev_k (v := .int 1))).to (by show is _ = is _; congr 2; omega)
  refine q_of (s_forR (n := n - 1) (es1 (n1 rfl)) (by omega) fun H2 e2 => ⟨fun k σ' H' => Ex H2 H' ∧ ∃ v b wd, σ' = [some (V.int (n : Int)), some v, b] ∧ (ti (iv wd)).h v H' ∧ Wd n wd ∧ wd.length ≤ k * 7, ?_⟩)
  refine ⟨⟨Ex.refl _, fv, none, [], rfl, (ti []).up e2 hf, (fun _ h => nomatch h), Nat.zero_le _⟩, fun k σ' H' z => Ex.t z.1, ?_, ?_⟩
  · rintro k σ' H' hk' ⟨e3, v, b, wd, rfl, hv, hW, hl⟩
    have hl2 : wd.length ≤ 50 := by omega
    refine s_set (ev_catI (ev_n rfl hv) (ev_tupRg (n := n - 1 - k) ((ev_I (g := fun i j => .int (i - j)) (n1 rfl) (ev_n (R := nn k) rfl rfl)).to (by show is _ = is _; congr 2; omega)) (by omega)) ?_) fun v2 H4 e4 hv2 => ⟨e3.trans e4, v2, _, wd ++ List.range (n - 1 - k), rfl, ?_, ?_, ?_⟩
    · rw [iv_len, iv_len, List.length_range]; omega
    · unfold iv; rw [List.map_append]; exact hv2
    · intro s hs
      rcases List.mem_append.mp hs with h | h
      · exact hW s h
      · have := List.mem_range.mp h; omega
    · rw [List.length_append, List.length_range, Nat.add_mul]; omega
  · rintro σ' H' ⟨e3, v, b, wd, rfl, hv, hW, hl⟩
    dsimp only
    exact s_ret (ev_n rfl hv) fun v H3 e4 hv => hk v H3 (((e1.trans e2).trans e3).trans e4) ⟨wd, ⟨hW, by omega⟩, hv⟩
section
variable {σ : L2.St} {H : Hp} {te ta tb : TE}
theorem erase_map {α β : Type} {f : α → β} : ∀ {l : List α} {j : Nat}, (l.map f).eraseIdx j = (l.eraseIdx j).map f
  | [], _ => rfl
  | _ :: _, 0 => rfl
  | a :: l, j + 1 => congrArg (f a :: ·) (erase_map (l := l) (j := j))
theorem erase_perm {α : Type} : ∀ {l : List α} {j : Nat} (h : j < l.length), (l[j] :: l.eraseIdx j).Perm l
  | _ :: _, 0, _ => .refl _
  | a :: l, j + 1, h => (List.Perm.swap ..).trans (.cons a (erase_perm (l := l) (j := j) (by simpa using h)))
/-- a list that H0 did not know -/
def lstN (H0 : Hp) (xs : List V) : Rel := ⟨fun v H => ∃ p, v = .ref p ∧ H0 p = none ∧ H p = some (.lst xs), fun e ⟨p, h, n, k⟩ => ⟨p, h, n, e _ _ k⟩⟩
theorem ev_new {xs : List V} (h : EvL te σ H xs) : EvR te σ H (lstN H xs) := fun H1 e Q q => h H1 e Q fun p H2 hp e2 h2 => q _ H2 e2 ⟨p, rfl, fresh_back e hp, h2⟩
theorem el_listRg {tr : TE} {n : Nat} (h : EvR tr σ H (nn n)) (hn : n ≤ 1000) : EvL (tLstRg (tRg1 tr)) σ H ((iv (List.range n)).map V.int) := fun H1 e Q q => h H1 e _ fun v H2 e2 hv =>
  ⟨(n : Int), hv, ⟨by omega, by omega, by omega, by omega, by omega⟩, fun p hp => q p _ (fresh_back e2 hp) (e2.trans (Ex.new hp)) (by
    rw [upd_same]; unfold rgV iv
    rw [show ((n : Int) - 0).toNat = n by omega, List.map_map]
    congr 2
    refine List.map_congr_left fun k _ => ?_
    rw [Int.zero_add]; rfl)⟩
theorem s_parD {D : Ends} {A : Rel} {B : Hp → Rel} {i j : Nat} (ha : EvR ta σ H A) (hb : ∀ x H1, Ex H H1 → A.h x H1 → EvR tb σ H1 (B H1)) (k : ∀ x y H1 H2, Ex H H1 → A.h x H1 → Ex H1 H2 → (B H1).h y H2 → D.nx ((σ.set i (some x)).set j (some y)) H2) : tPar i j (tCons ta (tCons tb tNil)) D σ H :=
  ha H (Ex.refl _) _ fun x H1 e1 hx => hb x H1 e1 hx H1 (Ex.refl _) _ fun y H2 e2 hy => ⟨x, y, rfl, k x y H1 H2 e1 hx e2 hy⟩
end
theorem ok__law_row (C : Ctx K mg) : Ok P w K mg base 2 "_law_row" (He.fAd K d__law_row.at_) P__law_row [] (PmR K (fun n : Nat => n ≤ 7) (fun n => [nn n]) (fun n => ex (Row n) ti)) := by
  have O__law_taken := ok__law_taken (P := P) (w := w) (base := base) C
  refine mkPmR C.a__law_row C.f__law_row sc__law_row (fun _ _ _ _ _ _ us hl => match us, hl with | [_, _], _ => rfl) (fun _ => rfl) fun cdv A outer s H a us Q E hr n m1 hw hv hk => ?_
  obtain ⟨_, rfl, rfl⟩ := rels1 hv
  have m1 : n ≤ 7 := m1
  refine ⟨_, (pss_cons (ps_par (i := 2) (j := 3) (by rfl) sc__law_row.nd rfl rfl (by decide) rfl rfl (pa_cons (pe_listRg rfl (by rfl) C.g_list (prg_1 (by rfl) C.g_range (pv 1))) (pa_cons (pe_lst pa_nil) pa_nil)) (by rfl))
    (pss_cons (ps_for PassesOwn.never rfl (pi_range1 rfl C.g_range (pa_cons (pv 1) pa_nil)) (pg_name (i := 4) sc__law_row.nd rfl (Or.inl rfl)) (pss_one (ps_expr (kpe_bm K PySem.F.plainAttrs_list PySem.F.slot_list_append PySem.F.type_list_append mt_append (pv 3) (pa_cons (kpe_bm K PySem.F.plainAttrs_list PySem.F.slot_list_pop PySem.F.type_list_pop mt_popAt (pv 2) (pa_cons (pcall O__law_taken (hr.mono (by decide)) (pa_cons (pv 0) (pa_cons (pe_callB (kcall_len K) (by rfl) C.g_len PySem.boot_len (pa_cons (pv 2) pa_nil)) pa_nil))) pa_nil)) pa_nil)))))
    (pss_one (ps_ret (pe_callTy (kcall_tuple_of K) (by rfl) C.g_tuple (by decide +kernel) (pa_cons (pv 3) pa_nil)))))), ?_⟩
  refine q_of (s_parD (ev_new (el_listRg (ev_n (R := nn n) rfl rfl) (by omega))) (fun x H1 e1 hx => ev_new (el_lst ea_nil (by decide))) fun x y H1 H2 e1 hx e2 hy => ?_)
  obtain ⟨pl, rfl, npl, hpl⟩ := hx
  obtain ⟨pf, rfl, npf, hpf⟩ := hy
  have nf := fresh_back e1 npf
  have nlf : pl ≠ pf := ne_of_none hpl npf
  have hpl2 := e2 _ _ hpl
  have e12 := e1.trans e2
  refine q_of (s_forR (n := n) (es1 (ev_n (R := nn n) rfl rfl)) (by omega) fun H3 e3 => ⟨fun k σ' H' => ExR a H H' ∧ Rw K a H' ∧ ExT H3 H' ∧ ∃ b lf fd, σ' = [some (V.ref a), some (V.int (n : Int)), some (.ref pl), some (.ref pf), b] ∧ H' pl = some (.lst ((iv lf).map V.int)) ∧ H' pf = some (.lst ((iv fd).map V.int)) ∧ (lf ++ fd).Perm (List.range n) ∧ fd.length = k, ?_⟩)
  refine ⟨⟨.of (e12.trans e3), hw.up (e12.trans e3), .refl _, none, List.range n, [], rfl, e3 _ _ hpl2, e3 _ _ hpf, by rw [List.append_nil], rfl⟩, fun k σ' H' z => z.2.2.1, ?_, ?_⟩
  · rintro k σ' H' hk' ⟨e4, r4, t4, b, lf, fd, rfl, hl4, hf4, hperm, hfl⟩
    have nap := hw.ne npl
    have naf := hw.ne nf
    have hlen : lf.length + fd.length = n := by
      have := hperm.length_eq
      rwa [List.length_append, List.length_range] at this
    have hlb : 1 ≤ lf.length := by omega
    refine ⟨.ref pf, rfl, .inl ⟨rfl, _, SqL.of hf4⟩, ?_⟩
    refine ⟨.ref pl, rfl, .inl ⟨rfl, _, SqL.of hl4⟩, ?_⟩
    have hlen : EvR (tCB (rLn K) (tCons (tVar 2) tNil)) [some (V.ref a), some (V.int (n : Int)), some (V.ref pl), some (V.ref pf), some (V.int (k : Int))] H' (nn lf.length) := ev_cb (es1 (ev_n (R := lstV ((iv lf).map V.int)) rfl ⟨pl, rfl, hl4⟩)) fun us H1 e hv Q q => by
      obtain ⟨_, rfl, p', rfl, h'⟩ := rels1 hv
      exact ⟨p', _, rfl, .inl (SqL.of h'), q _ H1 (Ex.refl _) (by rw [List.length_map, iv_len]; rfl)⟩
    refine em_call lf.length (a := a) rfl (es1 hlen) ⟨hlb, by omega⟩ r4 _ fun v H5 e5 r5 hv => ?_
    obtain ⟨j, hjl, hv⟩ := hv
    have hv : v = .int (j : Int) := hv
    subst hv
    have hjl : j < lf.length := hjl
    have hl5 := e5.o _ _ nap hl4
    have hf5 := e5.o _ _ naf hf4
    have hix : ((iv lf).map V.int)[j]? = some (.int (lf[j] : Nat)) := by
      unfold iv; rw [List.getElem?_map, List.getElem?_map, List.getElem?_eq_getElem hjl]; rfl
    refine ⟨pl, _, (j : Int), j, _, rfl, rfl, hl5, by omega, by omega, ?_, hix, ?_⟩
    · unfold seqIndex?
      rw [List.length_map, iv_len]
      simp [show ¬ ((j : Int) < 0) by omega, hjl]
    · have hf6 : upd H5 pl (.lst (((iv lf).map V.int).eraseIdx j)) pf = some (.lst ((iv fd).map V.int)) := by rw [upd_ne (Ne.symm nlf)]; exact hf5
      refine ⟨pf, _, _, rfl, rfl, hf6, sz_lt (by rw [List.length_map, iv_len]; omega), ?_⟩
      have e6 := (e4.trans e5).mut (o := .lst (((iv lf).map V.int).eraseIdx j)) npl
      have r6 := hw.mut (e4.trans e5) npl (o := .lst (((iv lf).map V.int).eraseIdx j)) r5
      have e7 := e6.mut (o := .lst ((iv fd).map V.int ++ [.int (lf[j] : Nat)])) nf
      have r7 := hw.mut e6 nf (o := .lst ((iv fd).map V.int ++ [.int (lf[j] : Nat)])) r6
      refine ⟨e7, r7, ?_, _, lf.eraseIdx j, fd ++ [lf[j]], rfl, ?_, ?_, ?_, ?_⟩
      · refine (t4.trans (r4.ext e5)).trans ((ExT.put fun xs z => ?_).trans (ExT.put fun xs z => ?_))
        · rw [hl5] at z; cases z
        · rw [hf6] at z; cases z
      · rw [upd_ne nlf, upd_same]
        unfold iv
        rw [erase_map, erase_map]
      · rw [upd_same]; unfold iv; simp
      · refine List.Perm.trans ?_ hperm
        have h1 : (lf.eraseIdx j ++ (fd ++ [lf[j]])).Perm (lf[j] :: (lf.eraseIdx j ++ fd)) := by
          rw [← List.append_assoc]
          exact List.perm_append_singleton ..
        refine h1.trans ?_
        rw [← List.cons_append]
        exact List.Perm.append_right fd (erase_perm hjl)
      · rw [List.length_append, hfl]; rfl
  · rintro σ' H' ⟨e4, r4, t4, b, lf, fd, rfl, hl4, hf4, hperm, hfl⟩
    dsimp only
    have hlf : lf = [] := by
      have := hperm.length_eq
      rw [List.length_append, List.length_range] at this
      exact List.eq_nil_of_length_eq_zero (by omega)
    subst hlf
    rw [List.nil_append] at hperm
    refine s_ret (R := tupV ((iv fd).map V.int)) ?_ fun v H5 e5 hv => hk v H5 (e4.trans (.of e5)) (r4.up e5) ⟨iv fd, ?_, hv⟩
    · exact ev_cb (es1 (ev_n (R := lstV ((iv fd).map V.int)) rfl ⟨pf, rfl, hf4⟩)) fun us H1 e hv Q q => by
        obtain ⟨_, rfl, p', rfl, h'⟩ := rels1 hv
        exact ⟨p', _, rfl, .inl ⟨SqL.of h', fun l hl => q _ _ (Ex.new hl) ⟨l, rfl, upd_same⟩⟩⟩
    · refine ⟨by rw [iv_len]; exact hfl, ?_, ?_⟩
      · unfold iv
        have := hperm.nodup_iff.mpr List.nodup_range
        rw [List.nodup_iff_pairwise_ne] at this ⊢
        rw [List.pairwise_map]
        exact this.imp fun h z => h (by omega)
      · intro c hc
        unfold iv at hc
        obtain ⟨z, hz, rfl⟩ := List.mem_map.mp hc
        have := List.mem_range.mp (hperm.mem_iff.mp hz)
        omega
end Wk
set_option Elab.async false
set_option linter.all false
set_option maxRecDepth 100000
set_option maxHeartbeats 2000000
namespace Wk
open PySem PySem.Spec PyProof.Rows L2 Evl SSort
variable {P : Program} {w : World} {K : PySem.W.Frag} {mg : Str → Option Value} {base : Heap}
theorem row_range (n : Nat) : Row n (iv (List.range n)) := by
  refine ⟨by rw [iv_len, List.length_range], ?_, ?_⟩
  · unfold iv
    have := List.nodup_range (n := n)
    rw [List.nodup_iff_pairwise_ne] at this ⊢
    rw [List.pairwise_map]
    exact this.imp fun h z => h (by omega)
  · intro c hc
    unfold iv at hc
    obtain ⟨z, hz, rfl⟩ := List.mem_map.mp hc
    have := List.mem_range.mp hz
    omega
theorem ok__law_goal (C : Ctx K mg) : Ok P w K mg base 4 "_law_goal" (He.fAd K d__law_goal.at_) P__law_goal [] (PmR K (fun d : Nat × List Nat => d.1 ≤ 7 ∧ Wd d.1 d.2 ∧ d.2.length ≤ 100) (fun d => [nn d.1, ti (iv d.2)]) (fun d => ex (Row d.1) ti)) := by
  have O__law_taken := ok__law_taken (P := P) (w := w) (base := base) C
  have O__law_row := ok__law_row (P := P) (w := w) (base := base) C
  have O__law_end := ok__law_end (P := P) (w := w) (base := base) C
  have O__law_lot := ok__law_lot (P := P) (w := w) (base := base) C
  refine mkPmR C.a__law_goal C.f__law_goal sc__law_goal (fun _ _ _ _ _ _ us hl => match us, hl with | [_, _, _], _ => rfl) (fun _ => rfl) fun cdv A outer s H a us Q E hr ⟨n, wd⟩ ⟨m1, hW, hl⟩ hw hv hk => ?_
  obtain ⟨_, wv, rfl, rfl, hwv⟩ := rels2 hv
  have m1 : n ≤ 7 := m1
  have hW : Wd n wd := hW
  have hl : wd.length ≤ 100 := hl
  refine ⟨_, (pss_cons (ps_set (i := 3) sc__law_goal.nd rfl (Or.inl rfl) (pcall O__law_taken (hr.mono (by decide)) (pa_cons (pv 0) (pa_cons pe_int pa_nil))))
    (pss_cons (ps_if (pt_cmpR op_eq (pv 3) pe_int (nomark _)) (pss_one (ps_ret (pcall O__law_row (hr.mono (by decide)) (pa_cons (pv 0) (pa_cons (pv 1) pa_nil))))) pss_nil)
    (pss_cons (ps_if (pt_cmpR op_eq (pv 3) pe_int (nomark _)) (pss_one (ps_ret (pe_tupRg rfl (by rfl) C.g_tuple (prg_1 (by rfl) C.g_range (pv 1))))) pss_nil)
    (pss_cons (ps_if (pt_cmpR op_lt (pv 3) pe_int (nomark _)) (pss_one (ps_ret (pcall O__law_end (hr.mono (by decide)) (pa_cons (pv 2) (pa_cons (pe_tup pa_nil) (pa_cons (pv 1) pa_nil)))))) pss_nil)
    (pss_one (ps_ret (pcall O__law_end (hr.mono (by decide)) (pa_cons (pv 2) (pa_cons (pcall O__law_lot (hr.mono (by decide)) (pa_cons (pv 0) (pa_cons (pe_callB (kcall_len K) (by rfl) C.g_len PySem.boot_len (pa_cons (pv 2) pa_nil)) pa_nil))) (pa_cons (pv 1) pa_nil)))))))))), ?_⟩
  refine mq_set hw (em_call 6 rfl (es1 ev_k) (by decide)) fun v H1 e1 r1 hv => ?_
  obtain ⟨y, hy, hv⟩ := hv
  have hv : v = .int (y : Int) := hv
  subst hv
  have hwv1 := im_ti.up (hw.ext e1) hwv
  refine q_when (t_test (ev_eqN (ev_n (R := nn y) rfl rfl) (ev_k (v := .int ((0 : Nat) : Int))))) (fun hb H2 e2 => ?_) (fun hb H2 e2 => ?_)
  · exact m_ret (r1.up e2) (em_call n rfl (es1 (ev_n (R := nn n) rfl rfl)) m1) fun v H3 e3 r3 hv => hk v H3 ((e1.trans (.of e2)).trans e3) r3 hv
  refine q_when (t_test (ev_eqN (ev_n (R := nn y) rfl rfl) (ev_k (v := .int ((1 : Nat) : Int))))) (fun hb H3 e3 => ?_) (fun hb H3 e3 => ?_)
  · exact s_ret (ev_tupRg (ev_n (R := nn n) rfl rfl) (by omega)) fun v H4 e4 hv => hk v H4 (e1.trans (.of ((e2.trans e3).trans e4))) (r1.up ((e2.trans e3).trans e4)) ⟨_, row_range n, hv⟩
  have hwv3 := (ti (iv wd)).up (e2.trans e3) hwv1
  have hE : ∀ L, Row n (runF (turned n) wd 0 (has L)) := fun L => runF_row hW (turned_row n)
  refine q_when (t_test (ev_I (g := fun i j => .bl (decide (i < j))) (ev_n (R := nn y) rfl rfl) (ev_k (v := .int 4)))) (fun hb H4 e4 => ?_) (fun hb H4 e4 => ?_)
  · exact s_ret (ev_call0 (n, wd, []) (es_cons (ev_n rfl ((ti (iv wd)).up e4 hwv3)) (es_cons (ev_tupI (ns := []) es_nil (by decide)) (es1 (ev_n (R := nn n) rfl rfl)))) rfl ⟨hW, m1⟩) fun v H5 e5 hv => hk v H5 (e1.trans (.of (((e2.trans e3).trans e4).trans e5))) (r1.up (((e2.trans e3).trans e4).trans e5)) ⟨_, hE [], hv⟩
  · have hwv4 := (ti (iv wd)).up e4 hwv3
    have r4 := r1.up ((e2.trans e3).trans e4)
    refine ⟨wv, rfl, ?_⟩
    refine em_call wd.length (a := a) rfl (es1 ((ev_lenTi (ev_n rfl hwv4)).to (by rw [iv_len]))) hl r4 _ fun v H5 e5 r5 hv => ?_
    obtain ⟨L, _, hL⟩ := hv
    refine ⟨_, rfl, ?_⟩
    refine ⟨(n, wd, L), ⟨hW, m1⟩, ⟨im_ti.up (r4.ext e5) hwv4, hL, rfl, trivial⟩, fun v H6 e6 hv => hk v H6 ((e1.trans (.of ((e2.trans e3).trans e4))).trans (e5.trans (.of e6))) (r5.up e6) ⟨_, hE L, hv⟩⟩
theorem cat2 {x y : List Int} {u v : V} {H : Hp} {Q : VK} (hu : (ti x).h u H) (hv : (ti y).h v H) (hl : x.length + y.length ≤ 100000) (q : ∀ z H2, Ex H H2 → (ti (x ++ y)).h z H2 → Q z H2) : rCatA K u v H Q := by
  obtain ⟨_, h1, _, h2, h⟩ := (ev_catI (K := K) (σ := [some u, some v]) (ev_n (i := 0) rfl hu) (ev_n (i := 1) rfl hv) hl) H (Ex.refl _) Q q
  cases h1
  cases h2
  exact h
def Case (d : Nat × List Nat × List Int) : Prop := 1 ≤ d.1 ∧ d.1 ≤ 5 ∧ Wd d.1 d.2.1 ∧ d.2.1.length ≤ 9 ∧ Row d.1 d.2.2
theorem ok__law_case (C : Ctx K mg) : Ok P w K mg base 5 "_law_case" (He.fAd K d__law_case.at_) P__law_case [] (PmR K (fun _ : Unit => True) (fun _ => [nn 5, nn 9]) (fun _ => ex Case fun d => tp [nn d.1, ti (iv d.2.1), ti d.2.2])) := by
  have O__law_taken := ok__law_taken (P := P) (w := w) (base := base) C
  have O__law_pick := ok__law_pick (P := P) (w := w) (base := base) C
  have O__law_word := ok__law_word (P := P) (w := w) (base := base) C
  have O__law_sorter := ok__law_sorter (P := P) (w := w) (base := base) C
  have O__law_goal := ok__law_goal (P := P) (w := w) (base := base) C
  refine mkPmR C.a__law_case C.f__law_case sc__law_case (fun _ _ _ _ _ _ us hl => match us, hl with | [_, _, _], _ => rfl) (fun _ => rfl) fun cdv A outer s H a us Q E hr _ _ hw hv hk => ?_
  obtain ⟨_, _, rfl, rfl, rfl⟩ := rels2 hv
  refine ⟨_, (pss_cons (ps_set (i := 3) sc__law_case.nd rfl (Or.inl rfl) (pcall O__law_pick (hr.mono (by decide)) (pa_cons (pv 0) (pa_cons (pe_lc (own := [("_law_size", 4)]) (g := gName 4)  rfl sc__law_case.nd (kpi_list K (pe_lst (pa_cons pe_int (pa_cons pe_int (pa_cons pe_int (pa_cons pe_int (pa_cons pe_int (pa_cons pe_int (pa_cons pe_int (pa_cons pe_int pa_nil)))))))))) (blkOk_by (own := [("_law_size", 4)]) (N := N__law_case) (sc := defScope s__law_case) (by decide +kernel)) (fun _ _ _ _ _ => pg_name (i := 4) sc__law_case.nd rfl (Or.inl rfl)) (fun _ _ _ _ _ => (pts_one (pt_cmpR op_le (pv 4) (pv 1) (nomark _)))) (fun _ _ _ _ _ => (pv 4))) pa_nil))))
    (pss_cons (ps_set (i := 5) sc__law_case.nd rfl (Or.inl rfl) (pcall O__law_word (hr.mono (by decide)) (pa_cons (pv 0) (pa_cons (pv 3) (pa_cons (pv 2) pa_nil)))))
    (pss_cons (ps_if (PW.pt (pw_and (pt_cmpR op_gt (pv 3) pe_int (nomark _)) (pw_and1 (pt_cmpR op_eq (pcall O__law_taken (hr.mono (by decide)) (pa_cons (pv 0) (pa_cons pe_int pa_nil))) pe_int (nomark _))))) (pss_cons (ps_set (i := 5) sc__law_case.nd rfl (Or.inl rfl) (pe_op (kcatA K) (pcall O__law_sorter (hr.mono (by decide)) (pa_cons (pv 3) pa_nil)) (pcall O__law_word (hr.mono (by decide)) (pa_cons (pv 0) (pa_cons (pv 3) (pa_cons pe_int pa_nil))))))
    (pss_one (ps_set (i := 5) sc__law_case.nd rfl (Or.inl rfl) (pe_slice (ksl_tupA K) (pv 5) po_none (po_some (pv 2)))))) pss_nil)
    (pss_one (ps_ret (pe_tup (pa_cons (pv 3) (pa_cons (pv 5) (pa_cons (pcall O__law_goal (hr.mono (by decide)) (pa_cons (pv 0) (pa_cons (pv 3) (pa_cons (pv 5) pa_nil)))) pa_nil))))))))), ?_⟩
  have hL := ev_lcL (K := K) (g := gName 4) (tt := tTest (tOp (rI0 fun i j => .bl (decide (i ≤ j))) (tVar 4) (tVar 1))) (te := tVar 4) (vs := [4]) (σ := [some (V.ref a), some (V.int 5), some (V.int 9), none, none, none]) (H := H) [1, 2, 3, 3, 4, 4, 5, 5] nn nn (fun k : Nat => decide ((k : Int) ≤ 5)) (ev_lst (es_cons (ev_k (v := .int 1)) (es_cons (ev_k (v := .int 2)) (es_cons (ev_k (v := .int 3)) (es_cons (ev_k (v := .int 3)) (es_cons (ev_k (v := .int 4)) (es_cons (ev_k (v := .int 4)) (es_cons (ev_k (v := .int 5)) (es_cons (ev_k (v := .int 5)) es_nil)))))))) (by decide)) (fun _ => im_nn) (by decide) fun k hk' v H' e hv => body_n (fun _ => rfl) (t_I (p := fun i j => decide (i ≤ j)) (i := (k : Int)) (j := 5) (ev_n rfl hv) (ev_n rfl rfl)) fun _ => ev_n rfl hv
  have hf : ([1, 2, 3, 3, 4, 4, 5, 5].filter fun k : Nat => decide ((k : Int) ≤ 5)) = [1, 2, 3, 3, 4, 4, 5, 5] := by decide
  rw [hf] at hL
  refine ⟨.ref a, rfl, hL H (Ex.refl _) _ fun lv H1 e1 hlv => ?_⟩
  obtain ⟨p, ys, rfl, hp, hr'⟩ := hlv
  have hne : p ≠ a := fun z => by
    obtain ⟨l, xs, i, s, c, r⟩ := hw.up e1
    have := r.at_
    rw [← z, hp] at this
    cases this
    have h8 := rels_len hr'
    simp at h8
  have hy : ys = [1, 2, 3, 3, 4, 4, 5, 5].map fun k : Nat => V.int (k : Int) := by
    have : ([1, 2, 3, 3, 4, 4, 5, 5].map nn : List Rel) = ([1, 2, 3, 3, 4, 4, 5, 5].map fun k : Nat => V.int (k : Int)).map is := rfl
    rw [this] at hr'
    exact rels_is.mp hr'
  have r1 := hw.up e1
  refine ⟨a, p, ys, rfl, r1, hne, hp, by rw [hy]; decide, by rw [hy]; decide, fun v H2 i e2 r2 hv => ?_⟩
  obtain ⟨n, hn, rfl⟩ : ∃ n : Nat, (1 ≤ n ∧ n ≤ 5) ∧ v = .int (n : Int) := by
    rw [hy, List.getElem?_map] at hv
    cases h : ([1, 2, 3, 3, 4, 4, 5, 5] : List Nat)[i]? with
    | none => rw [h] at hv; cases hv
    | some n =>
      rw [h] at hv
      refine ⟨n, ?_, (Option.some.inj hv).symm⟩
      have hm := List.mem_of_getElem? h
      revert hm
      have : ∀ n ∈ ([1, 2, 3, 3, 4, 4, 5, 5] : List Nat), 1 ≤ n ∧ n ≤ 5 := by decide
      exact this n
  obtain ⟨n1, n5⟩ := hn
  refine mq_set (a := a) r2 (em_call (n, 9) rfl (es_cons (ev_n (R := nn n) rfl rfl) (es1 (ev_n (R := nn 9) rfl rfl))) ⟨n1, by show n ≤ 7; omega, by show 9 ≤ 100; decide⟩) fun wv H3 e3 r3 hwv => ?_
  obtain ⟨wd, ⟨hW, hl⟩, hwv⟩ := hwv
  have hW : Wd n wd := hW
  have hl : wd.length ≤ 9 := hl
  have e03 : ExR a H H3 := ((ExR.of e1).trans e2).trans e3
  -- the end: the goal is drawn
  have fin : ∀ (H4 : Hp) (wv : V) (wd : List Nat), ExR a H H4 → Rw K a H4 → Wd n wd → wd.length ≤ 9 → (ti (iv wd)).h wv H4 → tRet (tTup (tCons (tVar 3) (tCons (tVar 5) (tCons (tCall (PmR K (fun d : Nat × List Nat => d.1 ≤ 7 ∧ Wd d.1 d.2 ∧ d.2.length ≤ 100) (fun d => [nn d.1, ti (iv d.2)]) (fun d => ex (Row d.1) ti)) [] E0 (tCons (tVar 0) (tCons (tVar 3) (tCons (tVar 5) tNil)))) tNil)))) { nx := fun _ H' => Q .non H', rt := Q } [some (V.ref a), some (V.int 5), some (V.int 9), some (V.int (n : Int)), none, some wv] H4 := by
    intro H4 wv wd e4 r4 hW hl hwv
    refine ⟨_, rfl, _, rfl, ?_⟩
    refine em_call (n, wd) (a := a) rfl (es_cons (ev_n (R := nn n) rfl rfl) (es1 (ev_n rfl hwv))) ⟨by show n ≤ 7; omega, hW, by show wd.length ≤ 100; omega⟩ r4 _ fun gv H5 e5 r5 hg => ?_
    obtain ⟨g, hg, hgv⟩ := hg
    refine ⟨sz_of (by show 3 ≤ 100000; decide), fun t ht => hk _ _ (e4.trans (e5.trans (.of (Ex.new ht)))) (r5.up (Ex.new ht)) ⟨(n, wd, g), ⟨n1, n5, hW, hl, hg⟩, t, _, rfl, upd_same, rfl, im_ti.up ((r4.ext e5).trans (Ex.t (Ex.new ht))) hwv, (ti g).up (Ex.new ht) hgv, trivial⟩⟩
  refine (fun Q2 q2 => ?_ : ∀ Q2 : Bool → Hp → Prop, (∀ b H4, ExR a H3 H4 → Rw K a H4 → (b = true → 2 ≤ n) → Q2 b H4) → (tAnd (tTest (tOp (rI0 fun i j => .bl (decide (j < i))) (tVar 3) (tC (.int 1)))) (tTest (tOp rEq (tCall (sp_taken K) [] E0 (tCons (tVar 0) (tCons (tC (.int 3)) tNil))) (tC (.int 0))))) ([some (V.ref a), some (V.int 5), some (V.int 9), some (V.int (n : Int)), none, some wv] : L2.St) H3 Q2) _ fun b H4 e4 r4 hb => ?_
  · refine (t_I (p := fun i j => decide (j < i)) (ev_n (R := nn n) rfl rfl) (ev_k (v := .int 1)) : EvT _ _ _ (decide ((1 : Int) < (n : Int)))) H3 (Ex.refl _) _ fun H4 e4 => ?_
    by_cases hn : (1 : Int) < (n : Int)
    · rw [decide_eq_true hn]
      rw [if_pos rfl]
      refine em_call 3 (a := a) rfl (es1 ev_k) (by decide) (r3.up e4) _ fun v H5 e5 r5 hv => ?_
      obtain ⟨z, hz, hv⟩ := hv
      have hv : v = .int (z : Int) := hv
      subst hv
      exact ⟨rfl, _, rfl, q2 _ H5 ((ExR.of e4).trans e5) r5 fun _ => by omega⟩
    · rw [decide_eq_false hn]
      exact q2 false H4 (.of e4) (r3.up e4) fun h => by cases h
  · have hwv4 := im_ti.up (r3.ext e4) hwv
    cases b with
    | false =>
      rw [if_neg (by decide)]
      exact fin H4 wv wd (e03.trans e4) r4 hW hl hwv4
    | true =>
      have hn2 := hb rfl
      rw [if_pos rfl]
      refine (ev_call0 n (es1 (ev_n (R := nn n) rfl rfl)) rfl (show 1 ≤ n ∧ n ≤ 7 by omega)) H4 (Ex.refl _) _ fun sv H5 e5 hs => ?_
      obtain ⟨ws, ⟨hWs, hls⟩, hsv⟩ := hs
      have r5 := r4.up e5
      refine em_call (n, 3) (a := a) rfl (es_cons (ev_n (R := nn n) rfl rfl) (es1 ev_k)) ⟨n1, by show n ≤ 7; omega, by show 3 ≤ 100; decide⟩ r5 _ fun xv H6 e6 r6 hx => ?_
      obtain ⟨wx, ⟨hWx, hlx⟩, hxv⟩ := hx
      have hls : ws.length ≤ 50 := hls
      have hlx : wx.length ≤ 3 := hlx
      have hsv6 := im_ti.up (r5.ext e6) hsv
      have r6x := r6
      refine cat2 hsv6 hxv (by rw [iv_len, iv_len]; omega) fun cv H7 e7 hc => ?_
      have r7 := r6.up e7
      refine s_set (ev_sl1 (k := 9) (ev_n rfl hc) (eo_s (ev_n (R := nn 9) rfl rfl))) fun xv2 H8 e8 hx2 => ?_
      refine fin H8 xv2 ((ws ++ wx).take 9) (e03.trans (e4.trans ((ExR.of e5).trans (e6.trans (.of (e7.trans e8)))))) (r7.up e8) (fun s hs => ?_) ?_ ?_
      · rcases List.mem_append.mp (List.mem_of_mem_take hs) with h | h
        · exact hWs s h
        · exact hWx s h
      · rw [List.length_take]; omega
      · have : iv ((ws ++ wx).take 9) = (iv ws ++ iv wx).take 9 := by unfold iv; rw [List.map_take, List.map_append]
        rw [this]; exact hx2
end Wk
set_option Elab.async false
set_option linter.all false
set_option maxRecDepth 100000
set_option maxHeartbeats 2000000
namespace Wk
open PySem PySem.Spec PyProof.Rows L2 Evl
section
variable {prog : Program} {w : World} {K : Type} [DecidableEq K] {knd : HeapKind prog w K} {A : Around} {E : Value → Shared → Prop} {s : Shared}
/-- dict(d): keys that are tuples -/
theorem call_dictH {o : Addr} {more : List (K × Addr × Value)} {Q : Value → Shared → Prop} (hu : knd.room A.in1.in1) (hoS : (o == sysModules) = false) (ho : s.heap.DictOfH knd o more) (hsz : more.length ≤ sizeLine)
    (hty : ∀ x ∈ more, s.TypeIs (.ref x.2.1) "tuple") (hap : (more.map fun x => knd.hash x.1).Nodup) (hst : ∀ x ∈ more, knd.is (s.heap.push { cls := .type "dict", data := .dict #[] }) x.1 x.2.1)
    (h : ∀ h', h'.DictOfH knd s.heap.objs.size more → Heap.SameBut s.heap.objs.size (s.heap.push { cls := .type "dict", data := .dict #[] }) h' → Q (.ref s.heap.objs.size) { s with heap := h' }) :
    wpAny (model prog w) A (call (.type "dict") [.ref o]) Q E s := by
  refine callType_codes (Q₁ := fun obj s₁ => obj = .ref s.heap.objs.size ∧ s₁ = { s with heap := s.heap.push { cls := .type "dict", data := .dict #[] } }) F.kt_called_dict (F.kt_typeCall_dict_1 _) F.entry_dict_init (kt_code_dict_new _ ⟨rfl, rfl⟩) ?_
  rintro obj s₁ ⟨rfl, rfl⟩
  have hnew : (s.heap.push { cls := .type "dict", data := .dict #[] }).DictOfH knd s.heap.objs.size [] := Heap.DictOfH.new s.heap
  have hne : ∀ b ob, s.heap.get? b = some ob → (s.heap.push { cls := .type "dict", data := .dict #[] }).get? b = some ob := fun b ob e => Heap.get?_push_of_some _ e
  have ho' : (s.heap.push { cls := .type "dict", data := .dict #[] }).DictOfH knd o more := by
    obtain ⟨ob, es, ep, h1, h2, h3, h4, h5, h6⟩ := ho
    exact ⟨ob, es, ep, hne _ _ h1, h2, h3, h4, hst, h6⟩
  have hn : (more.map (·.1)).Nodup := ho.nodup
  have hdo : s.heap.objs.size ≠ o := by
    obtain ⟨_, _, _, hg, _⟩ := ho
    exact fun e => absurd (Heap.lt_size hg) (by rw [e]; exact Nat.lt_irrefl _)
  refine ⟨hnew.typeIs, F.args_dict_init_2 _ _, ?_⟩
  unfold Builtin.«dict.__init__»
  refine wpAny_bind ?_
  unfold Builtin.Dict.selfAndRest
  refine wpAny_bind (wpAny_notOrdered_dict hnew.typeIs ?_)
  show wpAny _ _ (pure (s.heap.objs.size, [Value.ref o])) _ _ _
  refine wpAny_pure ?_
  show wpAny _ _ (Builtin.Dict.updateFrom "dict.__init__" s.heap.objs.size (.ref o) [] .none) _ _ _
  refine updateFrom_dictH .none hu hdo hoS hnew ho' (.inr ⟨fun x hx => ?_, hap⟩) (by simpa using hsz) fun h' hd' _ hs' => ?_
  · obtain ⟨ob, h1, h2⟩ := hty x hx
    exact ⟨ob, hne _ _ h1, h2⟩
  · rw [storedAllH_nil_of_nodup more hn] at hd'
    exact ⟨rfl, h h' hd' hs'⟩
/-- {k: v}, k a tuple -/
theorem dict_walkH {k v : Expr} {env : Env} {pos : Pos} {Q : Value → Shared → Prop} (hu : knd.room A)
    (h : wpAny (model prog w) A (evalPairs (pairTrees [some k] [v] env pos)) (fun vs s₁ => ∃ ps, CarriesH knd s₁.heap vs ps ∧ s₁.heap.DictOfH knd s.heap.objs.size [] ∧
      ∀ h' tk, h'.DictOfH knd s.heap.objs.size (storedAllH [] ps) → Heap.SameBut s.heap.objs.size s₁.heap h' → Q (.ref s.heap.objs.size) { s₁ with heap := h', toks := tk }) E
      { s with heap := s.heap.push { cls := .type "dict", data := .dict #[] } }) : wpAny (model prog w) A (eval (.Dict [some k] [v] pos) env) Q E s := by
  rw [arm_eval_Dict, zip_pairTrees [some k] [v] env pos rfl rfl, dictDisplay_pairs _ (by intro z; cases z) (by show 1 < 17; decide)]
  exact wpAny_bind (wpAny_standAt (wpAny_bind (wpAny_subDictH (knd := knd) (Q := fun d s' => wpAny (model prog w) A (pure (Value.ref d)) Q E s') hu (by show 1 ≤ 15; decide)
    (wpAny_mono h (fun vs s₁ h₁ => by obtain ⟨ps, hc, hm, hq⟩ := h₁; exact ⟨ps, hc, hm, fun h' tk a b => wpAny_pure (hq h' tk a b)⟩) fun _ _ e => e))))
end
section
variable {X : Cx}
def rDictT (K : PySem.W.Frag) (P : Program) (w : World) : List V → Hp → VK → Prop := fun xs H Q => ∃ (a : Addr) (kvs : List (List Key × V)), xs = [.ref a] ∧ H a = some (.dT kvs) ∧ (kvs.map fun p => (tupleKind (mixKind P w)).hash p.1).Nodup ∧ ∀ p, H p = none → Q (.ref p) (upd H p (.dT kvs))
theorem KT.keys {H : Hp} {kvs : List (List Key × V)} {xs : List (List Key × Addr × Value)} (r : KT H kvs xs) : xs.map (·.1) = kvs.map (·.1) := by
  induction r with
  | nil => rfl
  | cons h t ih => rw [List.map_cons, List.map_cons, ih, h.1]
theorem KT.tups {H : Hp} {kvs : List (List Key × V)} {xs : List (List Key × Addr × Value)} (r : KT H kvs xs) : ∀ x ∈ xs, H x.2.1 = some (.tup (x.1.map kV)) := by
  induction r with
  | nil => intro x hx; exact nomatch hx
  | cons h t ih =>
    intro x hx
    rcases List.mem_cons.mp hx with e | hx
    · subst e; rw [← h.1]; exact h.2.1
    · exact ih x hx
theorem cr_dictT (K : PySem.W.Frag) (P : Program) (w : World) (hu : X.A.units + 2 < cLine) (h1 : X.prog = P := by rfl) (h2 : X.w = w := by rfl) : CallR X (.type "dict") (rDictT K P w) := by
  subst h1 h2
  intro pins s σ H xs us Q I r h
  obtain ⟨a, kvs, rfl, e, hap, q⟩ := h
  obtain rfl := Vals.ref1 r
  obtain ⟨z, hd, xs, rel, dd⟩ := dt_rd I.hok (.inl e)
  have hlen : kvs.length = xs.length := Paired.length rel
  refine call_dictH (knd := tupleKind (mixKind X.prog X.w)) hu hd dd (by omega) (fun x hx => ?_) ?_ (fun x hx => ?_) fun h' dd' hs => ?_
  · obtain ⟨_, its, _, ht⟩ := (show ObjOk X.prog X.w H s.heap x.2.1 (.tup (x.1.map kV)) from I.hok _ _ (KT.tups rel x hx))
    exact ht.typeIs
  · have : (xs.map fun x => (tupleKind (mixKind X.prog X.w)).hash x.1) = kvs.map fun p => (tupleKind (mixKind X.prog X.w)).hash p.1 := by
      have := congrArg (List.map fun k => (tupleKind (mixKind X.prog X.w)).hash k) (KT.keys rel)
      rwa [List.map_map, List.map_map] at this
    rw [this]; exact hap
  · have := key_of (P := X.prog) (w := X.w) I.hok (KT.tups rel x hx)
    obtain ⟨o, items, n, ho, hc, hdd, hit⟩ := this
    exact ⟨o, items, n, Heap.get?_push_of_some _ ho, hc, hdd, hit⟩
  · have hk : ∀ b ob, s.heap.get? b = some ob → h'.get? b = some ob := fun b ob hb => by
      have hb2 : (s.heap.push { cls := .type "dict", data := .dict #[] }).get? b = some ob := Heap.get?_push_of_some _ hb
      exact (hs.2 b (Nat.ne_of_lt (Heap.lt_size hb))).trans hb2
    obtain ⟨o, es, ep, g1, g2, g3, g4, _, g5⟩ := dd'
    refine ⟨.ref s.heap.objs.size, upd H s.heap.objs.size (.dT kvs), I.laid (t' := s.toks) hk (Nat.le_refl _) ⟨z, beq_eq_false_iff_ne.mpr (Ne.symm (Nat.ne_of_lt I.big)), xs, rel.keeps fun c ys ec => ?_, o, es, ep, g1, g2, g3, g4, g5⟩, rfl, q _ (I.hok.fresh (Nat.le_refl _))⟩
    rw [upd_ne (ne_of_none ec (I.hok.fresh (Nat.le_refl _)))]
    exact ec
/-- {k: v}, k a tuple -/
def tDispT (tk tv : TE) : TE := fun σ H Q => ∀ p, H p = none → tk σ (upd H p (.dT [])) fun x H1 => tv σ H1 fun y H2 => H2 p = some (.dT []) ∧ ∃ (b : Addr) (k : List Key), x = .ref b ∧ H2 b = some (.tup (k.map kV)) ∧ Q (.ref p) (upd H2 p (.dT [(k, y)]))
theorem pe_dispT {k v : Expr} {tk tv : TE} {pos : Pos} (hu : X.A.units < cLine) (hk : PE X k tk) (hv : PE X v tv) : PE X (.Dict [some k] [v] pos) (tDispT tk tv) := by
  refine ⟨fun pins s σ H Q I q => ?_⟩
  have hn := I.hok.fresh (Nat.le_refl s.heap.objs.size)
  have I1 := I.laid (a := s.heap.objs.size) (o := .dT []) (h' := s.heap.push { cls := .type "dict", data := .dict #[] }) (t' := s.toks) (fun _ _ q => Heap.get?_push_of_some _ q) (Nat.le_refl _) (dt_empty s.heap I.big)
  refine dict_walkH (knd := tupleKind (mixKind X.prog X.w)) hu (pairTrees_cons_walk (thn (hk.run pins _ σ _ _ I1 (q _ hn)) fun u s2 ⟨x, H2, I2, rx, q2⟩ => thn (hv.run pins _ σ _ _ I2 q2) fun u2 s3 ⟨y, H3, I3, ry, e, b, ks, ex, eb, q3⟩ => pairTrees_nil_walk ?_))
  subst ex
  obtain rfl : u = Value.ref b := rx
  obtain ⟨z, hd, xs, rel, dd⟩ := dt_of I3.hok e
  cases rel
  refine ⟨[(ks, b, u2)], ⟨rfl, rfl, key_of I3.hok eb, trivial⟩, dd, fun h' tk dd' hs => ⟨.ref s.heap.objs.size, _, ?_, rfl, q3⟩⟩
  obtain ⟨o, es, ep, g1, g2, g3, g4, _, g5⟩ := dd'
  refine d_write I3 (by rw [e]; exact True.intro) hs ⟨o, g1⟩ ⟨by show 1 ≤ sizeLine; decide, hd, [(ks, b, u2)], .cons ⟨rfl, ?_, ry⟩ .nil, o, es, ep, g1, g2, g3, g4, g5⟩
  rw [upd_ne (ne_of eb e (fun z => nomatch z))]
  exact eb
end
end Wk
set_option Elab.async false
set_option linter.all false
set_option maxRecDepth 100000
set_option maxHeartbeats 2000000
namespace Wk
open PySem PySem.Spec PyProof.Rows L2 Evl SSort
/-! ### relations that read as data -/
def Dps (K : PySem.W.Frag) (A : Rel) (d : PyData) : Prop := ∀ v H, A.h v H → Dp K H v d
section
variable {K : PySem.W.Frag} {σ : L2.St} {H : Hp} {te ta tb : TE} {A B : Rel} {d e : PyData}
theorem ev_eqDp (ha : EvR ta σ H A) (hb : EvR tb σ H B) (hA : Dps K A d) (hB : Dps K B e) (sd : SeqAt.shaped d = true) (se : SeqAt.shaped e = true) : EvR (tOp (rEqD K) ta tb) σ H (bb (PyData.eqv d e)) :=
  ev_o ha hb fun x y H1 _ hx hy Q q => ⟨d, e, hA _ _ hx, hB _ _ hy, sd, se, q _ H1 (Ex.refl _) rfl⟩
theorem ev_neDp (ha : EvR ta σ H A) (hb : EvR tb σ H B) (hA : Dps K A d) (hB : Dps K B e) (sd : SeqAt.shaped d = true) (se : SeqAt.shaped e = true) : EvR (tOp (rNeD K) ta tb) σ H (bb (!PyData.eqv d e)) :=
  ev_o ha hb fun x y H1 _ hx hy Q q => ⟨d, e, hA _ _ hx, hB _ _ hy, sd, se, q _ H1 (Ex.refl _) rfl⟩
theorem dpAll_int : ∀ {ns : List Int}, DpAll K H (ns.map V.int) (ns.map PyData.int)
  | [] => .nil
  | n :: ns => .cons (.int n) dpAll_int
def dti (ns : List Int) : PyData := .tuple (ns.map PyData.int)
theorem dps_ti {ns : List Int} : Dps K (ti ns) (dti ns) := fun v H ⟨a, e, h⟩ => by
  subst e; exact .tup (SqT.of h) dpAll_int
theorem dps_ii {n : Int} : Dps K (ii n) (.int n) := fun v H e => by
  have e : v = .int n := e
  subst e; exact .int n
theorem dpAll_rels : ∀ {Rs : List Rel} {ds : List PyData} {vs : List V} {H : Hp}, Paired (Dps K) Rs ds → Rels Rs vs H → DpAll K H vs ds
  | [], _, [], _, .nil, _ => .nil
  | R :: Rs, _, v :: vs, H, .cons h t, r => .cons (h _ _ r.1) (dpAll_rels t r.2)
  | [], _, _ :: _, _, _, r => r.elim
  | _ :: _, _, [], _, _, r => r.elim
theorem forall2_map {α : Type} {T : α → Rel} {f : α → PyData} (h : ∀ a, Dps K (T a) (f a)) : ∀ l : List α, Paired (Dps K) (l.map T) (l.map f)
  | [] => .nil
  | a :: l => .cons (h a) (forall2_map h l)
theorem dps_ls {α : Type} {T : α → Rel} {f : α → PyData} (h : ∀ a, Dps K (T a) (f a)) {l : List α} : Dps K (ls (l.map T)) (.list (l.map f)) := fun v H ⟨a, vs, e, hh, r⟩ => by
  subst e; exact .lst (SqL.of hh) (dpAll_rels (forall2_map h l) r)
theorem dps_tp {Rs : List Rel} {ds : List PyData} (h : Paired (Dps K) Rs ds) : Dps K (tp Rs) (.tuple ds) := fun v H ⟨a, vs, e, hh, r⟩ => by
  subst e; exact .tup (SqT.of hh) (dpAll_rels h r)
/-- flat enough -/
def Flt (n : Nat) (d : PyData) : Prop := d.canLay0 = true ∧ d.depth ≤ n
theorem flt_int {n : Int} : Flt 0 (.int n) := ⟨by simp [PyData.canLay0], by simp [PyData.depth]⟩
theorem flt_all {α : Type} {f : α → PyData} {n : Nat} (h : ∀ a, Flt n (f a)) : ∀ l : List α, PyData.canLayAll0 (l.map f) = true ∧ PyData.depthAll (l.map f) ≤ n
  | [] => ⟨by simp [PyData.canLayAll0], by simp [PyData.depthAll]⟩
  | a :: l => by
    have ih := flt_all h l
    rw [List.map_cons, PyData.canLayAll0, PyData.depthAll]
    exact ⟨by rw [(h a).1, ih.1]; rfl, Nat.max_le.mpr ⟨(h a).2, ih.2⟩⟩
theorem flt_list {α : Type} {f : α → PyData} {n : Nat} (h : ∀ a, Flt n (f a)) (l : List α) : Flt (n + 1) (.list (l.map f)) := by
  have := flt_all h l
  exact ⟨by rw [PyData.canLay0]; exact this.1, by rw [PyData.depth]; omega⟩
theorem flt_tup {α : Type} {f : α → PyData} {n : Nat} (h : ∀ a, Flt n (f a)) (l : List α) : Flt (n + 1) (.tuple (l.map f)) := by
  have := flt_all h l
  exact ⟨by rw [PyData.canLay0]; exact this.1, by rw [PyData.depth]; omega⟩
theorem flt_dti {ns : List Int} : Flt 1 (dti ns) := flt_tup (fun _ => flt_int) ns
theorem Flt.sh {n : Nat} {d : PyData} (h : Flt n d) (hn : n ≤ 64) : SeqAt.shaped d = true := by
  unfold SeqAt.shaped
  rw [h.1, Bool.true_and, decide_eq_true_iff]
  exact Nat.le_trans h.2 hn
theorem eqv_dti {a b : List Int} : PyData.eqv (dti a) (dti b) = decide (a = b) := by
  unfold dti
  rw [PyData.eqv]
  exact PySem.W.eqvAll_map (α := Int) a b
theorem eqv_li {a b : List Int} : PyData.eqv (.list (a.map PyData.int)) (.list (b.map PyData.int)) = decide (a = b) := by
  rw [PyData.eqv]
  exact PySem.W.eqvAll_map (α := Int) a b
theorem eqv_nil {l : List PyData} : PyData.eqv (.list l) (.list []) = l.isEmpty := by
  cases l with
  | nil => rw [PyData.eqv, PyData.eqvAll]; rfl
  | cons a l => rw [PyData.eqv, PyData.eqvAll]; rfl
/-- l == [], l != [] -/
theorem ev_eqNil {α : Type} {T : α → Rel} {f : α → PyData} {n : Nat} {l : List α} (ha : EvR ta σ H (ls (l.map T))) (h : ∀ a, Dps K (T a) (f a)) (hf : ∀ a, Flt n (f a)) (hn : n < 64) : EvR (tOp (rEqD K) ta (tLst tNil)) σ H (bb l.isEmpty) :=
  (ev_eqDp (B := ls (([] : List Nat).map nn)) (e := .list (([] : List Nat).map fun k : Nat => PyData.int (k : Int))) ha (ev_lst es_nil (by decide)) (dps_ls h) (dps_ls fun _ => dps_ii) ((flt_list hf l).sh hn) ((flt_list (fun _ => flt_int) []).sh (by decide))).to (by
    rw [List.map_nil, eqv_nil, List.isEmpty_map])
theorem ev_neNil {α : Type} {T : α → Rel} {f : α → PyData} {n : Nat} {l : List α} (ha : EvR ta σ H (ls (l.map T))) (h : ∀ a, Dps K (T a) (f a)) (hf : ∀ a, Flt n (f a)) (hn : n < 64) : EvR (tOp (rNeD K) ta (tLst tNil)) σ H (bb (!l.isEmpty)) :=
  (ev_neDp (B := ls (([] : List Nat).map nn)) (e := .list (([] : List Nat).map fun k : Nat => PyData.int (k : Int))) ha (ev_lst es_nil (by decide)) (dps_ls h) (dps_ls fun _ => dps_ii) ((flt_list hf l).sh hn) ((flt_list (fun _ => flt_int) []).sh (by decide))).to (by
    rw [List.map_nil, eqv_nil, List.isEmpty_map])
theorem ev_eqTi {a b : List Int} (ha : EvR ta σ H (ti a)) (hb : EvR tb σ H (ti b)) : EvR (tOp (rEqD K) ta tb) σ H (bb (decide (a = b))) :=
  (ev_eqDp ha hb dps_ti dps_ti (flt_dti.sh (by decide)) (flt_dti.sh (by decide))).to (by rw [eqv_dti])
theorem ev_neTi {a b : List Int} (ha : EvR ta σ H (ti a)) (hb : EvR tb σ H (ti b)) : EvR (tOp (rNeD K) ta tb) σ H (bb (!decide (a = b))) :=
  (ev_neDp ha hb dps_ti dps_ti (flt_dti.sh (by decide)) (flt_dti.sh (by decide))).to (by rw [eqv_dti])
theorem ev_neLn {a b : List Nat} (ha : EvR ta σ H (ls (a.map nn))) (hb : EvR tb σ H (ls (b.map nn))) : EvR (tOp (rNeD K) ta tb) σ H (bb (!decide (a = b))) :=
  (ev_neDp ha hb (dps_ls (f := fun k : Nat => PyData.int (k : Int)) fun _ => dps_ii) (dps_ls (f := fun k : Nat => PyData.int (k : Int)) fun _ => dps_ii) ((flt_list (fun _ => flt_int) a).sh (by decide)) ((flt_list (fun _ => flt_int) b).sh (by decide))).to (by
    have e : ∀ l : List Nat, (l.map fun k : Nat => PyData.int (k : Int)) = (iv l).map PyData.int := fun l => by unfold iv; rw [List.map_map]; rfl
    rw [e, e, eqv_li]
    congr 2
    rw [decide_eq_decide]
    constructor
    · intro h
      unfold iv at h
      exact List.map_inj_right (fun a b h => by omega) |>.mp h
    · intro h; rw [h])
end
end Wk
set_option Elab.async false
set_option linter.all false
set_option maxRecDepth 100000
set_option maxHeartbeats 2000000
namespace SrtO
open PySem PyProof.Rows Srt
section
variable {prog : Program} {w : World} {A : Around} {E : Value → Shared → Prop} {s : Shared}
theorem collect_tup {l : Addr} {vs : List Value} {Q : List Value → Shared → Prop} (hl : IsTup s.heap l vs.toArray)
    (h : Q vs { s with heap := (s.heap.push (seqObj "list" #[] 0)).update s.heap.objs.size (Obj.mapSeq (· ++ vs.toArray)) }) (hsz : vs.length ≤ sizeLine) :
    wpAny (model prog w) A (collect (.ref l)) Q E s := by
  obtain ⟨o, ho, hc, n, hd⟩ := id hl
  unfold collect
  refine wpAny_bind (wpAny_runValue (codeAny_builtin entry_proto_collect' ?_))
  show wpAny _ _ (do again (.builtin "list.__iadd__" ⟨[← newList [], .ref l], []⟩)) _ _ s
  refine wpAny_bind (wpAny_newList (wpAny_pure ⟨Code.quiet_builtin _ (by decide +kernel), codeAny_builtin entry_list_iadd' ?_⟩))
  show wpAny _ _ (Builtin.List.listExtendWith (.ref s.heap.objs.size) (.ref l) (.ref s.heap.objs.size)) _ _ { s with heap := s.heap.push (seqObj "list" #[] 0) }
  unfold Builtin.List.listExtendWith
  have ho' : (s.heap.push (seqObj "list" #[] 0)).get? l = some o := Heap.get?_push_of_some _ ho
  refine wpAny_bind (wpAny_typeOf (T := "tuple") ⟨o, ho', hc⟩ ?_)
  have ht : (Value.type "tuple" == Value.type "tuple") = true := by rfl
  rw [if_pos (by rw [ht]; simp)]
  refine wpAny_bind (listItems_at ho' hd ?_)
  refine wpAny_bind (listItems_at (xs := #[]) (n := 0) (Heap.get?_push_size _ rfl) rfl ?_)
  rw [if_neg (by simp)]
  refine wpAny_bind (listUpdate_at (xs := #[]) (n := 0) (Heap.get?_push_size _ rfl) rfl ?_ (Nat.zero_le _) (by show (#[] ++ vs.toArray).size ≤ sizeLine + 1; simp only [Array.size_append, List.size_toArray, List.length_nil]; omega))
  refine wpAny_pure ?_
  show wpAny (model prog w) A (do
      let o ← load s.heap.objs.size
      match o.data with
      | .seq xs _ => pure xs.toList
      | _ => unsupported "internal:collect") Q E { s with heap := (s.heap.push (seqObj "list" #[] 0)).update s.heap.objs.size (Obj.mapSeq (· ++ vs.toArray)) }
  refine wpAny_bind (wpAny_load (get?_update_seq (Heap.get?_push_size _ rfl) _) ?_)
  show wpAny _ _ (pure ((#[] : Array Value) ++ vs.toArray).toList) Q E _
  rw [show ((#[] : Array Value) ++ vs.toArray).toList = vs by simp]
  exact wpAny_pure h
theorem sorted_ordT {l : Addr} {vs : List Value} {ltv : Value → Value → Bool} {Q : Value → Shared → Prop} (O : Swo ltv) (hl : IsTup s.heap l vs.toArray) (hz : vs.length ≤ sizeLine)
    (hS : 2 ≤ vs.length → ∀ (h₁ : Heap) (a : Addr), h₁.get? a = some (seqObj "list" vs.toArray 0) → (∀ b o, s.heap.get? b = some o → b ≠ a ∧ h₁.get? b = some o) → SortableO prog w A.in1.in1 { s with heap := h₁ } a vs ltv)
    (h : ∀ out : List Value, Srtd ltv out → Stb ltv out vs → Q (.ref (s.heap.objs.size + 1)) { s with heap := sortedAll s.heap vs out.toArray }) :
    wpAny (model prog w) A (call (.builtin "sorted") [.ref l]) Q E s := by
  refine Calls.call_function_entry kind_sorted plain_sorted entry_sorted (args_sorted1 _) ?_
  unfold Builtin.«sorted»
  refine wpAny_bind (m := checkCount "sorted" 1 1 _) (wpAny_pure ?_)
  refine wpAny_bind (collect_tup hl ?_ hz)
  refine wpAny_bind (wpAny_newList ?_ hz)
  have hsz : ((s.heap.push (seqObj "list" #[] 0)).update s.heap.objs.size (Obj.mapSeq (· ++ vs.toArray))).objs.size = s.heap.objs.size + 1 := by
    rw [Heap.size_update, size_push']
  have hoL : (((s.heap.push (seqObj "list" #[] 0)).update s.heap.objs.size (Obj.mapSeq (· ++ vs.toArray))).push (seqObj "list" vs.toArray 0)).get? (s.heap.objs.size + 1) = some (seqObj "list" vs.toArray 0) := by
    rw [← hsz]; exact Heap.get?_push_size _ rfl
  have keep : ∀ b o, s.heap.get? b = some o → b ≠ s.heap.objs.size + 1 ∧ (((s.heap.push (seqObj "list" #[] 0)).update s.heap.objs.size (Obj.mapSeq (· ++ vs.toArray))).push (seqObj "list" vs.toArray 0)).get? b = some o := fun b o q => by
    have hlt : b < s.heap.objs.size := Heap.lt_size q
    refine ⟨Nat.ne_of_lt (Nat.lt_succ_of_lt hlt), Heap.get?_push_of_some _ ?_⟩
    rw [Heap.get?_update_ne _ _ _ _ (Nat.ne_of_lt hlt)]
    exact Heap.get?_push_of_some _ q
  show wpAny _ _ _ _ _ { s with heap := ((s.heap.push (seqObj "list" #[] 0)).update s.heap.objs.size (Obj.mapSeq (· ++ vs.toArray))).push (seqObj "list" vs.toArray 0) }
  rw [hsz]
  refine wpAny_bind (wpAny_holding (wpAny_call_entry slot_list_sort ⟨_, hoL, rfl⟩ entry_list_sort (list_sort_ord O hoL hz (fun h2 => hS h2 _ _ hoL keep) fun out hs hb => ⟨_, rfl, ?_⟩) (args_list_sort _)))
  exact wpAny_pure ⟨_, rfl, h out hs hb⟩
end
end SrtO
namespace Wk
open PySem PySem.Spec PyProof.Rows L2 Evl SSort
/-- sorted(t), t a tuple of ints -/
def rSortedT (K : PySem.W.Frag) : List V → Hp → VK → Prop := fun vs H Q => ∃ (a : Addr) (ns : List Int), vs = [V.ref a] ∧ SqT K H a (ns.map V.int) ∧
  ∀ (ns' : List Int) (p : Addr), ns'.Perm ns → ns'.Pairwise (· ≤ ·) → H p = none → Q (.ref p) (upd H p (.lst (ns'.map V.int)))
theorem cr_sortedT {X : Cx} (K : PySem.W.Frag) (hK : X.K = K := by rfl) : CallR X (.builtin "sorted") (rSortedT K) := by
  subst hK
  intro pins s σ H vs us Q I r h
  obtain ⟨a, ns, rfl, hs, q⟩ := h
  obtain ⟨its, rv, hl, hz⟩ := I.tuple hs
  rw [Vals.ref1 r]
  have hi := rv.ints
  refine SrtO.sorted_ordT SrtO.swo_int hl (by rw [← rv.length]; exact hz) (fun h2 h₁ a' _ _ => SrtO.ints_sortable hi h2) fun out h1 h2 => ?_
  obtain ⟨k1, k2, k3⟩ := SrtO.ints_out hi h1 h2
  obtain ⟨ep, he'⟩ := PyProof.Rows.sortedAll_at s.heap its out.toArray
  have hlen : ((out.map SrtO.iv).map V.int).length ≤ sizeLine := by
    rw [List.length_map, k2.length_eq]
    rw [List.length_map] at hz
    exact hz
  exact ⟨.ref _, upd H (s.heap.objs.size + 1) (.lst ((out.map SrtO.iv).map V.int)), I.laid (t' := s.toks) (fun _ _ => PyProof.Rows.sortedAll_old) (Nat.le_succ _) ⟨hlen, out, ep, vals_of_ints k1, he'⟩, rfl, q _ _ k2 k3 (I.hok.fresh (Nat.le_succ _))⟩
end Wk
set_option Elab.async false
set_option linter.all false
set_option maxRecDepth 100000
set_option maxHeartbeats 2000000
namespace Wk
open PySem PySem.Spec PyProof.Rows L2 Evl SSort
theorem hu_of0 {A : Around} {k : Nat} (hr : Room k A) : A.units < cLine := hr.units0
theorem hu_of2 {A : Around} {k : Nat} (hr : Room k A) : A.units + 2 < cLine := by have := hr.un; omega
theorem units65 {A : Around} {k : Nat} (hr : Room k A) : A.units + 65 < cLine := by have := hr.un; omega
/-! ### one object is written -/
def ExD (d : Addr) (H H' : Hp) : Prop := ∀ b o, b ≠ d → H b = some o → H' b = some o
theorem ExD.refl (d : Addr) (H : Hp) : ExD d H H := fun _ _ _ h => h
theorem ExD.trans {d : Addr} {H H1 H2 : Hp} (x : ExD d H H1) (y : ExD d H1 H2) : ExD d H H2 := fun b o n h => y b o n (x b o n h)
theorem ExD.of {d : Addr} {H H' : Hp} (e : Ex H H') : ExD d H H' := fun b o _ h => e b o h
theorem ExD.put {d : Addr} {H : Hp} {o : HO} : ExD d H (upd H d o) := fun b u n h => by rw [upd_ne n]; exact h
/-- what was not there is new -/
theorem ExD.ex {d : Addr} {H0 H H' : Hp} (h0 : H0 d = none) (e : Ex H0 H) (x : ExD d H H') : Ex H0 H' := fun b o h => x b o (ne_of_none h h0) (e b o h)
theorem ExD.t {d : Addr} {H H' : Hp} (x : ExD d H H') (h : ∀ xs, H d ≠ some (.tup xs)) : ExT H H' := fun b xs hb => x b _ (fun z => h xs (by rw [← z]; exact hb)) hb
/-! ### dicts -/
def rk (x : List Int) : List Key := x.map Sum.inl
theorem rk_kV (x : List Int) : (rk x).map kV = x.map V.int := by unfold rk; rw [List.map_map]; rfl
theorem rk_inj {x y : List Int} (h : rk x = rk y) : x = y := (List.map_inj_right (fun a b h => Sum.inl.inj h)).mp h
/-- a dict by the rows that it knows -/
def dm (f : List Int → Option V) : Rel := ⟨fun v H => ∃ a kvs, v = .ref a ∧ H a = some (.dT kvs) ∧ ∀ x, valV kvs (rk x) = f x, fun e ⟨a, kvs, h, k, r⟩ => ⟨a, kvs, h, e _ _ k, r⟩⟩
def dk (f : Nat → Option V) : Rel := ⟨fun v H => ∃ a kvs, v = .ref a ∧ H a = some (.dK kvs) ∧ ∀ k : Nat, valV kvs (Sum.inl (k : Int)) = f k, fun e ⟨a, kvs, h, k, r⟩ => ⟨a, kvs, h, e _ _ k, r⟩⟩
section
variable {K : PySem.W.Frag} {σ : L2.St} {H : Hp} {te ta tb td ty tx tl tv : TE} {A B : Rel} {f : List Int → Option V} {x : List Int}
theorem tup_rk {b : Addr} (h : H b = some (.tup (x.map V.int))) : H b = some (.tup ((rk x).map kV)) := by rw [rk_kV]; exact h
theorem ev_dget1 (hd : EvR td σ H (dm f)) (hk : EvR ty σ H (ti x)) : EvR (tDGet1 td ty) σ H (is ((f x).getD .non)) := fun H1 e Q q =>
  hd H1 e _ fun v H2 e2 ⟨a, kvs, hv, ha, hf⟩ => ⟨a, hv, .inr ⟨kvs, .inl ha⟩, hk H2 (e.trans e2) _ fun y H3 e3 ⟨b, hy, hb⟩ => by
    subst hy
    refine ⟨_, DGet.t (e3 _ _ ha) (tup_rk hb), ?_⟩
    rw [hf]
    exact q _ H3 (e2.trans e3) rfl⟩
theorem ev_dget2 {z : V} (hd : EvR td σ H (dm f)) (hk : EvR ty σ H (ti x)) (hz : EvR tx σ H (is z)) : EvR (tDGet2 td ty tx) σ H (is ((f x).getD z)) := fun H1 e Q q =>
  hd H1 e _ fun v H2 e2 ⟨a, kvs, hv, ha, hf⟩ => ⟨a, hv, .inr ⟨kvs, .inl ha⟩, hk H2 (e.trans e2) _ fun y H3 e3 ⟨b, hy, hb⟩ => hz H3 ((e.trans e2).trans e3) _ fun z' H4 e4 hz' => by
    subst hy
    have hz' : z' = z := hz'
    subst hz'
    refine ⟨_, DGet.t (e4 _ _ (e3 _ _ ha)) (tup_rk (e4 _ _ hb)), ?_⟩
    rw [hf]
    exact q _ H4 ((e2.trans e3).trans e4) rfl⟩
theorem ev_dgetK {g : Nat → Option V} {k : Nat} {v : V} (hd : EvR td σ H (dk g)) (hk : EvR ty σ H (nn k)) (h : g k = some v) : EvR (tDGet td ty) σ H (is v) := fun H1 e Q q =>
  hd H1 e _ fun w H2 e2 ⟨a, kvs, hv, ha, hf⟩ => hk H2 (e.trans e2) _ fun y H3 e3 hy => by
    have hy : y = kV (Sum.inl (k : Int)) := hy
    subst hy
    exact ⟨a, v, hv, by rw [← h, ← hf]; exact DGet.k (e3 _ _ ha), q v H3 (e2.trans e3) rfl⟩
theorem ev_dinT (hk : EvR ty σ H (ti x)) (hd : EvR td σ H (dm f)) : EvR (tDIn ty td) σ H (bb (f x).isSome) := fun H1 e Q q =>
  hk H1 e _ fun y H2 e2 ⟨b, hy, hb⟩ => hd H2 (e.trans e2) _ fun w H3 e3 ⟨a, kvs, hv, ha, hf⟩ => by
    subst hy
    refine ⟨a, _, hv, DGet.t ha (tup_rk (e3 _ _ hb)), ?_⟩
    rw [hf]
    exact q _ H3 (e2.trans e3) rfl
/-- tuple(sorted(pair)) -/
theorem ev_sp {p : Int × Int} (h : EvR te σ H (ti [p.1, p.2])) : EvR (tCB (rTupOf K) (tCons (tCB (rSortedT K) (tCons te tNil)) tNil)) σ H (ti (sp p)) := fun H1 e Q q =>
  h H1 e _ fun v H2 e2 ⟨a, hv, ha⟩ => ⟨a, [p.1, p.2], by rw [hv], SqT.of ha, fun ns' l hp hs hl => ⟨l, ns'.map V.int, rfl, .inl ⟨SqL.of upd_same, fun t ht => q _ _ ((e2.trans (Ex.new hl)).trans (Ex.new ht)) ⟨t, rfl, by rw [upd_same, sp_sort hp hs]⟩⟩⟩⟩
/-- {k: .. for k in t} -/
theorem ev_dcT {its : List Nat} {j : Nat} {vs : List Nat} (g : Nat → V) (h : EvR tl σ H (tp (its.map nn))) (hz : its.length ≤ 1000) (hj : ∀ x, ((wipe σ vs).set j (some x))[j]? = some (some x)) (hw : ∀ x, wipe ((wipe σ vs).set j (some x)) vs = wipe σ vs)
    (hb : ∀ k ∈ its, ∀ H', Ex H H' → EvR tv ((wipe σ vs).set j (some (.int (k : Int)))) H' (is (g k))) : EvR (tDc (iTup K tl) (gName j) tYes (tVar j) tv vs) σ H (dk fun k => if k ∈ its then some (g k) else none) := fun H0 e Q q =>
  h H0 e _ fun v H1 e1 ⟨a, xs, hv, ht, hr⟩ => ⟨a, hv, ⟨xs, SqT.of ht⟩, fun D hD => by
    have hl : its.length = xs.length := by rw [← rels_len hr, List.length_map]
    have hx : xs = its.map fun k : Nat => V.int (k : Int) := by
      have : its.map nn = (its.map fun k : Nat => V.int (k : Int)).map is := by rw [List.map_map]; rfl
      rw [this] at hr
      exact rels_is.mp hr
    refine dc_tup (K := K) (a := a) (xs := xs) (Qd := fun H => Q (.ref D) H) (fun i H' => Ex H1 H' ∧ ∃ kvs, H' D = some (.dK kvs) ∧ kvs.length ≤ i ∧ ∀ k : Nat, valV kvs (Sum.inl (k : Int)) = if k ∈ its.take i then some (g k) else none) ⟨Ex.new hD, [], upd_same, Nat.le_refl _, fun k => by simp [valV_nil]⟩ (fun i H' _ p => SqT.of (p.1 _ _ ht)) ?_ ?_
    · rintro i x H2 hi ⟨e2, kvs, hk, hle, hval⟩
      obtain ⟨k, hk1, rfl⟩ : ∃ k, its[i]? = some k ∧ x = .int (k : Int) := by
        rw [hx, List.getElem?_map] at hi
        cases h3 : its[i]? with
        | none => rw [h3] at hi; cases hi
        | some k => rw [h3] at hi; exact ⟨k, rfl, (Option.some.inj hi).symm⟩
      have hki : i < its.length := (List.getElem?_eq_some_iff.mp hk1).1
      refine ⟨hw _, ?_⟩
      refine ⟨.int (k : Int), hj _, ?_⟩
      refine hb k (List.mem_of_getElem? hk1) H2 ((e.trans e1).trans e2) H2 (Ex.refl _) _ fun z H3 e3 hz' => ?_
      have hz' : z = g k := hz'
      subst hz'
      refine ⟨kvs, Sum.inl (k : Int), rfl, e3 _ _ hk, sz_lt (by omega), Ex.mut (e2.trans e3) hD, putK kvs (Sum.inl (k : Int)) (g k), upd_same, ?_, fun k' => ?_⟩
      · have := length_putK kvs (Sum.inl (k : Int)) (g k); omega
      · rw [valV_put, hval, take_snoc hk1]
        by_cases hc : k' = k
        · subst hc; simp
        · rw [if_neg (fun z => hc (by have := Sum.inl.inj z; omega))]
          simp [hc]
    · rintro H2 ⟨e2, kvs, hk, _, hval⟩
      refine q _ _ (e1.trans e2) ⟨D, kvs, rfl, hk, fun k => ?_⟩
      rw [hval, List.take_of_length_le (by omega)]⟩
/-- met, passes = .., .. by cells -/
theorem q_asg2 {D : Ends} {tz : TS} {A : Rel} {B : Hp → Rel} {i j : Nat} (ha : EvR ta σ H A) (hb : ∀ x H1, Ex H H1 → A.h x H1 → EvR tb σ H1 (B H1)) (k : ∀ x y H1 H2, Ex H H1 → A.h x H1 → Ex H1 H2 → (B H1).h y H2 → tz D ((σ.set i (some x)).set j (some y)) H2) : tSeq (tAsg (tTup (tCons ta (tCons tb tNil))) (g2 K i j)) tz D σ H :=
  ha H (Ex.refl _) _ fun x H1 e1 hx => hb x H1 e1 hx H1 (Ex.refl _) _ fun y H2 e2 hy => ⟨sz_of (by show 2 ≤ 100000; decide), fun p hp => ⟨p, _, rfl, SqT.of upd_same, rfl, _, _, rfl, _, _, rfl, rfl, k x y H1 _ e1 hx (e2.trans (Ex.new hp)) ((B H1).up (Ex.new hp) hy)⟩⟩
end
end Wk
set_option Elab.async false
set_option linter.all false
set_option maxRecDepth 100000
set_option maxHeartbeats 2000000
namespace Wk
open PySem PySem.Spec PyProof.Rows L2 Evl SSort
variable {P : Program} {w : World} {K : PySem.W.Frag} {mg : Str → Option Value} {base : Heap}
/-- a pair of cards -/
def pr (p : Int × Int) : Rel := ti [p.1, p.2]
def mets (n : Nat) (wd L : List Nat) (k : Nat) : List Rel := (List.range k).map fun j => pr (mt (turned n) wd (has L) j)
theorem mets_len {n : Nat} {wd L : List Nat} {k : Nat} : (mets n wd L k).length = k := by unfold mets; rw [List.length_map, List.length_range]
theorem mets_at {n : Nat} {wd L : List Nat} {k j : Nat} (h : j < k) : (mets n wd L k)[j]? = some (pr (mt (turned n) wd (has L) j)) := by unfold mets; rw [List.getElem?_map, List.getElem?_range h]; rfl
theorem ims_mets {n : Nat} {wd L : List Nat} {k : Nat} : Ims (mets n wd L k) := ims_map (fun _ => im_ti) _
theorem ok_pairs_met (C : Ctx K mg) : Ok P w K mg base 2 "pairs_met" (He.fAd K d_pairs_met.at_) P_pairs_met [] (Pm (fun d : Nat × List Nat × List Nat => Wd d.1 d.2.1 ∧ d.1 ≤ 7 ∧ d.2.1.length ≤ 200 ∧ d.2.2.length ≤ 200) (fun d => [nn d.1, ti (iv d.2.1), ti (iv d.2.2)]) (fun d => ls (mets d.1 d.2.1 d.2.2 d.2.1.length))) := by
  have O_turned_row := ok_turned_row (P := P) (w := w) (base := base) C
  have O_exchanged := ok_exchanged (P := P) (w := w) (base := base) C
  refine mkPm C.a_pairs_met C.f_pairs_met sc_pairs_met (fun _ _ _ _ _ _ us hl => match us, hl with | [_, _, _], _ => rfl) (fun _ => rfl) fun cdv A outer s H vs Q E hr ⟨n, wd, L⟩ ⟨hW, hn, hl, hL⟩ hv hk => ?_
  obtain ⟨_, wv, lv, rfl, rfl, hw, hlv⟩ := rels3 hv
  have hW : Wd n wd := hW
  have hn : n ≤ 7 := hn
  have hl : wd.length ≤ 200 := hl
  have hL : L.length ≤ 200 := hL
  refine ⟨_, (pss_cons (ps_set (i := 3) sc_pairs_met.nd rfl (Or.inl rfl) (pe_callTy (kcr_setT K w rfl) (by rfl) C.g_set (by decide +kernel) (pa_cons (pv 2) pa_nil)))
    (pss_cons (ps_par (i := 4) (j := 5) (by rfl) sc_pairs_met.nd rfl rfl (by decide) rfl rfl (pa_cons (pcall O_turned_row (hr.mono (by decide)) (pa_cons (pv 0) pa_nil)) (pa_cons (pe_lst pa_nil) pa_nil)) (by rfl))
    (pss_cons (ps_for PassesOwn.never rfl (kpi_enumT K (by rfl) C.g_enumerate (pa_cons (pv 1) pa_nil)) (kpg_tup K rfl (pgs_cons (pg_name (i := 6) sc_pairs_met.nd rfl (Or.inl rfl)) (pgs_cons (pg_name (i := 7) sc_pairs_met.nd rfl (Or.inl rfl)) pgs_nil))) (pss_cons (ps_expr (kpe_bm K PySem.F.plainAttrs_list PySem.F.slot_list_append PySem.F.type_list_append mt_append (pv 5) (pa_cons (pe_tup (pa_cons (pe_ix (kix_tup K) (pv 4) (pv 7) (fun _ _ => rfl)) (pa_cons (pe_ix (kix_tup K) (pv 4) (pe_op op_add (pv 7) pe_int) (fun _ _ => rfl)) pa_nil))) pa_nil)))
    (pss_one (ps_if (pt_cmpR (kor_snotin w) (pv 6) (pv 3) (by rfl)) (pss_one (ps_set (i := 4) sc_pairs_met.nd rfl (Or.inl rfl) (pcall O_exchanged (hr.mono (by decide)) (pa_cons (pv 4) (pa_cons (pv 7) pa_nil))))) pss_nil))))
    (pss_one (ps_ret (pv 5)))))), ?_⟩
  refine q_set (ev_set (ev_n rfl hlv) (by omega)) fun fv H1 e1 hf => ?_
  refine q_of (s_parD (ev_call0 n (es1 (ev_n (R := nn n) rfl rfl)) rfl hn) (fun x H2 e2 hx => ev_new (el_lst ea_nil (by decide))) fun rv y H2 H3 e2 hrv e3 hy => ?_)
  obtain ⟨pf, rfl, npf, hpf⟩ := hy
  obtain ⟨fa, c, rfl, hfa⟩ := hf
  have n1 := fresh_back e2 npf
  have n0 := fresh_back e1 n1
  have e03 := (e1.trans e2).trans e3
  refine q_of (s_forE (xs := (iv wd).map V.int) (es1 (ev_n rfl ((ti (iv wd)).up e03 hw))) fun H4 e4 => ⟨fun k σ' H' => ExD pf H4 H' ∧ ∃ rv a b ys, σ' = [some (V.int (n : Int)), some wv, some lv, some (.ref fa), some rv, some (.ref pf), a, b] ∧ (ti (swp (turned n) (wd.take k) 0 (has L))).h rv H' ∧ H' pf = some (.lst ys) ∧ Rels (mets n wd L k) ys H', ?_⟩)
  have hpf4 := e4 _ _ hpf
  refine ⟨⟨ExD.refl _ _, rv, none, none, [], rfl, (ti (turned n)).up (e3.trans e4) hrv, hpf4, trivial⟩, fun k σ' H' z => z.1.t fun xs q => (by rw [hpf4] at q; cases q), ?_, ?_⟩
  · rintro k σ' H' hk' ⟨e5, rv, a, b, ys, rfl, hrv, hys, hrel⟩ y H5 hy e6
    obtain ⟨d, hd, rfl⟩ := iv_at hy
    have hdn : d + 1 < n := hW d (List.mem_of_getElem? hd)
    have hRk : Row n (swp (turned n) (wd.take k) 0 (has L)) := swp_row (fun s hs => hW s (List.mem_of_mem_take hs)) (turned_row n)
    have hrv5 := (ti _).up e6 hrv
    have hys5 := e6 _ _ hys
    have hgk : wd.getD k 0 = d := by rw [List.getD_eq_getElem?_getD, hd]; rfl
    have hkl : ys.length = k := by rw [← rels_len hrel, mets_len]
    have hkw : k < wd.length := (List.getElem?_eq_some_iff.mp hd).1
    refine (?_ : tSeq _ _ _ _ H5)
    refine ⟨.ref pf, rfl, .inl ⟨rfl, _, SqL.of hys5⟩, ?_⟩
    have hpair : EvR (tTup (tCons (tOp (rIxT K) (tVar 4) (tVar 7)) (tCons (tOp (rIxT K) (tVar 4) (tOp (rI0 fun i j => .int (i + j)) (tVar 7) (tC (.int 1)))) tNil))) [some (V.int (n : Int)), some wv, some lv, some (V.ref fa), some rv, some (V.ref pf), some (V.int (k : Int)), some (V.int (d : Int))] H5 (pr (mt (turned n) wd (has L) k)) := by
      refine (ev_tupI (ns := [gd (swp (turned n) (wd.take k) 0 (has L)) d, gd (swp (turned n) (wd.take k) 0 (has L)) (d + 1)]) (es_cons (ev_gd (ev_n rfl hrv5) (ev_n (R := nn d) rfl rfl) (by rw [hRk.len]; omega)) (es1 (ev_gd (ev_n rfl hrv5) (ev_succ (ev_n (R := nn d) rfl rfl)) (by rw [hRk.len]; omega)))) (by show 2 ≤ 100000; decide)).to ?_
      unfold pr SSort.mt
      rw [hgk]
    refine hpair H5 (Ex.refl _) _ fun v H6 e7 hv => ?_
    have hys6 := e7 _ _ hys5
    refine ⟨pf, ys, v, rfl, rfl, hys6, sz_lt (by omega), ?_⟩
    have et : ExT H6 (upd H6 pf (.lst (ys ++ [v]))) := ExT.put fun xs z => by rw [hys6] at z; cases z
    have hrel7 : Rels (mets n wd L (k + 1)) (ys ++ [v]) (upd H6 pf (.lst (ys ++ [v]))) := by
      unfold mets
      rw [List.range_succ, List.map_append]
      exact rels_snoc (ims_mets.up et (hrel.up (e6.trans e7))) (im_ti.up et hv)
    have e5x : ExD pf H4 (upd H6 pf (.lst (ys ++ [v]))) := (e5.trans (.of (e6.trans e7))).trans .put
    have hst : (st w L).h (.ref fa) (upd H6 pf (.lst (ys ++ [v]))) := ⟨fa, c, rfl, e5x _ _ (ne_of_none hfa n1) (e4 _ _ (e3 _ _ (e2 _ _ hfa)))⟩
    have hrv7 := im_ti.up et ((ti _).up e7 hrv5)
    refine s_when (t_test (ev_notInS (w := w) (L := L) (k := k) (ev_n rfl rfl) (ev_n rfl hst))) (fun hb H8 e8 => ?_) (fun hb H8 e8 => ?_)
    · refine s_set (ev_call0 (swp (turned n) (wd.take k) 0 (has L), d) (es_cons (ev_n rfl ((ti _).up e8 hrv7)) (es1 (ev_n (R := nn d) rfl rfl))) rfl ⟨by show d + 1 < _; rw [hRk.len]; exact hdn, by show _ ≤ 1000; rw [hRk.len]; omega⟩) fun v2 H9 e9 hv2 => ?_
      refine ⟨e5x.trans (.of (e8.trans e9)), v2, _, _, _, rfl, ?_, e9 _ _ (e8 _ _ upd_same), hrel7.up (e8.trans e9)⟩
      rw [swp_snoc hd, if_neg (by simpa using hb)]
      exact hv2
    · refine ⟨e5x.trans (.of e8), rv, _, _, _, rfl, ?_, e8 _ _ upd_same, hrel7.up e8⟩
      rw [swp_snoc hd, if_pos (by simpa using hb)]
      exact (ti _).up e8 hrv7
  · rintro σ' H' ⟨e5, rv, a, b, ys, rfl, hrv, hys, hrel⟩
    dsimp only
    rw [List.length_map, iv_len] at hrel
    exact s_ret (R := ls (mets n wd L wd.length)) (ev_n rfl ⟨pf, ys, rfl, hys, hrel⟩) fun v H3 e6 hv => hk v H3 ((ExD.ex n0 (e03.trans e4) e5).trans e6) hv
/-- what a place of the lot is told -/
def pv_ (o : Option Nat) : V := match o with | some q => .int (q : Int) | none => .non
theorem ok_partners (C : Ctx K mg) : Ok P w K mg base 3 "partners" (He.fAd K d_partners.at_) P_partners [] (Pm (fun d : Nat × List Nat × List Nat => Wd d.1 d.2.1 ∧ d.1 ≤ 7 ∧ d.2.1.length ≤ 200 ∧ d.2.2.length ≤ 200 ∧ ∀ p ∈ d.2.2, p < d.2.1.length) (fun d => [nn d.1, ti (iv d.2.1), ti (iv d.2.2)]) (fun d => dk fun k => if k ∈ d.2.2 then some (pv_ (part d.1 d.2.1 d.2.2 k)) else none)) := by
  have O_pairs_met := ok_pairs_met (P := P) (w := w) (base := base) C
  refine mkPm C.a_partners C.f_partners sc_partners (fun _ _ _ _ _ _ us hl => match us, hl with | [_, _, _], _ => rfl) (fun _ => rfl) fun cdv A outer s H vs Q E hr ⟨n, wd, L⟩ ⟨hW, hn, hl, hL, hp⟩ hv hk => ?_
  obtain ⟨_, wv, lv, rfl, rfl, hw, hlv⟩ := rels3 hv
  have hW : Wd n wd := hW
  have hn : n ≤ 7 := hn
  have hl : wd.length ≤ 200 := hl
  have hL : L.length ≤ 200 := hL
  have hp : ∀ p ∈ L, p < wd.length := hp
  refine ⟨_, (pss_cons (ps_set (i := 3) sc_partners.nd rfl (Or.inl rfl) (pe_callTy (kcr_setT K w rfl) (by rfl) C.g_set (by decide +kernel) (pa_cons (pv 2) pa_nil)))
    (pss_cons (ps_asg (pe_tup (pa_cons (pcall O_pairs_met (hr.mono (by decide)) (pa_cons (pv 0) (pa_cons (pv 1) (pa_cons (pv 2) pa_nil)))) (pa_cons pe_dnewT pa_nil))) (kpg_tup K rfl (pgs_cons (pg_name (i := 4) sc_partners.nd rfl (Or.inr rfl)) (pgs_cons (pg_name (i := 5) sc_partners.nd rfl (Or.inr rfl)) pgs_nil))))
    (pss_cons (ps_for PassesOwn.never rfl (kpi_enum K (by rfl) C.g_enumerate (pa_cons (pv 4) pa_nil)) (kpg_tup K rfl (pgs_cons (pg_name (i := 6) sc_partners.nd rfl (Or.inl rfl)) (pgs_cons (pg_name (i := 7) sc_partners.nd rfl (Or.inl rfl)) pgs_nil))) (pss_one (ps_if (pt_cmpR (kor_snotin w) (pv 6) (pv 3) (by rfl)) (pss_one (ps_dput (hu_of hr) (pv 5) (pe_callTy (kcall_tuple_of K) (by rfl) C.g_tuple (by decide +kernel) (pa_cons (pe_callB (cr_sortedT K) (by rfl) C.g_sorted (by decide +kernel) (pa_cons (pv 7) pa_nil)) pa_nil)) (pv 6) rfl)) pss_nil)))
    (pss_one (ps_ret (pe_dc (own := [("place", 6)]) (g := gName 6) (tt := tYes) rfl sc_partners.nd (kpi_tup K (pv 2)) (blkOk_by (own := [("place", 6)]) (N := N_partners) (sc := defScope s_partners) (by decide +kernel)) (fun _ _ _ _ _ => pg_name (i := 6) sc_partners.nd rfl (Or.inl rfl)) (fun _ _ _ _ _ => pts_nil) (fun _ _ _ _ _ => (pv 6)) (fun _ _ _ _ _ => (pe_dget1 (hu_of hr) (pv 5) (pe_callTy (kcall_tuple_of K) (by rfl) C.g_tuple (by decide +kernel) (pa_cons (pe_callB (cr_sortedT K) (by rfl) C.g_sorted (by decide +kernel) (pa_cons (pe_ix (kix_list K) (pv 4) (pv 6) (fun _ _ => rfl)) pa_nil)) pa_nil)) ⟨rfl, rfl, rfl, rfl⟩)))))))), ?_⟩
  refine q_set (ev_set (ev_n rfl hlv) (by omega)) fun fv H1 e1 hf => ?_
  have newT : ∀ {σ : L2.St} {H : Hp}, EvR tDNewT σ H ⟨fun v H' => ∃ p, v = .ref p ∧ H p = none ∧ H' p = some (.dT []), fun e ⟨p, h, n, k⟩ => ⟨p, h, n, e _ _ k⟩⟩ := fun {σ H} H1 e Q q p hp => q _ _ (Ex.new hp) ⟨p, rfl, fresh_back e hp, upd_same⟩
  refine q_asg2 (ev_call0 (n, wd, L) (es_cons (ev_n (R := nn n) rfl rfl) (es_cons (ev_n rfl ((ti _).up e1 hw)) (es1 (ev_n rfl ((ti _).up e1 hlv))))) rfl ⟨hW, hn, hl, hL⟩) (fun x H2 e2 hx => newT) fun mv y H2 H3 e2 hmv e3 hy => ?_
  obtain ⟨dp, rfl, ndp, hdp⟩ := hy
  obtain ⟨fa, c, rfl, hfa⟩ := hf
  have n1 := fresh_back e2 ndp
  have n0 := fresh_back e1 n1
  have e03 := (e1.trans e2).trans e3
  obtain ⟨pm, ms, rfl, hpm, hms⟩ := hmv
  have hms : Rels (mets n wd L wd.length) ms H2 := hms
  have npm : pm ≠ dp := ne_of_none hpm ndp
  have hpm3 := e3 _ _ hpm
  refine q_of (s_forEL (Rs := mets n wd L wd.length) (es1 (ev_n rfl ⟨pm, ms, rfl, hpm3, hms.up e3⟩)) fun H4 p4 ys4 e4 hp4 hr4 => ⟨fun k σ' H' => ExD dp H4 H' ∧ p4 ≠ dp ∧ ∃ a b kvs, σ' = [some (V.int (n : Int)), some wv, some lv, some (.ref fa), some (.ref pm), some (.ref dp), a, b] ∧ H' dp = some (.dT kvs) ∧ kvs.length ≤ k ∧ ∀ x, valV kvs (rk x) = (lp (mt (turned n) wd (has L)) (has L) x k).map fun q : Nat => V.int (q : Int), ?_, ?_⟩)
  · have hdp4 := e4 _ _ hdp
    have np4 : p4 ≠ dp := fun z => by rw [z, hdp4] at hp4; cases hp4
    refine ⟨⟨ExD.refl _ _, np4, none, none, [], rfl, hdp4, Nat.le_refl _, fun x => rfl⟩, fun k σ' H' z => z.1.t fun xs q => (by rw [hdp4] at q; cases q), ?_, ?_⟩
    · rintro k σ' H' hk' ⟨e5, np, a, b, kvs, rfl, hd5, hle, hval⟩
      rw [mets_len] at hk'
      refine ⟨e5 _ _ np hp4, fun v H5 hv5 e6 => ?_⟩
      obtain ⟨R, hR1, hR2⟩ := rels_at' hr4 hv5
      rw [mets_at hk'] at hR1
      cases hR1
      have et : ExT H4 H' := e5.t fun xs q => by rw [hdp4] at q; cases q
      have hpr : (ti [(mt (turned n) wd (has L) k).1, (mt (turned n) wd (has L) k).2]).h v H5 := im_ti.up (et.trans (Ex.t e6)) hR2
      have hst : (st w L).h (.ref fa) H5 := ⟨fa, c, rfl, e6 _ _ (e5 _ _ (ne_of_none hfa n1) (e4 _ _ (e3 _ _ (e2 _ _ hfa))))⟩
      refine s_when (t_test (ev_notInS (w := w) (L := L) (k := k) (ev_n rfl rfl) (ev_n rfl hst))) (fun hb H8 e8 => ?_) (fun hb H8 e8 => ?_)
      · refine ⟨.int (k : Int), rfl, .ref dp, rfl, ?_⟩
        refine ev_sp (ev_n rfl ((ti _).up e8 hpr)) H8 (Ex.refl _) _ fun kv H9 e9 ⟨b9, hkv, hb9⟩ => ?_
        subst hkv
        have hd9 := e9 _ _ (e8 _ _ (e6 _ _ hd5))
        refine ⟨dp, _, rfl, DPut.t hd9 (tup_rk hb9) (sz_lt (by omega)), ?_⟩
        refine ⟨(e5.trans (.of ((e6.trans e8).trans e9))).trans .put, np, _, _, _, rfl, upd_same, ?_, fun x => ?_⟩
        · have := length_putK kvs (rk (sp (mt (turned n) wd (has L) k))) (.int (k : Int)); omega
        · rw [valV_put, hval]
          show _ = (if (!has L k && decide (sp (mt (turned n) wd (has L) k) = x)) = true then some k else lp _ _ x k).map _
          rw [show (!has L k) = true from hb, Bool.true_and]
          by_cases hc : sp (mt (turned n) wd (has L) k) = x
          · subst hc; simp
          · rw [if_neg (fun z => hc (rk_inj z).symm), if_neg (by simpa using hc)]
      · refine ⟨e5.trans (.of (e6.trans e8)), np, _, _, kvs, rfl, e8 _ _ (e6 _ _ hd5), by omega, fun x => ?_⟩
        rw [hval]
        show _ = (if (!has L k && decide (sp (mt (turned n) wd (has L) k) = x)) = true then some k else lp _ _ x k).map _
        rw [show (!has L k) = false from hb, Bool.false_and, if_neg (by decide)]
    · rintro σ' H' ⟨e5, np, a, b, kvs, rfl, hd5, hle, hval⟩
      rw [mets_len] at hval
      dsimp only
      have et : ExT H4 H' := e5.t fun xs q => by rw [hdp4] at q; cases q
      have eH : Ex H H' := ExD.ex n0 (e03.trans e4) e5
      have hm5 : (ls (mets n wd L wd.length)).h (.ref pm) H' := ⟨pm, ms, rfl, e5 _ _ npm (e4 _ _ hpm3), ims_mets.up et (hms.up (e3.trans e4))⟩
      have hd5' : (dm fun x => (lp (mt (turned n) wd (has L)) (has L) x wd.length).map fun q : Nat => V.int (q : Int)).h (.ref dp) H' := ⟨dp, kvs, rfl, hd5, hval⟩
      refine s_ret (ev_dcT (fun k => pv_ (part n wd L k)) (ev_tin (ev_n rfl ((ti _).up eH hlv))) (by omega) (fun _ => rfl) (fun _ => rfl) fun k hkL H6 e6 => ?_) fun v H7 e7 hv => hk v H7 (eH.trans e7) hv
      refine (ev_dget1 (ev_n rfl ((dm _).up e6 hd5')) (ev_sp (p := mt (turned n) wd (has L) k) (ev_ixL (ev_n rfl ((ls _).up e6 hm5)) (ev_n (R := nn k) rfl rfl) (mets_at (hp k hkL))))).to ?_
      unfold SSort.part pv_
      cases lp (mt (turned n) wd (has L)) (has L) (sp (mt (turned n) wd (has L) k)) wd.length <;> rfl
  · rintro σ' H' ⟨e5, np, a, b, kvs, rfl, hd5, hle, hval⟩
    exact e5 _ _ np hp4
theorem ok_rising (C : Ctx K mg) : Ok P w K mg base 4 "rising" (He.fAd K d_rising.at_) P_rising [] (Pm (fun d : Nat × List Nat × List Nat => Wd d.1 d.2.1 ∧ d.1 ≤ 7 ∧ d.2.1.length ≤ 200 ∧ d.2.2.length ≤ 200 ∧ ∀ p ∈ d.2.2, p < d.2.1.length) (fun d => [nn d.1, ti (iv d.2.1), ti (iv d.2.2)]) (fun d => ti (iv (rise d.1 d.2.1 d.2.2)))) := by
  have O_partners := ok_partners (P := P) (w := w) (base := base) C
  refine mkPm C.a_rising C.f_rising sc_rising (fun _ _ _ _ _ _ us hl => match us, hl with | [_, _, _], _ => rfl) (fun _ => rfl) fun cdv A outer s H vs Q E hr ⟨n, wd, L⟩ ⟨hW, hn, hl, hL, hp⟩ hv hk => ?_
  obtain ⟨_, wv, lv, rfl, rfl, hw, hlv⟩ := rels3 hv
  have hL : L.length ≤ 200 := hL
  refine ⟨_, (pss_cons (ps_set (i := 3) sc_rising.nd rfl (Or.inr rfl) (pcall O_partners (hr.mono (by decide)) (pa_cons (pv 0) (pa_cons (pv 1) (pa_cons (pv 2) pa_nil)))))
    (pss_one (ps_ret (pe_callTy (kcall_tuple_of K) (by rfl) C.g_tuple (by decide +kernel) (pa_cons (pe_lc (own := [("place", 4)]) (g := gName 4)  rfl sc_rising.nd (kpi_tup K (pv 2)) (blkOk_by (own := [("place", 4)]) (N := N_rising) (sc := defScope s_rising) (by decide +kernel)) (fun _ _ _ _ _ => pg_name (i := 4) sc_rising.nd rfl (Or.inl rfl)) (fun _ _ _ _ _ => (pts_one (PW.pt (pw_and (pt_cmpR op_notN (pe_dget (hu_of hr) (pv 3) (pv 4) (fun _ _ => rfl)) pe_non (nomark _)) (pw_and1 (pt_cmpR op_gt (pe_dget (hu_of hr) (pv 3) (pv 4) (fun _ _ => rfl)) (pv 4) (nomark _))))))) (fun _ _ _ _ _ => (pv 4))) pa_nil))))), ?_⟩
  refine q_set (ev_call0 (n, wd, L) (es_cons (ev_n (R := nn n) rfl rfl) (es_cons (ev_n rfl hw) (es1 (ev_n rfl hlv)))) rfl ⟨hW, hn, hl, hL, hp⟩) fun tv H1 e1 ht => ?_
  refine s_ret (ev_tip ((ev_tupOf (ev_lcT L nn nn (fun p => match part n wd L p with | some q => decide (p < q) | none => false) (ev_tin (ev_n rfl ((ti _).up e1 hlv))) (fun _ => im_nn) (by omega) fun k hkL kv H2 e2 hkv => body_n (fun _ => rfl) ?_ fun _ => ev_n rfl hkv)).to (by unfold rise iv; rw [List.map_map]; rfl))) fun v H2 e2 hv => hk v H2 (e1.trans e2) hv
  have hd : ∀ {H3}, Ex H2 H3 → EvR (tDGet (tVar 3) (tVar 4)) [some (V.int (n : Int)), some wv, some lv, some tv, some kv] H3 (is (pv_ (part n wd L k))) := fun e3 => ev_dgetK (ev_n rfl ((dk _).up (e2.trans e3) ht)) (ev_n rfl hkv) (by rw [if_pos hkL])
  cases hpt : part n wd L k with
  | none =>
    rw [hpt] at hd
    refine t_is (et_and (a := false) (b := false) (t_test (ev_o (hd (Ex.refl _)) ev_k fun x y H1 _ hx hy Q q => ⟨hy, q _ H1 (Ex.refl _) ?_⟩)) fun h => by cases h) rfl
    have hx : x = .non := hx
    subst hx; rfl
  | some q =>
    rw [hpt] at hd
    refine t_is (et_and (a := true) (b := decide (k < q)) (t_test (ev_o (hd (Ex.refl _)) ev_k fun x y H1 _ hx hy Q q => ⟨hy, q _ H1 (Ex.refl _) ?_⟩)) fun h => t_gtN (hd (Ex.refl _)) (ev_n rfl hkv)) (by rw [Bool.true_and])
    have hx : x = .int _ := hx
    subst hx; rfl
end Wk
set_option Elab.async false
set_option linter.all false
set_option maxRecDepth 100000
set_option maxHeartbeats 2000000
namespace Wk
open PySem PySem.Spec PyProof.Rows L2 Evl SSort
/-! ### dicts that know rows -/
/-- zero is not kept -/
def nz (c : Nat) : Option V := if c = 0 then none else some (.int (c : Int))
theorem nz_get {c : Nat} : (nz c).getD (.int 0) = .int (c : Int) := by
  unfold nz
  by_cases h : c = 0
  · subst h; rfl
  · rw [if_neg h]; rfl
theorem nz_pos {c : Nat} (h : c ≠ 0) : nz c = some (.int (c : Int)) := if_neg h
/-- the keys are rows, each once -/
structure Keys (n : Nat) (kvs : List (List Key × V)) : Prop where
  row : ∀ p ∈ kvs, ∃ x, Row n x ∧ p.1 = rk x
  nd : (kvs.map (·.1)).Nodup
theorem Keys.hash {P : Program} {w : World} {n : Nat} {kvs : List (List Key × V)} (h : Keys n kvs) (hn : n ≤ 5) : (kvs.map fun p => (tupleKind (mixKind P w)).hash p.1).Nodup := by
  have h2 := h.nd
  rw [List.nodup_iff_pairwise_ne, List.pairwise_map] at h2 ⊢
  refine List.Pairwise.imp_of_mem (fun {a b} ha hb hne e => hne ?_) h2
  obtain ⟨x, hx, ex⟩ := h.row a ha
  obtain ⟨y, hy, ey⟩ := h.row b hb
  rw [ex, ey] at e ⊢
  rw [show rk x = x.map Sum.inl from rfl, show rk y = y.map Sum.inl from rfl, hh_key, hh_key] at e
  rw [hh_inj hn hx hy e]
theorem any_iff {kvs : List (List Key × V)} {k : List Key} : (kvs.any fun kv => decide (kv.1 = k)) = true ↔ k ∈ kvs.map (·.1) := by
  rw [List.any_eq_true, List.mem_map]
  simp only [decide_eq_true_eq]
theorem putK_old {kvs : List (List Key × V)} {k : List Key} {v : V} (h : k ∈ kvs.map (·.1)) : (putK kvs k v).map (·.1) = kvs.map (·.1) := by
  unfold putK
  rw [if_pos (any_iff.mpr h), List.map_map]
  refine List.map_congr_left fun p _ => ?_
  show (if p.1 = k then (p.1, v) else p).1 = p.1
  split <;> rfl
theorem putK_new {kvs : List (List Key × V)} {k : List Key} {v : V} (h : ¬ k ∈ kvs.map (·.1)) : (putK kvs k v).map (·.1) = kvs.map (·.1) ++ [k] := by
  unfold putK
  rw [if_neg (fun z => h (any_iff.mp z)), List.map_append]; rfl
theorem Keys.put {n : Nat} {kvs : List (List Key × V)} {x : List Int} {v : V} (h : Keys n kvs) (hx : Row n x) : Keys n (putK kvs (rk x) v) := by
  have old : ∀ k ∈ kvs.map (·.1), ∃ y, Row n y ∧ k = rk y := fun k hk => by
    obtain ⟨p, hp, rfl⟩ := List.mem_map.mp hk
    exact h.row p hp
  by_cases hm : rk x ∈ kvs.map (·.1)
  · refine ⟨fun p hp => old p.1 ?_, by rw [putK_old hm]; exact h.nd⟩
    rw [← putK_old (v := v) hm]; exact List.mem_map.mpr ⟨p, hp, rfl⟩
  · refine ⟨fun p hp => ?_, ?_⟩
    · have hk : p.1 ∈ (putK kvs (rk x) v).map (·.1) := List.mem_map.mpr ⟨p, hp, rfl⟩
      rw [putK_new hm] at hk
      rcases List.mem_append.mp hk with hk | hk
      · exact old _ hk
      · exact ⟨x, hx, List.mem_singleton.mp hk⟩
    · rw [putK_new hm, List.nodup_append]
      exact ⟨h.nd, by simp, fun a ha b hb e => hm (by rw [List.mem_singleton] at hb; rw [← hb, ← e]; exact ha)⟩
theorem valV_isSome {kvs : List (List Key × V)} {k : List Key} : (valV kvs k).isSome = true ↔ k ∈ kvs.map (·.1) := by
  rw [← valV_any]; exact any_iff
/-- a dict of rows of n cards by what it tells -/
def Dr (n : Nat) (f : List Int → Option V) (kvs : List (List Key × V)) : Prop := Keys n kvs ∧ ∀ x, Row n x → valV kvs (rk x) = f x
def dr (n m : Nat) (f : List Int → Option V) : Rel := ⟨fun v H => ∃ a kvs, v = .ref a ∧ H a = some (.dT kvs) ∧ Dr n f kvs ∧ kvs.length ≤ m, fun e ⟨a, kvs, h, k, r⟩ => ⟨a, kvs, h, e _ _ k, r⟩⟩
section
variable {K : PySem.W.Frag} {σ : L2.St} {H : Hp} {te ta tb td ty tx tl tv : TE} {A B : Rel} {f : List Int → Option V} {x : List Int} {n m : Nat}
theorem ev_dget2R {z : V} (hx : Row n x) (hd : EvR td σ H (dr n m f)) (hk : EvR ty σ H (ti x)) (hz : EvR tx σ H (is z)) : EvR (tDGet2 td ty tx) σ H (is ((f x).getD z)) := fun H1 e Q q =>
  hd H1 e _ fun v H2 e2 ⟨a, kvs, hv, ha, hf, _⟩ => ⟨a, hv, .inr ⟨kvs, .inl ha⟩, hk H2 (e.trans e2) _ fun y H3 e3 ⟨b, hy, hb⟩ => hz H3 ((e.trans e2).trans e3) _ fun z' H4 e4 hz' => by
    subst hy
    have hz' : z' = z := hz'
    subst hz'
    refine ⟨_, DGet.t (e4 _ _ (e3 _ _ ha)) (tup_rk (e4 _ _ hb)), ?_⟩
    rw [hf.2 x hx]
    exact q _ H4 ((e2.trans e3).trans e4) rfl⟩
theorem ev_dinR (hx : Row n x) (hk : EvR ty σ H (ti x)) (hd : EvR td σ H (dr n m f)) : EvR (tDIn ty td) σ H (bb (f x).isSome) := fun H1 e Q q =>
  hk H1 e _ fun y H2 e2 ⟨b, hy, hb⟩ => hd H2 (e.trans e2) _ fun w H3 e3 ⟨a, kvs, hv, ha, hf, _⟩ => by
    subst hy
    refine ⟨a, _, hv, DGet.t ha (tup_rk (e3 _ _ hb)), ?_⟩
    rw [hf.2 x hx]
    exact q _ H3 (e2.trans e3) rfl
end
/-! ### the table -/
def cw (g : List Int) (w : List Nat) (x : List Int) : Option V := nz (ways g w x)
def cnts (n : Nat) (wd : List Nat) (g : List Int) : List Rel := (List.range (wd.length + 1)).map fun k => dr n 1000 (cw g (wd.drop k))
theorem cnts_at {n : Nat} {wd : List Nat} {g : List Int} {k : Nat} (h : k ≤ wd.length) : (cnts n wd g)[k]? = some (dr n 1000 (cw g (wd.drop k))) := by
  unfold cnts; rw [List.getElem?_map, List.getElem?_range (by omega)]; rfl
structure TD where
  n : Nat
  wd : List Nat
  g : List Int
def TD.ok (d : TD) : Prop := 1 ≤ d.n ∧ d.n ≤ 5 ∧ Wd d.n d.wd ∧ d.wd.length ≤ 9 ∧ Row d.n d.g
abbrev tC_ (K : PySem.W.Frag) : Addr := He.ga K "Table"
def tab (K : PySem.W.Frag) (d : TD) : Rel := ⟨fun v H => ∃ a dx v1 v2 v3 v4, v = .ref a ∧ H a = some (.ins (tC_ K) dx [("first", v1), ("word", v2), ("goal", v3), ("counts", v4)]) ∧ (ti (turned d.n)).h v1 H ∧ (ti (iv d.wd)).h v2 H ∧ (ti d.g).h v3 H ∧ (ls (cnts d.n d.wd d.g)).h v4 H,
  fun e ⟨a, dx, v1, v2, v3, v4, h, k, h1, h2, h3, h4⟩ => ⟨a, dx, v1, v2, v3, v4, h, e _ _ k, (ti _).up e h1, (ti _).up e h2, (ti _).up e h3, (ls _).up e h4⟩⟩
/-- a method -/
structure OkM (P : Program) (w : World) (K : PySem.W.Frag) (mg : Str → Option Value) (base : Heap) (k : Nat) (f : Addr) (ps : List Str) (sp : Sp) : Prop where
  ex : ∃ fd, FnOk P w K mg base CX0 k f fd ps sp ∧ Binds K fd ps []
section
variable {P : Program} {w : World} {K : PySem.W.Frag} {mg : Str → Option Value} {base : Heap} {d : He.DefD} {N ps : List Str} {k : Nat} {D : Type} {pre : D → Prop} {As : D → List Rel} {R : D → Rel}
theorem mkPmT (F : ∃ fd, FunD K d.name d.qual d.params d.body d.scope [] [] (He.fAd K d.at_) fd) (S : FnScope N ps d.scope)
    (hb : ∀ (kV doc pm : Value) (an : Option Addr) (cdv ct : Value) (us : List Value), us.length = ps.length → bindArgs (PySem.W.fnOf d.name d.qual d.params d.body d.scope .none kV doc pm an cdv ct) ⟨us, []⟩ = pure (ps.zip us)) (hl : ∀ d, (As d).length = ps.length)
    (hbody : ∀ (cdv : Value) (A : Around) (outer : List Env) (s : Shared) (H : Hp) (vs : List V) (Q : VK) (E : XK), Room k (A.deeper (envOfC d.qual d.scope s.heap.objs.size (He.fAd K d.at_) cdv)) → ∀ a, pre a → Rels (As a) vs H → (∀ v H', Ex H H' → (R a).h v H' → Q v H') →
      ∃ t, PSs (cxOf CX0 P w K mg base N d.qual d.scope (He.fAd K d.at_) cdv A outer s H E).nox d.body t ∧ t { nx := fun _ H' => Q .non H', rt := Q } (start N vs) H) : OkM P w K mg base (k + 1) (He.fAd K d.at_) ps (Pm pre As R) := by
  obtain ⟨fd, F⟩ := F
  exact ⟨fd, fnPm F S hl hbody, F.bindsN hb⟩
variable {X : Cx} {C f : Addr} {m : Str} {sp : Sp} {o e : Expr} {es : List Expr} {ta : TE} {t : TA} {apos pos : Pos}
theorem pmeth {pl : Sem Bool} (O : OkM X.prog X.w X.K X.mg X.base k f ps sp) (he : PE X o ta) (c : Cls X.K C) (hm : Meth X.K C m f) (hr : Room k X.A) (ha : PA X (e :: es) t)
    (hst : starEach (e :: es) X.env = (false, eval e X.env) :: starEach es X.env := by rfl) (hpl : (backTo pos (starEach es X.env)).any (·.1) = false := by rfl)
    (ht : eval (.Call (.Attribute o m apos) (e :: es) [] pos) X.env = (do
      let ov ← eval o X.env
      standAt apos.atName
      let (f, first) ← holding [ov] (getMethod ov m pl)
      callWith pos f first (backTo pos (starEach (e :: es) X.env)) (backToKw pos (keywordEach [] X.env))) := by rfl) :
    PE X (.Call (.Attribute o m apos) (e :: es) [] pos) (tMeth C m sp [] E0 ta t) := by
  obtain ⟨fd, F, hb⟩ := O.ex
  exact pe_meth he c hm F hr hb .nil pass0 ha hst hpl ht
theorem pmeth0 {pl : Sem Bool} (O : OkM X.prog X.w X.K X.mg X.base k f ps sp) (he : PE X o ta) (c : Cls X.K C) (hm : Meth X.K C m f) (hr : Room k X.A)
    (ht : eval (.Call (.Attribute o m apos) [] [] pos) X.env = (do
      let ov ← eval o X.env
      standAt apos.atName
      let (f, first) ← holding [ov] (getMethod ov m pl)
      callWith pos f first (backTo pos (starEach [] X.env)) (backToKw pos (keywordEach [] X.env))) := by rfl) :
    PE X (.Call (.Attribute o m apos) [] [] pos) (tMeth C m sp [] E0 ta tNil) := by
  obtain ⟨fd, F, hb⟩ := O.ex
  exact pe_meth0 he c hm F hr hb .nil pass0 ht
theorem pmake {x : Str} {p : Pos} (M : Mk X.K C f) (O : OkM X.prog X.w X.K X.mg X.base k f ps sp) (hr : Room (k + 1) X.A) (ha : PA X (e :: es) t) (hm : X.mg x = some (.ref C)) (hg : Gl X x := by rfl)
    (hdb : (x == ("__debug__" : Str)) = false := by decide) (he : starEach (e :: es) X.env = (false, eval e X.env) :: starEach es X.env := by rfl) (hpl : (backTo pos (starEach es X.env)).any (·.1) = false := by rfl) :
    PE X (.Call (.Name x p) (e :: es) [] pos) (tMake C sp [] E0 t) := by
  obtain ⟨fd, F, hb⟩ := O.ex
  exact pe_make M F hr hg hm hb .nil pass0 ha hdb he hpl
end
section
variable {K : PySem.W.Frag} {mg : Str → Option Value} {σ : L2.St} {H : Hp} {ta : TE} {d : TD} {t : TA} {D : Type} {pre : D → Prop} {As : D → List Rel} {Rf : D → Rel} {Rs : List Rel} {E : XK}
theorem ev_first (C : Ctx K mg) (h : EvR ta σ H (tab K d)) : EvR (tFld K ta "first") σ H (ti (turned d.n)) := fun H1 e Q q => h H1 e _ fun v H2 e2 ⟨a, dx, v1, v2, v3, v4, hv, ha, h1, h2, h3, h4⟩ => ⟨a, _, dx, _, v1, hv, ha, C.cl, C.n_first, rfl, q _ H2 e2 h1⟩
theorem ev_word (C : Ctx K mg) (h : EvR ta σ H (tab K d)) : EvR (tFld K ta "word") σ H (ti (iv d.wd)) := fun H1 e Q q => h H1 e _ fun v H2 e2 ⟨a, dx, v1, v2, v3, v4, hv, ha, h1, h2, h3, h4⟩ => ⟨a, _, dx, _, v2, hv, ha, C.cl, C.n_word, rfl, q _ H2 e2 h2⟩
theorem ev_goal (C : Ctx K mg) (h : EvR ta σ H (tab K d)) : EvR (tFld K ta "goal") σ H (ti d.g) := fun H1 e Q q => h H1 e _ fun v H2 e2 ⟨a, dx, v1, v2, v3, v4, hv, ha, h1, h2, h3, h4⟩ => ⟨a, _, dx, _, v3, hv, ha, C.cl, C.n_goal, rfl, q _ H2 e2 h3⟩
theorem ev_counts (C : Ctx K mg) (h : EvR ta σ H (tab K d)) : EvR (tFld K ta "counts") σ H (ls (cnts d.n d.wd d.g)) := fun H1 e Q q => h H1 e _ fun v H2 e2 ⟨a, dx, v1, v2, v3, v4, hv, ha, h1, h2, h3, h4⟩ => ⟨a, _, dx, _, v4, hv, ha, C.cl, C.n_counts, rfl, q _ H2 e2 h4⟩
theorem ev_meth {m : Str} (x : D) (hs : EvR ta σ H (tab K d)) (h : EvRs t σ H Rs) (hA : As x = tab K d :: Rs) (hp : pre x) (hm : ∀ v1 v2 v3 v4 : V, ([("first", v1), ("word", v2), ("goal", v3), ("counts", v4)] : List (Str × V)).lookup m = none) : EvR (tMeth (tC_ K) m (Pm pre As Rf) [] E ta t) σ H (Rf x) := fun H1 e Q q =>
  hs H1 e _ fun v H2 e2 hv => by
    have hv' := hv
    obtain ⟨a, dx, v1, v2, v3, v4, rfl, ha, h1, h2, h3, h4⟩ := hv'
    refine ⟨a, dx, _, rfl, ha, hm _ _ _ _, h H2 (e.trans e2) _ fun vs H3 e3 hvs => ?_⟩
    rw [List.append_nil]
    exact ⟨x, hp, by rw [hA]; exact ⟨(tab K d).up e3 hv, hvs⟩, fun v H4 e4 h4 => q v H4 ((e2.trans e3).trans e4) h4⟩
end
end Wk
set_option Elab.async false
set_option linter.all false
set_option maxRecDepth 100000
set_option maxHeartbeats 2000000
namespace Wk
open PySem PySem.Spec PyProof.Rows L2 Evl SSort
section
variable {K : PySem.W.Frag} {σ : L2.St} {H : Hp} {te ta tb td ty tx tl tv tk : TE} {A B R : Rel} {f : List Int → Option V} {x : List Int} {n m : Nat} {D : Ends} {tu tz : TS}
/-- for k in d, d locked -/
theorem s_keys {d : Addr} {kvs : List (List Key × V)} {t : Nat} (hd : H d = some (.dT kvs)) (ht : ∀ (od : Obj) (Q : VK), Q (.ref d) (upd H d (.frz od (.dT kvs))) → td σ (upd H d (.frz od (.dT kvs))) Q)
    (L : ∀ od : Obj, ∃ Pv : Nat → L2.St → Hp → Prop, Pv 0 σ (upd H d (.frz od (.dT kvs))) ∧ (∀ i σ' H', Pv i σ' H' → H' d = some (.frz od (.dT kvs))) ∧
      (∀ i k v q σ' H', kvs[i]? = some (k, v) → Pv i σ' H' → H' q = some (.tup (k.map kV)) → ∀ rt bk, tu { nx := Pv (i + 1), ct := Pv (i + 1), rt := rt, bk := bk } (σ'.set t (some (.ref q))) H') ∧
      ∀ σ' H', Pv kvs.length σ' H' → D.nx σ' (upd H' d (.dT kvs))) : tLock (tFor (iKeys td) (gName t) tu) D σ H := by
  refine ⟨d, _, hd, trivial, fun od => ?_⟩
  obtain ⟨Pv, h0, hG, hs, hd'⟩ := L od
  refine ht od _ ⟨d, od, rfl, .inr ⟨kvs, upd_same, ?_⟩⟩
  refine for_it walk_keysT Pv h0 (fun i σ' H' _ p => hG i σ' H' p) ?_ (fun σ' H' p => ⟨hG _ _ _ p, hd' σ' H' p⟩)
  rintro i x σ' H1 H2 hi p ⟨rfl, k, v, q, hk, rfl, hq⟩
  exact hs i k v q σ' H2 hk p hq _ _
/-- o.f = value -/
theorem s_fld {a C dx : Addr} {i : Nat} {fs : List (Str × V)} {f : Str} (hs : σ[i]? = some (some (.ref a))) (ha : H a = some (.ins C dx fs)) (hc : Cls K C) (hn : NoAttr K C f) (hl : fs.length < 1000) (h : EvR te σ H R) (k : ∀ v H1, Ex H H1 → R.h v H1 → D.nx σ (upd H1 a (.ins C dx (putF f v fs)))) : sFld K (tVar i) te f D σ H :=
  h H (Ex.refl _) _ fun v H1 e hv => ⟨.ref a, hs, a, C, dx, fs, rfl, e _ _ ha, hc, hn, hl, k v H1 e hv⟩
theorem q_fld {a C dx : Addr} {i : Nat} {fs : List (Str × V)} {f : Str} (hs : σ[i]? = some (some (.ref a))) (ha : H a = some (.ins C dx fs)) (hc : Cls K C) (hn : NoAttr K C f) (hl : fs.length < 1000) (h : EvR te σ H R) (k : ∀ v H1, Ex H H1 → R.h v H1 → tz D σ (upd H1 a (.ins C dx (putF f v fs)))) : tSeq (sFld K (tVar i) te f) tz D σ H :=
  s_fld (D := { D with nx := tz D }) hs ha hc hn hl h k
/-- {row: v} -/
theorem ev_dispT {z : V} (hx : Row n x) (hk : ∀ H', Ex H H' → EvR tk σ H' (ti x)) (hv : ∀ H', Ex H H' → EvR tv σ H' (is z)) : EvR (tDispT tk tv) σ H (dr n 1 fun y => if y = x then some z else none) := fun H1 e Q q p hp =>
  hk _ (e.trans (Ex.new hp)) _ (Ex.refl _) _ fun v H2 e2 ⟨b, hv1, hb⟩ => hv H2 (e.trans ((Ex.new hp).trans e2)) H2 (Ex.refl _) _ fun y H3 e3 hy => by
    have hy : y = z := hy
    subst hy
    have hp3 : H3 p = some (.dT []) := e3 _ _ (e2 _ _ upd_same)
    refine ⟨hp3, b, rk x, hv1, tup_rk (e3 _ _ hb), q _ _ (Ex.mut (((Ex.new hp).trans e2).trans e3) hp) ⟨p, _, rfl, upd_same, ⟨⟨?_, ?_⟩, ?_⟩, Nat.le_refl _⟩⟩
    · intro pr hpr
      rw [List.mem_singleton] at hpr
      subst hpr; exact ⟨x, hx, rfl⟩
    · simp
    · intro y' _
      show valV [(rk x, y)] (rk y') = if y' = x then some y else none
      by_cases h : y' = x
      · subst h; rw [if_pos rfl]; exact valV_pos rfl
      · rw [if_neg h, valV_neg (fun z => h (rk_inj z).symm), valV_nil]
/-- a list that H0 did not know, by relations -/
def lsN (H0 : Hp) (Rs : List Rel) : Rel := ⟨fun v H => ∃ p vs, v = .ref p ∧ H0 p = none ∧ H p = some (.lst vs) ∧ Rels Rs vs H, fun e ⟨p, vs, h, n, k, r⟩ => ⟨p, vs, h, n, e _ _ k, r.up e⟩⟩
theorem ev_lstN {ta : TA} {Rs : List Rel} (h : EvRs ta σ H Rs) (hl : Rs.length ≤ 100000) : EvR (tLst ta) σ H (lsN H Rs) := fun H1 e Q q =>
  h H1 e _ fun vs H2 e2 hv => ⟨sz_of (by rw [← rels_len hv]; exact hl), fun p hp => q (.ref p) _ (e2.trans (Ex.new hp)) ⟨p, vs, rfl, fresh_back (e.trans e2) hp, upd_same, hv.up (Ex.new hp)⟩⟩
theorem dr_keep {v : V} {H' : Hp} {p : Addr} {zs : List V} (h : (dr n m f).h v H) (hp : H p = some (.lst zs)) (e : ExD p H H') : (dr n m f).h v H' := by
  obtain ⟨a, kvs, h1, h2, h3⟩ := h
  exact ⟨a, kvs, h1, e _ _ (fun z => by rw [z, hp] at h2; cases h2) h2, h3⟩
theorem drs_keep {α : Type} {N M : α → Nat} {F : α → List Int → Option V} {H' : Hp} {p : Addr} {zs : List V} (hp : H p = some (.lst zs)) (e : ExD p H H') : ∀ {l : List α} {vs : List V}, Rels (l.map fun a => dr (N a) (M a) (F a)) vs H → Rels (l.map fun a => dr (N a) (M a) (F a)) vs H'
  | [], [], _ => trivial
  | a :: l, v :: vs, h => ⟨dr_keep h.1 hp e, drs_keep hp e (l := l) h.2⟩
  | [], _ :: _, h => h.elim
  | _ :: _, [], h => h.elim
theorem dr_mono {v : V} {m' : Nat} {f' : List Int → Option V} (h : (dr n m f).h v H) (hm : m ≤ m') (hf : ∀ x, Row n x → f x = f' x) : (dr n m' f').h v H := by
  obtain ⟨a, kvs, h1, h2, ⟨h3, h4⟩, h5⟩ := h
  exact ⟨a, kvs, h1, h2, ⟨h3, fun x hx => (h4 x hx).trans (hf x hx)⟩, by omega⟩
theorem rels_rev : ∀ {Rs : List Rel} {vs : List V}, Rels Rs vs H → Rels Rs.reverse vs.reverse H
  | [], [], _ => trivial
  | R :: Rs, v :: vs, h => by
    rw [List.reverse_cons, List.reverse_cons]
    exact rels_snoc (rels_rev h.2) h.1
  | [], _ :: _, h => h.elim
  | _ :: _, [], h => h.elim
theorem rels_imp {α : Type} {T T' : α → Rel} : ∀ {l : List α} {vs : List V}, (∀ a ∈ l, ∀ v, (T a).h v H → (T' a).h v H) → Rels (l.map T) vs H → Rels (l.map T') vs H
  | [], [], _, _ => trivial
  | a :: l, v :: vs, h, r => ⟨h a List.mem_cons_self v r.1, rels_imp (l := l) (fun b hb => h b (List.mem_cons_of_mem _ hb)) r.2⟩
  | [], _ :: _, _, r => r.elim
  | _ :: _, [], _, r => r.elim
theorem atI_last {xs : List V} {v : V} {k : Nat} (hl : xs.length = k + 1) (h : xs[k]? = some v) : atI xs (-1) = some v := by
  unfold atI
  have : ixN xs.length (-1) = some k := by
    unfold ixN
    rw [if_neg (by omega), if_pos (by omega), hl]
    congr 1; omega
  rw [this]; exact h
theorem ev_neg1 : EvR (tUn (rU fun i => .int (-i)) (tC (.int 1))) σ H (ii (-1)) := fun H1 _ Q q => ⟨1, rfl, q _ H1 (Ex.refl _) rfl⟩
theorem ExD.mut {x p : Addr} {H0 H' : Hp} {o : HO} (e : ExD x H0 H') (h : H0 p = none) : ExD x H0 (upd H' p o) := fun b u n hb => by
  rw [upd_ne (ne_of_none hb h)]
  exact e b u n hb
/-- wd[k] -/
theorem ev_wd {wd : List Nat} {k : Nat} (ha : EvR ta σ H (ti (iv wd))) (hb : EvR tb σ H (nn k)) (h : k < wd.length) : EvR (tOp (rIxT K) ta tb) σ H (nn (wd.getD k 0)) :=
  (ev_gd ha hb (by rw [iv_len]; exact h)).to (by
    unfold gd iv
    rw [List.getD_eq_getElem?_getD, List.getElem?_map, List.getD_eq_getElem?_getD]
    cases wd[k]? <;> rfl)
end
end Wk
set_option Elab.async false
set_option linter.all false
set_option maxRecDepth 100000
set_option maxHeartbeats 4000000
namespace Wk
open PySem PySem.Spec PyProof.Rows L2 Evl SSort
variable {P : Program} {w : World} {K : PySem.W.Frag} {mg : Str → Option Value} {base : Heap}
def spInit (K : PySem.W.Frag) : Sp := fun vs H Q _ => ∃ (x dx : Addr) (d : TD) (wv gv : V), vs = [.ref x, .int (d.n : Int), wv, gv] ∧ d.ok ∧ H x = some (.ins (tC_ K) dx []) ∧ (ti (iv d.wd)).h wv H ∧ (ti d.g).h gv H ∧ ∀ H', ExD x H H' → (tab K d).h (.ref x) H' → Q .non H'
theorem keys_rows {n : Nat} {kvs : List (List Key × V)} (h : Keys n kvs) : ∃ ys : List (List Int), kvs.map (·.1) = ys.map rk ∧ (∀ y ∈ ys, Row n y) ∧ ys.Nodup := by
  have : ∀ l : List (List Key × V), (∀ p ∈ l, ∃ x, Row n x ∧ p.1 = rk x) → ∃ ys : List (List Int), l.map (·.1) = ys.map rk ∧ ∀ y ∈ ys, Row n y := by
    intro l
    induction l with
    | nil => intro _; exact ⟨[], rfl, fun y hy => nomatch hy⟩
    | cons p l ih =>
      intro hl
      obtain ⟨x, hx, ex⟩ := hl p List.mem_cons_self
      obtain ⟨ys, e, hy⟩ := ih fun q hq => hl q (List.mem_cons_of_mem _ hq)
      refine ⟨x :: ys, by rw [List.map_cons, List.map_cons, e, ex], fun y hy' => ?_⟩
      rcases List.mem_cons.mp hy' with rfl | hy'
      · exact hx
      · exact hy y hy'
  obtain ⟨ys, e, hy⟩ := this kvs h.row
  refine ⟨ys, e, hy, ?_⟩
  have hn := h.nd
  rw [e] at hn
  rw [List.nodup_iff_pairwise_ne] at hn ⊢
  rw [List.pairwise_map] at hn
  exact hn.imp fun h z => h (by rw [z])
theorem rows_at {kvs : List (List Key × V)} {ys : List (List Int)} {i : Nat} {k : List Key} {v : V} (h : kvs.map (·.1) = ys.map rk) (hk : kvs[i]? = some (k, v)) : ∃ y, ys[i]? = some y ∧ k = rk y := by
  have : (kvs.map (·.1))[i]? = some k := by rw [List.getElem?_map, hk]; rfl
  rw [h, List.getElem?_map] at this
  cases hy : ys[i]? with
  | none => rw [hy] at this; cases this
  | some y => rw [hy] at this; exact ⟨y, rfl, (Option.some.inj this).symm⟩
/-- the behind rows, all looked at -/
theorem rows_all {n : Nat} {kvs : List (List Key × V)} {ys : List (List Int)} {b : List Int → Nat} (h : kvs.map (·.1) = ys.map rk) (hd : Dr n (fun x => nz (b x)) kvs) {y : List Int} (hy : Row n y) : y ∈ ys ↔ b y ≠ 0 := by
  have h1 : (valV kvs (rk y)).isSome = true ↔ rk y ∈ kvs.map (·.1) := valV_isSome
  rw [hd.2 y hy, h, List.mem_map] at h1
  have h1 : (nz (b y)).isSome = true ↔ ∃ a, a ∈ ys ∧ rk a = rk y := h1
  constructor
  · intro hm hz
    have := h1.mpr ⟨y, hm, rfl⟩
    unfold nz at this
    rw [if_pos hz] at this; cases this
  · intro hz
    obtain ⟨y', hm, e⟩ := h1.mp (by unfold nz; rw [if_neg hz]; rfl)
    rw [← rk_inj e]; exact hm
theorem drop_pred {wd : List Nat} {k : Nat} (h : k < wd.length) : wd.drop k = wd.getD k 0 :: wd.drop (k + 1) := by
  rw [List.drop_eq_getElem_cons h, List.getD_eq_getElem?_getD, List.getElem?_eq_getElem h]; rfl
abbrev bk_ (wd : List Nat) (g : List Int) (m : Nat) (j : Nat) : List Int → Option V := cw g (wd.drop (m - j))
theorem okT_init (C : Ctx K mg) : OkM P w K mg base 2 (He.fAd K dT___init__.at_) PT___init__ (spInit K) := by
  have O_turned_row := ok_turned_row (P := P) (w := w) (base := base) C
  have O_exchanged := ok_exchanged (P := P) (w := w) (base := base) C
  obtain ⟨fd, F⟩ := C.fT___init__
  refine ⟨fd, ?_, F.bindsN (fun _ _ _ _ _ _ us hl => match us, hl with | [_, _, _, _], _ => rfl)⟩
  refine F.ok scT___init__ (fun vs H Q E ⟨x, dx, d, wv, gv, h, _⟩ => by rw [h]; rfl) fun cdv A outer s H vs Q E hr ⟨x, dx, ⟨n, wd, g⟩, wv, gv, hvs, ⟨n1, n5, hW, hl, hg⟩, hx, hwv, hgv, hk⟩ => ?_
  subst hvs
  have n1 : 1 ≤ n := n1
  have n5 : n ≤ 5 := n5
  have hW : Wd n wd := hW
  have hl : wd.length ≤ 9 := hl
  have hg : Row n g := hg
  refine ⟨_, PSs.nox ((pss_cons (ps_fld (pv 0) (pcall O_turned_row (hr.mono (by decide)) (pa_cons (pv 1) pa_nil)) rfl)
    (pss_cons (ps_fld (pv 0) (pv 2) rfl)
    (pss_cons (ps_fld (pv 0) (pv 3) rfl)
    (pss_cons (ps_fld (pv 0) (pe_lst (pa_cons (pe_dispT (hu_of0 hr) (pv 3) pe_int) pa_nil)) rfl)
    (pss_cons (ps_for PassesOwn.never rfl (kpi_rev K (by rfl) C.g_reversed (pv 2)) (pg_name (i := 4) scT___init__.nd rfl (Or.inl rfl)) (pss_cons (ps_set (i := 5) scT___init__.nd rfl (Or.inl rfl) (pe_ix (kix_list K) (kpe_fld K (pv 0) rfl) (pe_un un_neg pe_int) (fun _ _ => rfl)))
    (pss_cons (ps_set (i := 6) scT___init__.nd rfl (Or.inl rfl) (pe_callTy (cr_dictT K P w (hu_of2 hr)) (by rfl) C.g_dict (by decide +kernel) (pa_cons (pv 5) pa_nil)))
    (pss_cons (ps_lock (ps_for PassesOwn.never rfl (pi_keys (pv 5)) (pg_name (i := 7) scT___init__.nd rfl (Or.inl rfl)) (pss_one (ps_if (pt_cmpR op_lt (pe_ix (kix_tup K) (pv 7) (pv 4) (fun _ _ => rfl)) (pe_ix (kix_tup K) (pv 7) (pe_op op_add (pv 4) pe_int) (fun _ _ => rfl)) (nomark _)) (pss_cons (ps_set (i := 8) scT___init__.nd rfl (Or.inl rfl) (pcall O_exchanged (hr.mono (by decide)) (pa_cons (pv 7) (pa_cons (pv 4) pa_nil))))
    (pss_one (ps_dput (hu_of hr) (pv 6) (pv 8) (pe_op op_add (pe_dget2 (hu_of hr) (pv 6) (pv 8) pe_int ⟨rfl, rfl, rfl, rfl⟩) (pe_dget (hu_of hr) (pv 5) (pv 7) (fun _ _ => rfl))) rfl))) pss_nil))))
    (pss_one (ps_expr (kpe_bm K PySem.F.plainAttrs_list PySem.F.slot_list_append PySem.F.type_list_append mt_append (kpe_fld K (pv 0) rfl) (pa_cons (pv 6) pa_nil))))))))
    (pss_one (ps_expr (kpe_bm0 K PySem.F.plainAttrs_list PySem.F.slot_list_reverse PySem.F.type_list_reverse mt_reverse (kpe_fld K (pv 0) rfl)))))))))), ?_⟩
  have xt : ∀ {H' : Hp} {fs : List (Str × V)}, H' x = some (.ins (tC_ K) dx fs) → ∀ xs, H' x ≠ some (.tup xs) := fun h xs z => by rw [h] at z; cases z
  refine q_fld rfl hx C.cl C.n_first (by decide) (ev_call0 n (es1 (ev_n (R := nn n) rfl rfl)) rfl (show n ≤ 7 by omega)) fun v1 H1 e1 hv1 => ?_
  have d1 : ExD x H (upd H1 x (.ins (tC_ K) dx [("first", v1)])) := (ExD.of e1).trans .put
  have t1 := ExT.put (H := H1) (p := x) (o := .ins (tC_ K) dx [("first", v1)]) (xt (e1 _ _ hx))
  have hv1 := im_ti.up t1 hv1
  have tH1 := (Ex.t e1).trans t1
  refine q_fld rfl upd_same C.cl C.n_word (by show 1 < 1000; decide) (ev_n rfl (im_ti.up tH1 hwv)) fun v2 H2 e2 hv2 => ?_
  have t2 := ExT.put (H := H2) (p := x) (o := .ins (tC_ K) dx (putF "word" v2 [("first", v1)])) (xt (e2 _ _ upd_same))
  have d2 := (d1.trans (.of e2)).trans (.put (o := .ins (tC_ K) dx (putF "word" v2 [("first", v1)])))
  have tH2 := (tH1.trans (Ex.t e2)).trans t2
  have hv1 := im_ti.up ((Ex.t e2).trans t2) hv1
  have hv2 := im_ti.up t2 hv2
  refine q_fld rfl upd_same C.cl C.n_goal (by show 2 < 1000; decide) (ev_n rfl (im_ti.up tH2 hgv)) fun v3 H3 e3 hv3 => ?_
  have t3 := ExT.put (H := H3) (p := x) (o := .ins (tC_ K) dx (putF "goal" v3 (putF "word" v2 [("first", v1)]))) (xt (e3 _ _ upd_same))
  have d3 := (d2.trans (.of e3)).trans (.put (o := .ins (tC_ K) dx (putF "goal" v3 (putF "word" v2 [("first", v1)]))))
  have tH3 := (tH2.trans (Ex.t e3)).trans t3
  have hv1 := im_ti.up ((Ex.t e3).trans t3) hv1
  have hv2 := im_ti.up ((Ex.t e3).trans t3) hv2
  have hv3 := im_ti.up t3 hv3
  refine q_fld rfl upd_same C.cl C.n_counts (by show 3 < 1000; decide) (ev_lstN (es1 (ev_dispT (n := n) (x := g) (z := .int 1) hg (fun H' e => ev_n rfl ((ti g).up e (im_ti.up tH3 hgv))) fun H' _ => ev_k)) (by show 1 ≤ 100000; decide)) fun cv H4 e4 hcv => ?_
  obtain ⟨pc, ys0, rfl, npc, hpc, hys0⟩ := hcv
  have nx : pc ≠ x := fun z => by rw [z, upd_same] at npc; cases npc
  have t4 := ExT.put (H := H4) (p := x) (o := .ins (tC_ K) dx [("first", v1), ("word", v2), ("goal", v3), ("counts", .ref pc)]) (xt (e4 _ _ upd_same))
  have d4 := (d3.trans (.of e4)).trans (.put (o := .ins (tC_ K) dx [("first", v1), ("word", v2), ("goal", v3), ("counts", .ref pc)]))
  have tH4 := (tH3.trans (Ex.t e4)).trans t4
  have hv1 := im_ti.up ((Ex.t e4).trans t4) hv1
  have hv2 := im_ti.up ((Ex.t e4).trans t4) hv2
  have hv3 := im_ti.up ((Ex.t e4).trans t4) hv3
  have npcH : H pc = none := by
    cases h : H pc with
    | none => rfl
    | some o =>
      have := d3 _ _ nx h
      exact nomatch (Eq.trans (Eq.symm this) npc)
  have hxE : ∀ {H' : Hp} {σ : L2.St}, σ[0]? = some (some (.ref x)) → H' x = some (.ins (tC_ K) dx [("first", v1), ("word", v2), ("goal", v3), ("counts", .ref pc)]) → EvR (tFld K (tVar 0) "counts") σ H' (is (.ref pc)) := fun h0 h H1 e Q q => ⟨.ref x, h0, x, _, dx, _, .ref pc, rfl, e _ _ h, C.cl, C.n_counts, rfl, q _ H1 (Ex.refl _) rfl⟩
  refine q_of (s_forRev (xs := (iv wd).map V.int) (ev_n rfl (im_ti.up tH4 hwv)) fun H5 e5 => ⟨fun k σ' H' => ExD pc H5 H' ∧ ∃ ys a b c e f, σ' = [some (.ref x), some (.int (n : Int)), some wv, some gv, a, b, c, e, f] ∧ H' pc = some (.lst ys) ∧ Rels ((List.range (k + 1)).map fun j => dr n (2 ^ j) (bk_ wd g wd.length j)) ys H', ?_⟩)
  have hpc4 : upd H4 x (.ins (tC_ K) dx [("first", v1), ("word", v2), ("goal", v3), ("counts", .ref pc)]) pc = some (.lst ys0) := by rw [upd_ne nx]; exact hpc
  have hpc5 := e5 _ _ hpc4
  have hx5 := e5 _ _ (upd_same (H := H4) (a := x) (o := .ins (tC_ K) dx [("first", v1), ("word", v2), ("goal", v3), ("counts", .ref pc)]))
  have d5 : ExD x H H5 := d4.trans (.of e5)
  refine ⟨⟨ExD.refl _ _, ys0, none, none, none, none, none, rfl, hpc5, ?_⟩, fun k σ' H' z => z.1.t fun xs q => (by rw [hpc5] at q; cases q), ?_, ?_⟩
  · match ys0, hys0 with
    | [u], ⟨hu, _⟩ =>
      refine Rels.up e5 ⟨?_, trivial⟩
      obtain ⟨a, kvs, h1, h2, h3⟩ := dr_mono (m' := 1) (f' := bk_ wd g wd.length 0) hu (Nat.le_refl _) fun y _ => (by
        show (if y = g then some (V.int 1) else none) = nz (ways g (wd.drop (wd.length - 0)) y)
        rw [Nat.sub_zero, List.drop_length]
        show _ = nz (if y = g then 1 else 0)
        by_cases hy : y = g
        · rw [if_pos hy, if_pos hy]; rfl
        · rw [if_neg hy, if_neg hy]; rfl)
      exact ⟨a, kvs, h1, by rw [upd_ne (fun z => by rw [z, e4 _ _ upd_same] at h2; cases h2)]; exact h2, h3⟩
  · rintro k σ' H' hk' ⟨e6, ys, a0, b0, c0, e0, f0, rfl, hys, hrel⟩ xd hxd
    rw [List.length_map, iv_len] at hk'
    rw [List.length_map, iv_len] at hxd
    obtain ⟨d, hd, rfl⟩ := iv_at hxd
    have hdn : d + 1 < n := hW d (List.mem_of_getElem? hd)
    have hgd : wd.getD (wd.length - 1 - k) 0 = d := by rw [List.getD_eq_getElem?_getD, hd]; rfl
    have hx6 := e6 _ _ (Ne.symm nx) hx5
    have hyl : ys.length = k + 1 := by rw [← rels_len hrel, List.length_map, List.length_range]
    obtain ⟨dbv, hdb, db, kvs, rfl, hkvs, hDr, hle⟩ := rels_at hrel (i := k) (R := dr n (2 ^ k) (bk_ wd g wd.length k)) (by rw [List.getElem?_map, List.getElem?_range (by omega)]; rfl)
    have hDr : Dr n (fun y => nz (ways g (wd.drop (wd.length - k)) y)) kvs := hDr
    refine (?_ : tSeq _ _ _ _ H')
    refine q_set (R := is (.ref db)) (ev_o (hxE rfl hx6) ev_neg1 fun u y H1 e hu hy Q q => ⟨pc, ys, -1, .ref db, hu, hy, SqL.of (e _ _ hys), atI_last hyl hdb, q _ H1 (Ex.refl _) rfl⟩) fun v7 H7 e7 hv7 => ?_
    have hv7 : v7 = .ref db := hv7
    subst hv7
    refine q_set (R := ⟨fun v H' => ∃ hd, v = .ref hd ∧ H7 hd = none ∧ H' hd = some (.dT kvs), fun e ⟨p, h, n, k⟩ => ⟨p, h, n, e _ _ k⟩⟩) (ev_cb (es1 (ev_n (R := is (.ref db)) rfl rfl)) fun us H1 e hu Q q => ?_) fun v8 H8 e8 hv8 => ?_
    · obtain ⟨_, rfl, rfl⟩ := rels1 hu
      exact ⟨db, kvs, rfl, e _ _ (e7 _ _ hkvs), hDr.1.hash n5, fun p hp => q _ _ (Ex.new hp) ⟨p, rfl, fresh_back e hp, upd_same⟩⟩
    obtain ⟨hd', rfl, nhd, hhd⟩ := hv8
    have nhd' := fresh_back e7 nhd
    obtain ⟨zs, hzs, hzr, hznd⟩ := keys_rows hDr.1
    have hzl : zs.length = kvs.length := by
      have := congrArg List.length hzs
      rw [List.length_map, List.length_map] at this
      exact this.symm
    have hdb8 := e8 _ _ (e7 _ _ hkvs)
    have nhdb : hd' ≠ db := fun z => by rw [z, e7 _ _ hkvs] at nhd; cases nhd
    have e68 : Ex H' H8 := e7.trans e8
    refine q_of (s_keys hdb8 (fun od Q q => ⟨.ref db, rfl, q⟩) fun od => ⟨fun i σ' H3 => H3 db = some (.frz od (.dT kvs)) ∧ (∀ b o, b ≠ db → b ≠ hd' → H8 b = some o → H3 b = some o) ∧
      ∃ kh e f, σ' = [some (.ref x), some (.int (n : Int)), some wv, some gv, some (.int (d : Int)), some (.ref db), some (.ref hd'), e, f] ∧ H3 hd' = some (.dT kh) ∧ Dr n (fun y => nz (hst (ways g (wd.drop (wd.length - k))) d (zs.take i) y)) kh ∧ kh.length ≤ kvs.length + i, ?_, ?_, ?_, ?_⟩)
    · refine ⟨upd_same, fun b o h1 _ h => by rw [upd_ne h1]; exact h, kvs, e0, f0, rfl, by rw [upd_ne nhdb]; exact hhd, ⟨hDr.1, fun y hy => ?_⟩, Nat.le_refl _⟩
      rw [hDr.2 y hy]
      show nz _ = nz (hst _ d [] y)
      rw [hst_nil]
    · rintro i σ' H3 ⟨h, _⟩; exact h
    · rintro i kk vv q σ' H3 hik ⟨hfr, hke, kh, e0, f0, rfl, hkh, hDh, hlh⟩ hq rt bk
      obtain ⟨y, hy, rfl⟩ := rows_at hzs hik
      have hyR := hzr y (List.mem_of_getElem? hy)
      have hyb := (rows_all hzs hDr hyR).mp (List.mem_of_getElem? hy)
      have hiz : i < zs.length := (List.getElem?_eq_some_iff.mp hy).1
      have hynot : y ∉ zs.take i := fun hm => by
        obtain ⟨j, hj, ej⟩ := List.getElem_of_mem hm
        rw [List.length_take] at hj
        rw [List.getElem_take] at ej
        have e2 : zs[i] = y := (List.getElem?_eq_some_iff.mp hy).2
        exact List.pairwise_iff_getElem.mp (List.nodup_iff_pairwise_ne.mp hznd) j i (by omega) hiz (by omega) (ej.trans e2.symm)
      have hqt : (ti y).h (.ref q) H3 := ⟨q, rfl, by rw [← rk_kV]; exact hq⟩
      have ly : d + 1 < y.length := by rw [hyR.len]; exact hdn
      have hkvl : i < kvs.length := by omega
      refine s_when (t_I (p := fun i j => decide (i < j)) (ev_gd (ev_n rfl hqt) (ev_n (R := nn d) rfl rfl) (by omega)) (ev_gd (ev_n rfl hqt) (ev_succ (ev_n (R := nn d) rfl rfl)) ly)) (fun hb H9 e9 => ?_) (fun hb H9 e9 => ?_)
      · have hasc : gd y d < gd y (d + 1) := of_decide_eq_true hb
        refine q_set (ev_call0 (y, d) (es_cons (ev_n rfl ((ti y).up e9 hqt)) (es1 (ev_n (R := nn d) rfl rfl))) rfl ⟨ly, by show y.length ≤ 1000; rw [hyR.len]; omega⟩) fun ov H10 e10 hov => ?_
        have hov : (ti (exch y d)).h ov H10 := hov
        have oR : Row n (exch y d) := hyR.exch hdn
        have e310 := e9.trans e10
        have hkh10 : (dr n (kvs.length + i) (fun y => nz (hst (ways g (wd.drop (wd.length - k))) d (zs.take i) y))).h (.ref hd') H10 := ⟨hd', kh, rfl, e310 _ _ hkh, hDh, hlh⟩
        have hsum : EvR (tOp (rI0 fun i j => .int (i + j)) (tDGet2 (tVar 6) (tVar 8) (tC (.int 0))) (tDGet (tVar 5) (tVar 7))) [some (.ref x), some (.int (n : Int)), some wv, some gv, some (.int (d : Int)), some (.ref db), some (.ref hd'), some (.ref q), some ov] H10 (nn (hst (ways g (wd.drop (wd.length - k))) d (zs.take i) (exch y d) + ways g (wd.drop (wd.length - k)) y)) := by
          refine (ev_I (g := fun i j => .int (i + j)) (i := ((hst (ways g (wd.drop (wd.length - k))) d (zs.take i) (exch y d) : Nat) : Int)) (j := ((ways g (wd.drop (wd.length - k)) y : Nat) : Int)) ((ev_dget2R oR (ev_n rfl hkh10) (ev_n rfl hov) (ev_k (v := .int 0))).to (by rw [nz_get]; rfl)) fun H1 e Q qq => ?_)
          refine ⟨.ref db, rfl, .ref q, rfl, db, .int ((ways g (wd.drop (wd.length - k)) y : Nat) : Int), rfl, .inr ⟨kvs, rk y, q, .inr ⟨od, e _ _ (e310 _ _ hfr)⟩, rfl, e _ _ (e310 _ _ hq), ?_⟩, qq _ H1 (Ex.refl _) rfl⟩
          rw [hDr.2 y hyR]
          exact (nz_pos hyb).symm
        refine hsum H10 (Ex.refl _) _ fun sv H11 e11 hsv => ?_
        have hsv : sv = .int ((hst (ways g (wd.drop (wd.length - k))) d (zs.take i) (exch y d) + ways g (wd.drop (wd.length - k)) y : Nat) : Int) := hsv
        subst hsv
        obtain ⟨ob, rfl, hob⟩ := hov
        have e311 := e310.trans e11
        refine ⟨.ref hd', rfl, .ref ob, rfl, hd', _, rfl, DPut.t (e311 _ _ hkh) (tup_rk (e11 _ _ hob)) (sz_lt ?_), ?_⟩
        · have : 2 ^ k ≤ 512 := Nat.le_trans (Nat.pow_le_pow_right (by decide) (by omega : k ≤ 9)) (by decide)
          omega
        refine ⟨?_, fun b o h1 h2 h => ?_, putK kh (rk (exch y d)) (.int ((hst (ways g (wd.drop (wd.length - k))) d (zs.take i) (exch y d) + ways g (wd.drop (wd.length - k)) y : Nat) : Int)), _, _, rfl, upd_same, ⟨hDh.1.put oR, fun z hz => ?_⟩, ?_⟩
        · rw [upd_ne (Ne.symm nhdb)]; exact e311 _ _ hfr
        · rw [upd_ne h2]; exact e311 _ _ (hke b o h1 h2 h)
        · rw [valV_put, take_snoc hy]
          show _ = nz (hst _ d (zs.take i ++ [y]) z)
          rw [hst_asc hdn hz hyR hynot hasc]
          by_cases hc : z = exch y d
          · subst hc
            rw [if_pos rfl, if_pos rfl, nz_pos (by omega)]
          · rw [if_neg (fun h => hc (rk_inj h)), if_neg hc]
            exact hDh.2 z hz
        · have := length_putK kh (rk (exch y d)) (.int ((hst (ways g (wd.drop (wd.length - k))) d (zs.take i) (exch y d) + ways g (wd.drop (wd.length - k)) y : Nat) : Int))
          omega
      · have hasc : ¬ gd y d < gd y (d + 1) := of_decide_eq_false hb
        refine ⟨e9 _ _ hfr, fun b o h1 h2 h => e9 _ _ (hke b o h1 h2 h), kh, _, _, rfl, e9 _ _ hkh, ⟨hDh.1, fun z hz => ?_⟩, by omega⟩
        rw [hDh.2 z hz, take_snoc hy]
        show nz _ = nz (hst _ d (zs.take i ++ [y]) z)
        rw [hst_desc hdn hz hyR hasc]
    · rintro σ' H3 ⟨hfr, hke, kh, e0, f0, rfl, hkh, hDh, hlh⟩
      rw [← hzl, List.take_length] at hDh
      have eH : Ex H' (upd H3 db (.dT kvs)) := fun b o h => by
        by_cases hb : b = db
        · subst hb
          rw [upd_same, ← h, hkvs]
        · rw [upd_ne hb]
          exact hke b o hb (fun z => by rw [z, nhd'] at h; cases h) (e68 _ _ h)
      have hys6 := eH _ _ hys
      have npd : hd' ≠ pc := fun z => by rw [z, hys] at nhd'; cases nhd'
      refine ⟨.ref x, rfl, x, _, dx, _, .ref pc, rfl, eH _ _ hx6, C.cl, C.n_counts, rfl, .inl ⟨rfl, _, SqL.of hys6⟩, ?_⟩
      refine ⟨.ref hd', rfl, pc, ys, .ref hd', rfl, rfl, hys6, sz_lt (by omega), ?_⟩
      refine ⟨(e6.trans (.of eH)).trans .put, ys ++ [.ref hd'], _, _, _, _, _, rfl, upd_same, ?_⟩
      rw [List.range_succ, List.map_append]
      refine rels_snoc (drs_keep hys6 ExD.put (hrel.up eH)) ?_
      refine dr_mono (m := kh.length) (f := fun y => nz (hst (ways g (wd.drop (wd.length - k))) d zs y)) ⟨hd', kh, rfl, ?_, hDh, Nat.le_refl _⟩ ?_ fun y hy => ?_
      · rw [upd_ne npd, upd_ne nhdb]; exact hkh
      · rw [Nat.pow_succ]; omega
      · show nz _ = nz (ways g (wd.drop (wd.length - (k + 1))) y)
        rw [show wd.length - (k + 1) = wd.length - 1 - k by omega, drop_pred (wd := wd) (k := wd.length - 1 - k) (by omega), hgd, show wd.length - 1 - k + 1 = wd.length - k by omega]
        rw [hst_all hdn hy fun z hz hne => (rows_all hzs hDr hz).mpr hne]
  · rintro σ' H' ⟨e6, ys, a0, b0, c0, e0, f0, rfl, hys, hrel⟩
    rw [List.length_map, iv_len] at hrel
    have hx6 := e6 _ _ (Ne.symm nx) hx5
    dsimp only
    refine ⟨.ref x, rfl, x, _, dx, _, .ref pc, rfl, hx6, C.cl, C.n_counts, rfl, .inl ⟨rfl, _, SqL.of hys⟩, pc, ys, rfl, rfl, hys, ?_⟩
    have t6 : ExT H5 H' := e6.t fun xs q => by rw [hpc5] at q; cases q
    have t7 : ExT H' (upd H' pc (.lst ys.reverse)) := ExT.put fun xs z => by rw [hys] at z; cases z
    have t47 := ((Ex.t e5).trans t6).trans t7
    refine hk _ ?_ ⟨x, dx, v1, v2, v3, .ref pc, rfl, ?_, im_ti.up t47 hv1, im_ti.up t47 hv2, im_ti.up t47 hv3, pc, ys.reverse, rfl, upd_same, ?_⟩
    · intro b o hb h
      have hbp : b ≠ pc := ne_of_none h npcH
      rw [upd_ne hbp]
      exact e6 _ _ hbp (d5 _ _ hb h)
    · rw [upd_ne (Ne.symm nx)]; exact hx6
    · have h1 := rels_rev (drs_keep hys (ExD.put (o := .lst ys.reverse)) hrel)
      have e8 : ((List.range (wd.length + 1)).map fun j => dr n (2 ^ j) (bk_ wd g wd.length j)).reverse = (List.range (wd.length + 1)).map fun k => dr n (2 ^ (wd.length - k)) (cw g (wd.drop k)) := by
        refine List.ext_getElem (by simp) fun i h1 h2 => ?_
        rw [List.getElem_reverse, List.getElem_map, List.getElem_map, List.getElem_range, List.getElem_range]
        simp only [List.length_map, List.length_range, List.length_reverse] at h1 h2 ⊢
        rw [show wd.length + 1 - 1 - i = wd.length - i by omega]
        show dr n _ (cw g (wd.drop (wd.length - (wd.length - i)))) = _
        rw [show wd.length - (wd.length - i) = i by omega]
      rw [e8] at h1
      refine rels_imp (fun k hk v hv => dr_mono hv ?_ fun _ _ => rfl) h1
      exact Nat.le_trans (Nat.pow_le_pow_right (by decide) (by omega : wd.length - k ≤ 9)) (by decide)
end Wk
set_option Elab.async false
set_option linter.all false
set_option maxRecDepth 100000
set_option maxHeartbeats 4000000
namespace Wk
open PySem PySem.Spec PyProof.Rows L2 Evl SSort
variable {P : Program} {w : World} {K : PySem.W.Frag} {mg : Str → Option Value} {base : Heap}
theorem okT_total (C : Ctx K mg) : OkM P w K mg base 1 (He.fAd K dT_total.at_) PT_total (Pm TD.ok (fun d => [tab K d]) (fun d => nn (ways d.g d.wd (turned d.n)))) := by
  refine mkPmT C.fT_total scT_total (fun _ _ _ _ _ _ us hl => match us, hl with | [_], _ => rfl) (fun _ => rfl) fun cdv A outer s H vs Q E hr d ⟨n1, n5, hW, hl, hg⟩ hv hk => ?_
  obtain ⟨tv, rfl, ht⟩ := rels1 hv
  refine ⟨_, (pss_one (ps_ret (pe_dget2 (hu_of hr) (pe_ix (kix_list K) (kpe_fld K (pv 0) rfl) pe_int (fun _ _ => rfl)) (kpe_fld K (pv 0) rfl) pe_int ⟨rfl, rfl, rfl, rfl⟩))), ?_⟩
  refine s_ret ((ev_dget2R (turned_row d.n) (ev_ixL (ev_counts C (ev_n rfl ht)) (ev_k (v := .int ((0 : Nat) : Int))) (cnts_at (Nat.zero_le _))) (ev_first C (ev_n rfl ht)) (ev_k (v := .int 0))).to ?_) hk
  show is ((nz (ways d.g (d.wd.drop 0) (turned d.n))).getD (.int 0)) = nn _
  rw [nz_get, List.drop_zero]; rfl
theorem okT_left (C : Ctx K mg) : OkM P w K mg base 1 (He.fAd K dT_left.at_) PT_left (Pm (fun x : TD × Nat × List Int => x.1.ok ∧ x.2.1 ≤ x.1.wd.length ∧ Row x.1.n x.2.2) (fun x => [tab K x.1, nn x.2.1, ti x.2.2]) (fun x => nn (ways x.1.g (x.1.wd.drop x.2.1) x.2.2))) := by
  refine mkPmT C.fT_left scT_left (fun _ _ _ _ _ _ us hl => match us, hl with | [_, _, _], _ => rfl) (fun _ => rfl) fun cdv A outer s H vs Q E hr ⟨d, k, x⟩ ⟨hd, hk1, hx⟩ hv hk => ?_
  obtain ⟨tv, _, xv, rfl, ht, rfl, hxv⟩ := rels3 hv
  refine ⟨_, (pss_one (ps_ret (pe_dget2 (hu_of hr) (pe_ix (kix_list K) (kpe_fld K (pv 0) rfl) (pv 1) (fun _ _ => rfl)) (pv 2) pe_int ⟨rfl, rfl, rfl, rfl⟩))), ?_⟩
  refine s_ret ((ev_dget2R hx (ev_ixL (ev_counts C (ev_n rfl ht)) (ev_n (R := nn k) rfl rfl) (cnts_at hk1)) (ev_n rfl hxv) (ev_k (v := .int 0))).to ?_) hk
  show is ((nz (ways d.g (d.wd.drop k) x)).getD (.int 0)) = nn _
  rw [nz_get]; rfl
def wo (o : Option (List Int)) : Rel := match o with
  | some y => ti y
  | none => is .non
theorem okT_working (C : Ctx K mg) : OkM P w K mg base 2 (He.fAd K dT_working.at_) PT_working (Pm (fun x : TD × Nat × List Int => x.1.ok ∧ x.2.1 < x.1.wd.length ∧ Row x.1.n x.2.2) (fun x => [tab K x.1, nn x.2.1, ti x.2.2]) (fun x => wo (wk x.2.2 (x.1.wd.getD x.2.1 0)))) := by
  have O_exchanged := ok_exchanged (P := P) (w := w) (base := base) C
  refine mkPmT C.fT_working scT_working (fun _ _ _ _ _ _ us hl => match us, hl with | [_, _, _], _ => rfl) (fun _ => rfl) fun cdv A outer s H vs Q E hr ⟨d, k, x⟩ ⟨hd, hk1, hx⟩ hv hk => ?_
  obtain ⟨tv, _, xv, rfl, ht, rfl, hxv⟩ := rels3 hv
  obtain ⟨n1, n5, hW, hl, hg⟩ := hd
  have n5 : d.n ≤ 5 := n5
  have hl : d.wd.length ≤ 9 := hl
  have hk1 : k < d.wd.length := hk1
  have hx : Row d.n x := hx
  refine ⟨_, (pss_cons (ps_set (i := 3) scT_working.nd rfl (Or.inl rfl) (pe_ix (kix_tup K) (kpe_fld K (pv 0) rfl) (pv 1) (fun _ _ => rfl)))
    (pss_one (ps_ret (pe_ifExp (pt_cmpR op_gt (pe_ix (kix_tup K) (pv 2) (pv 3) (fun _ _ => rfl)) (pe_ix (kix_tup K) (pv 2) (pe_op op_add (pv 3) pe_int) (fun _ _ => rfl)) (nomark _)) (pcall O_exchanged (hr.mono (by decide)) (pa_cons (pv 2) (pa_cons (pv 3) pa_nil))) pe_non)))), ?_⟩
  refine q_set (ev_wd (ev_word C (ev_n rfl ht)) (ev_n (R := nn k) rfl rfl) hk1) fun dv H1 e1 hdv => ?_
  have hdn : d.wd.getD k 0 + 1 < d.n := hW _ (by rw [List.getD_eq_getElem?_getD, List.getElem?_eq_getElem hk1]; exact List.getElem_mem _)
  have hx1 := (ti x).up e1 hxv
  refine s_ret (ev_cond (b := desc x (d.wd.getD k 0)) (t_I (p := fun i j => decide (j < i)) (ev_gd (ev_n rfl hx1) (ev_n rfl hdv) (by rw [hx.len]; omega)) (ev_gd (ev_n rfl hx1) (ev_succ (ev_n rfl hdv)) (by rw [hx.len]; exact hdn))) (fun h => ?_) fun h => ?_) fun v H2 e2 hv => hk v H2 (e1.trans e2) hv
  · refine (ev_call0 (x, d.wd.getD k 0) (es_cons (ev_n rfl hx1) (es1 (ev_n rfl hdv))) rfl ⟨by show _ < x.length; rw [hx.len]; exact hdn, by show x.length ≤ 1000; rw [hx.len]; omega⟩).to ?_
    show ti _ = wo (wk x _)
    unfold wk; rw [if_pos h]; rfl
  · refine (ev_k (v := .non)).to ?_
    show is .non = wo (wk x _)
    unfold wk; rw [h, if_neg (by decide)]; rfl
theorem okT_ways_working (C : Ctx K mg) : OkM P w K mg base 3 (He.fAd K dT_ways_working.at_) PT_ways_working (Pm (fun x : TD × Nat × List Int => x.1.ok ∧ x.2.1 < x.1.wd.length ∧ Row x.1.n x.2.2) (fun x => [tab K x.1, nn x.2.1, ti x.2.2]) (fun x => nn (wwk x.1.g (x.1.wd.drop x.2.1) x.2.2))) := by
  have OT_working := okT_working (P := P) (w := w) (base := base) C
  have OT_left := okT_left (P := P) (w := w) (base := base) C
  refine mkPmT C.fT_ways_working scT_ways_working (fun _ _ _ _ _ _ us hl => match us, hl with | [_, _, _], _ => rfl) (fun _ => rfl) fun cdv A outer s H vs Q E hr ⟨d, k, x⟩ ⟨hd, hk1, hx⟩ hv hk => ?_
  obtain ⟨tv, _, xv, rfl, ht, rfl, hxv⟩ := rels3 hv
  have hd' := hd
  obtain ⟨n1, n5, hW, hl, hg⟩ := hd'
  have n5 : d.n ≤ 5 := n5
  have hl : d.wd.length ≤ 9 := hl
  have hk1 : k < d.wd.length := hk1
  have hx : Row d.n x := hx
  have ht : (tab K d).h tv H := ht
  have hxv : (ti x).h xv H := hxv
  have hdn : d.wd.getD k 0 + 1 < d.n := hW _ (by rw [List.getD_eq_getElem?_getD, List.getElem?_eq_getElem hk1]; exact List.getElem_mem _)
  refine ⟨_, (pss_cons (ps_set (i := 3) scT_ways_working.nd rfl (Or.inl rfl) (pmeth OT_working (pv 0) C.cl C.m_working (hr.mono (by decide)) (pa_cons (pv 1) (pa_cons (pv 2) pa_nil))))
    (pss_one (ps_ret (pe_ifExp (pt_cmpR op_isN (pv 3) pe_non (nomark _)) pe_int (pmeth OT_left (pv 0) C.cl C.m_left (hr.mono (by decide)) (pa_cons (pe_op op_add (pv 1) pe_int) (pa_cons (pv 3) pa_nil))))))), ?_⟩
  refine q_set (ev_meth (d, k, x) (ev_n rfl ht) (es_cons (ev_n (R := nn k) rfl rfl) (es1 (ev_n rfl hxv))) rfl ⟨hd, hk1, hx⟩ (fun _ _ _ _ => rfl)) fun ov H1 e1 ho => ?_
  have ho : (wo (wk x (d.wd.getD k 0))).h ov H1 := ho
  have hk : ∀ v H', Ex H H' → (nn (wwk d.g (d.wd.drop k) x)).h v H' → Q v H' := hk
  rw [wwk_drop hk1] at hk
  have ht1 := (tab K d).up e1 ht
  unfold wk at ho
  by_cases hc : desc x (d.wd.getD k 0) = true
  · rw [if_pos hc] at ho hk
    have ho : (ti (exch x (d.wd.getD k 0))).h ov H1 := ho
    have hne : ov ≠ .non := fun z => by obtain ⟨a, h, _⟩ := ho; rw [z] at h; cases h
    refine s_ret (ev_cond (b := false) (t_is (t_test (ev_isN (ev_n (R := is ov) rfl rfl))) (by simpa using hne)) (fun h => by cases h) fun _ => ev_meth (d, k + 1, exch x (d.wd.getD k 0)) (ev_n rfl ht1) (es_cons (ev_succ (ev_n (R := nn k) rfl rfl)) (es1 (ev_n rfl ho))) rfl ⟨hd, hk1, hx.exch hdn⟩ (fun _ _ _ _ => rfl)) fun v H2 e2 hv => hk v H2 (e1.trans e2) hv
  · rw [if_neg hc] at ho hk
    have ho : ov = .non := ho
    subst ho
    refine s_ret (ev_cond (b := true) (t_is (t_test (ev_isN (ev_n (R := is .non) rfl rfl))) (by decide)) (fun _ => ev_k (v := .int ((0 : Nat) : Int))) (fun h => by cases h)) fun v H2 e2 hv => hk v H2 (e1.trans e2) hv
theorem okT_number (C : Ctx K mg) : OkM P w K mg base 4 (He.fAd K dT_number.at_) PT_number (Pm (fun x : TD × List Nat => x.1.ok ∧ x.2.length ≤ 200 ∧ Path x.1.g x.1.wd 0 (has x.2) (turned x.1.n)) (fun x => [tab K x.1, ti (iv x.2)]) (fun _ => ex (fun _ : Nat => True) nn)) := by
  have OT_working := okT_working (P := P) (w := w) (base := base) C
  have OT_ways_working := okT_ways_working (P := P) (w := w) (base := base) C
  refine mkPmT C.fT_number scT_number (fun _ _ _ _ _ _ us hl => match us, hl with | [_, _], _ => rfl) (fun _ => rfl) fun cdv A outer s H vs Q E hr ⟨d, L⟩ ⟨hd, hL, hp⟩ hv hk => ?_
  obtain ⟨tv, lv, rfl, ht, hlv⟩ := rels2 hv
  have hd' := hd
  obtain ⟨n1, n5, hW, hl, hg⟩ := hd'
  have n5 : d.n ≤ 5 := n5
  have hl : d.wd.length ≤ 9 := hl
  have hL : L.length ≤ 200 := hL
  have hp : Path d.g d.wd 0 (has L) (turned d.n) := hp
  have ht : (tab K d).h tv H := ht
  refine ⟨_, (pss_cons (ps_set (i := 2) scT_number.nd rfl (Or.inl rfl) (pe_callTy (kcr_setT K w rfl) (by rfl) C.g_set (by decide +kernel) (pa_cons (pv 1) pa_nil)))
    (pss_cons (ps_par (i := 3) (j := 4) (by rfl) scT_number.nd rfl rfl (by decide) rfl rfl (pa_cons (kpe_fld K (pv 0) rfl) (pa_cons pe_int pa_nil)) (by rfl))
    (pss_cons (ps_for PassesOwn.never rfl (pi_range1 rfl C.g_range (pa_cons (pe_callB (kcall_len K) (by rfl) C.g_len PySem.boot_len (pa_cons (kpe_fld K (pv 0) rfl) pa_nil)) pa_nil)) (pg_name (i := 5) scT_number.nd rfl (Or.inl rfl)) (pss_one (ps_if (pt_cmpR (kor_sin w) (pv 5) (pv 2) (by rfl)) (pss_one (ps_aug (i := 4) scT_number.nd rfl (Or.inl rfl) (pmeth OT_ways_working (pv 0) C.cl C.m_ways_working (hr.mono (by decide)) (pa_cons (pv 5) (pa_cons (pv 3) pa_nil))) ip_add)) (pss_cons (ps_set (i := 3) scT_number.nd rfl (Or.inl rfl) (pmeth OT_working (pv 0) C.cl C.m_working (hr.mono (by decide)) (pa_cons (pv 5) (pa_cons (pv 3) pa_nil))))
    (pss_one (ps_if (pt_cmpR op_isN (pv 3) pe_non (nomark _)) (pss_one (ps_ret pe_non)) pss_nil))))))
    (pss_one (ps_ret (pe_ifExp (pt_cmpR (keqD K hr.units) (pv 3) (kpe_fld K (pv 0) rfl) (nomark _)) (pv 4) pe_non)))))), ?_⟩
  refine q_set (ev_set (ev_n rfl hlv) (by omega)) fun fv H1 e1 hf => ?_
  refine q_par (ev_first C (ev_n rfl ((tab K d).up e1 ht))) (ev_k (v := .int ((0 : Nat) : Int))) fun rv z H2 e2 hrv hz => ?_
  have hz : z = .int ((0 : Nat) : Int) := hz
  subst hz
  have e02 := e1.trans e2
  refine q_of (s_forR (n := d.wd.length) (es1 ((ev_lenTi (ev_word C (ev_n rfl ((tab K d).up e02 ht)))).to (by rw [iv_len]))) (by omega) fun H3 e3 => ⟨fun k σ' H' => Ex H3 H' ∧ ∃ rv c a, σ' = [some tv, some lv, some fv, some rv, some (.int ((c : Nat) : Int)), a] ∧ (ti (swp (turned d.n) (d.wd.take k) 0 (has L))).h rv H', ?_⟩)
  refine ⟨⟨Ex.refl _, rv, 0, none, rfl, (ti (turned d.n)).up e3 hrv⟩, fun k σ' H' z => Ex.t z.1, ?_, ?_⟩
  · rintro k σ' H' hk' ⟨e4, rv, c, a, rfl, hrv⟩
    have e24 := e3.trans e4
    have hst := (st w L).up (e2.trans e24) hf
    have ht4 := (tab K d).up (e02.trans e24) ht
    have hs : d.wd[k]? = some (d.wd.getD k 0) := by rw [List.getD_eq_getElem?_getD, List.getElem?_eq_getElem hk']; rfl
    have hdn : d.wd.getD k 0 + 1 < d.n := hW _ (List.mem_of_getElem? hs)
    have hRk : Row d.n (swp (turned d.n) (d.wd.take k) 0 (has L)) := swp_row (fun s hs => hW s (List.mem_of_mem_take hs)) (turned_row d.n)
    refine s_if (t_test (ev_inS (w := w) (L := L) (k := k) (ev_n rfl rfl) (ev_n rfl hst))) (fun hb H5 e5 => ?_) (fun hb H5 e5 => ?_)
    · refine ⟨.int ((c : Nat) : Int), rfl, ?_⟩
      refine ev_meth (d, k, swp (turned d.n) (d.wd.take k) 0 (has L)) (ev_n rfl ((tab K d).up e5 ht4)) (es_cons (ev_n (R := nn k) rfl rfl) (es1 (ev_n rfl ((ti _).up e5 hrv)))) rfl ⟨hd, hk', hRk⟩ (fun _ _ _ _ => rfl) H5 (Ex.refl _) _ fun wv H6 e6 hwv => ?_
      have hwv : wv = .int _ := hwv
      subst hwv
      refine ⟨_, _, rfl, rfl, ?_⟩
      refine ⟨(e4.trans e5).trans e6, rv, c + wwk d.g (d.wd.drop k) (swp (turned d.n) (d.wd.take k) 0 (has L)), _, rfl, ?_⟩
      rw [swp_snoc hs, if_pos hb]
      exact (ti _).up (e5.trans e6) hrv
    · have hdesc := path_at hp k _ hs (by rw [Nat.zero_add]; exact hb)
      refine q_set (ev_meth (d, k, swp (turned d.n) (d.wd.take k) 0 (has L)) (ev_n rfl ((tab K d).up e5 ht4)) (es_cons (ev_n (R := nn k) rfl rfl) (es1 (ev_n rfl ((ti _).up e5 hrv)))) rfl ⟨hd, hk', hRk⟩ (fun _ _ _ _ => rfl)) fun ov H6 e6 ho => ?_
      have ho : (wo (wk (swp (turned d.n) (d.wd.take k) 0 (has L)) (d.wd.getD k 0))).h ov H6 := ho
      unfold wk at ho
      rw [if_pos hdesc] at ho
      have ho : (ti (exch (swp (turned d.n) (d.wd.take k) 0 (has L)) (d.wd.getD k 0))).h ov H6 := ho
      have hne : ov ≠ .non := fun z => by obtain ⟨a, h, _⟩ := ho; rw [z] at h; cases h
      refine s_skip (t_is (t_test (ev_isN (ev_n (R := is ov) rfl rfl))) (by simpa using hne)) fun H7 e7 => ⟨((e4.trans e5).trans e6).trans e7, ov, c, _, rfl, ?_⟩
      rw [swp_snoc hs, if_neg (by rw [hb]; decide)]
      exact (ti _).up e7 ho
  · rintro σ' H' ⟨e4, rv, c, a, rfl, hrv⟩
    rw [List.take_length, path_end hp] at hrv
    have e04 := (e02.trans e3).trans e4
    dsimp only
    refine s_ret (ev_cond (b := true) (t_is (t_test (ev_eqTi (ev_n rfl hrv) (ev_goal C (ev_n rfl ((tab K d).up e04 ht))))) (by simp)) (fun _ => ev_n (R := nn c) rfl rfl) (fun h => by cases h)) fun v H5 e5 hv => hk v H5 (e04.trans e5) ⟨c, trivial, hv⟩
end Wk
set_option Elab.async false
set_option linter.all false
set_option maxRecDepth 100000
set_option maxHeartbeats 4000000
namespace Wk
open PySem PySem.Spec PyProof.Rows L2 Evl SSort
variable {P : Program} {w : World} {K : PySem.W.Frag} {mg : Str → Option Value} {base : Heap}
abbrev En := Nat × List Int × List Nat
def rE (e : En) : Rel := tp [nn e.1, ti e.2.1, ti (iv e.2.2)]
def dE (e : En) : PyData := .tuple [.int (e.1 : Int), dti e.2.1, dti (iv e.2.2)]
theorem im_rE (e : En) : Im (rE e) := im_tp ⟨im_nn, im_ti, im_ti, trivial⟩
theorem dps_rE (e : En) : Dps K (rE e) (dE e) := dps_tp (.cons dps_ii (.cons dps_ti (.cons dps_ti .nil)))
theorem flt_dE (e : En) : Flt 2 (dE e) := by
  have h1 := flt_dti (ns := e.2.1)
  have h2 := flt_dti (ns := iv e.2.2)
  unfold dE
  refine ⟨?_, ?_⟩
  · simp [PyData.canLay0, PyData.canLayAll0, h1.1, h2.1]
  · have a := h1.2
    have b := h2.2
    simp only [PyData.depth, PyData.depthAll]
    omega
theorem rels_snoc_inv : ∀ {Rs : List Rel} {R : Rel} {vs : List V} {H : Hp}, Rels (Rs ++ [R]) vs H → ∃ us v, vs = us ++ [v] ∧ Rels Rs us H ∧ R.h v H
  | [], R, [v], H, h => ⟨[], v, rfl, trivial, h.1⟩
  | [], R, [], H, h => h.elim
  | [], R, _ :: _ :: _, H, h => h.2.elim
  | A :: Rs, R, [], H, h => h.elim
  | A :: Rs, R, u :: vs, H, h => by
    obtain ⟨us, v, rfl, h1, h2⟩ := rels_snoc_inv (Rs := Rs) h.2
    exact ⟨u :: us, v, rfl, ⟨h.1, h1⟩, h2⟩
/-- the lots that an entry stands for -/
def exE (d : TD) (e : En) : List (List Nat) := (fac d.g (d.wd.drop e.1) e.1 e.2.1).map (e.2.2 ++ ·)
structure EnOk (d : TD) (e : En) : Prop where
  le : e.1 ≤ d.wd.length
  row : Row d.n e.2.1
  pos : 0 < ways d.g (d.wd.drop e.1) e.2.1
  len : e.2.2.length ≤ e.1
def wtE (d : TD) (S : List En) : Nat := (S.map fun e => 3 ^ (d.wd.length - e.1 + 1)).sum
theorem len_flat {α β : Type} {f : α → List β} : ∀ {l : List α}, (∀ a ∈ l, 0 < (f a).length) → l.length ≤ (l.flatMap f).length
  | [], _ => Nat.le_refl _
  | a :: l, h => by
    rw [List.flatMap_cons, List.length_append, List.length_cons]
    have := h a List.mem_cons_self
    have := len_flat (l := l) fun b hb => h b (List.mem_cons_of_mem _ hb)
    omega
structure Dfs (d : TD) (S : List En) (Fs : List (List Nat)) : Prop where
  ok : ∀ e ∈ S, EnOk d e
  all : Fs ++ S.reverse.flatMap (exE d) = fac d.g d.wd 0 (turned d.n)
theorem Dfs.small {d : TD} {S : List En} {Fs : List (List Nat)} (h : Dfs d S Fs) (hl : d.wd.length ≤ 9) : S.length + Fs.length ≤ 512 := by
  have h1 := congrArg List.length h.all
  rw [List.length_append, fac_len] at h1
  have h2 := len_flat (f := exE d) (l := S.reverse) fun e he => by
    unfold exE
    rw [List.length_map, fac_len]
    exact (h.ok e (List.mem_reverse.mp he)).pos
  rw [List.length_reverse] at h2
  have h3 : ways d.g d.wd (turned d.n) ≤ 2 ^ d.wd.length := ways_le
  have h4 : 2 ^ d.wd.length ≤ 512 := Nat.le_trans (Nat.pow_le_pow_right (by decide) hl) (by decide)
  omega
theorem exE_step {d : TD} {p : Nat} {r : List Int} {l : List Nat} (h : p < d.wd.length) : exE d (p, r, l) = (if desc r (d.wd.getD p 0) = true then exE d (p + 1, exch r (d.wd.getD p 0), l) else []) ++ exE d (p + 1, r, l ++ [p]) := by
  unfold exE
  rw [show d.wd.drop p = d.wd.getD p 0 :: d.wd.drop (p + 1) from drop_pred h, fac, List.map_append]
  congr 1
  · split <;> rfl
  · rw [List.map_map]
    refine List.map_congr_left fun L _ => ?_
    show l ++ (p :: L) = (l ++ [p]) ++ L
    simp
/-- the loop's state -/
def LSt (d : TD) (tv : V) (pf ph : Addr) (H : Hp) (μ : Nat) (σ' : L2.St) (H' : Hp) : Prop := ∃ (S : List En) (Fs : List (List Nat)) (ys zs : List V) (a b c : Option V), μ = wtE d S ∧ Ex H H' ∧ σ' = [some tv, some (.ref pf), some (.ref ph), a, b, c] ∧ H' pf = some (.lst zs) ∧ Rels (Fs.map fun L => ti (iv L)) zs H' ∧ H' ph = some (.lst ys) ∧ Rels (S.map rE) ys H' ∧ Dfs d S Fs
theorem okT_lots (C : Ctx K mg) : OkM P w K mg base 4 (He.fAd K dT_lots.at_) PT_lots (Pm TD.ok (fun d => [tab K d]) (fun d => ls ((fac d.g d.wd 0 (turned d.n)).map fun L => ti (iv L)))) := by
  have OT_working := okT_working (P := P) (w := w) (base := base) C
  have OT_ways_working := okT_ways_working (P := P) (w := w) (base := base) C
  have OT_total := okT_total (P := P) (w := w) (base := base) C
  have OT_left := okT_left (P := P) (w := w) (base := base) C
  refine mkPmT C.fT_lots scT_lots (fun _ _ _ _ _ _ us hl => match us, hl with | [_], _ => rfl) (fun _ => rfl) fun cdv A outer s H vs Q E hr d hd hv hk => ?_
  obtain ⟨tv, rfl, ht⟩ := rels1 hv
  have hd' := hd
  obtain ⟨n1, n5, hW, hl, hg⟩ := hd'
  have ht : (tab K d).h tv H := ht
  refine ⟨_, (pss_cons (ps_set (i := 1) scT_lots.nd rfl (Or.inl rfl) (pe_lst pa_nil))
    (pss_cons (ps_set (i := 2) scT_lots.nd rfl (Or.inl rfl) (pe_ifExp (pt_cmpR op_gt (pmeth0 OT_total (pv 0) C.cl C.m_total (hr.mono (by decide))) pe_int (nomark _)) (pe_lst (pa_cons (pe_tup (pa_cons pe_int (pa_cons (kpe_fld K (pv 0) rfl) (pa_cons (pe_tup pa_nil) pa_nil)))) pa_nil)) (pe_lst pa_nil)))
    (pss_cons (ps_while PassesOwn.never (pt_cmpR (kneD K hr.units) (pv 2) (pe_lst pa_nil) (nomark _)) (pss_cons (ps_asg (kpe_bm0 K PySem.F.plainAttrs_list PySem.F.slot_list_pop PySem.F.type_list_pop mt_pop (pv 2)) (kpg_tup K rfl (pgs_cons (pg_name (i := 3) scT_lots.nd rfl (Or.inl rfl)) (pgs_cons (pg_name (i := 4) scT_lots.nd rfl (Or.inl rfl)) (pgs_cons (pg_name (i := 5) scT_lots.nd rfl (Or.inl rfl)) pgs_nil)))))
    (pss_cons (ps_if (pt_cmpR op_eq (pv 3) (pe_callB (kcall_len K) (by rfl) C.g_len PySem.boot_len (pa_cons (kpe_fld K (pv 0) rfl) pa_nil)) (nomark _)) (pss_cons (ps_expr (kpe_bm K PySem.F.plainAttrs_list PySem.F.slot_list_append PySem.F.type_list_append mt_append (pv 1) (pa_cons (pv 5) pa_nil)))
    (pss_one ps_continue)) pss_nil)
    (pss_cons (ps_if (pt_cmpR op_gt (pmeth OT_left (pv 0) C.cl C.m_left (hr.mono (by decide)) (pa_cons (pe_op op_add (pv 3) pe_int) (pa_cons (pv 4) pa_nil))) pe_int (nomark _)) (pss_one (ps_expr (kpe_bm K PySem.F.plainAttrs_list PySem.F.slot_list_append PySem.F.type_list_append mt_append (pv 2) (pa_cons (pe_tup (pa_cons (pe_op op_add (pv 3) pe_int) (pa_cons (pv 4) (pa_cons (pe_tup (StX.pa_star (pv 5) (pa_cons (pv 3) pa_nil))) pa_nil)))) pa_nil)))) pss_nil)
    (pss_one (ps_if (pt_cmpR op_gt (pmeth OT_ways_working (pv 0) C.cl C.m_ways_working (hr.mono (by decide)) (pa_cons (pv 3) (pa_cons (pv 4) pa_nil))) pe_int (nomark _)) (pss_one (ps_expr (kpe_bm K PySem.F.plainAttrs_list PySem.F.slot_list_append PySem.F.type_list_append mt_append (pv 2) (pa_cons (pe_tup (pa_cons (pe_op op_add (pv 3) pe_int) (pa_cons (pmeth OT_working (pv 0) C.cl C.m_working (hr.mono (by decide)) (pa_cons (pv 3) (pa_cons (pv 4) pa_nil))) (pa_cons (pv 5) pa_nil)))) pa_nil)))) pss_nil))))))
    (pss_one (ps_ret (pv 1)))))), ?_⟩
  refine q_set (ev_lstN es_nil (by decide)) fun fv H1 e1 hf => ?_
  obtain ⟨pf, zs, rfl, npf, hpf, hzs⟩ := hf
  have hzs0 : zs = [] := by cases zs with
    | nil => rfl
    | cons a b => exact hzs.elim
  subst hzs0
  -- the first heads
  have hH : EvR (tIf (tTest (tOp (rI0 fun i j => .bl (decide (j < i))) (tMeth (tC_ K) "total" (Pm TD.ok (fun d => [tab K d]) fun d => nn (ways d.g d.wd (turned d.n))) [] E0 (tVar 0) tNil) (tC (.int 0)))) (tLst (tCons (tTup (tCons (tC (.int 0)) (tCons (tFld K (tVar 0) "first") (tCons (tTup tNil) tNil)))) tNil)) (tLst tNil)) ((L2.start NT_lots [tv]).set 1 (some (.ref pf))) H1 (lsN H1 ((if 0 < ways d.g d.wd (turned d.n) then [(0, turned d.n, ([] : List Nat))] else []).map rE)) := by
    have ht1 := (tab K d).up e1 ht
    refine ev_cond (b := decide (0 < ways d.g d.wd (turned d.n))) (t_is (t_I (ev_meth d (ev_n rfl ht1) es_nil rfl hd (fun _ _ _ _ => rfl)) (ev_k (v := .int 0))) (by rw [decide_eq_decide]; omega)) (fun h => ?_) fun h => ?_
    · rw [if_pos (of_decide_eq_true h)]
      exact ev_lstN (es1 (ev_tup (es_cons (ev_k (v := .int ((0 : Nat) : Int))) (es_cons (ev_first C (ev_n rfl ht1)) (es1 (ev_tupI (ns := []) es_nil (by decide))))) (by show 3 ≤ 100000; decide))) (by show 1 ≤ 100000; decide)
    · rw [if_neg (of_decide_eq_false h)]
      exact ev_lstN es_nil (by decide)
  refine q_set hH fun hv' H2 e2 hhv => ?_
  obtain ⟨ph, ys, rfl, nph, hph, hys⟩ := hhv
  have nphH := fresh_back e1 nph
  have nfh : pf ≠ ph := ne_of_none hpf nph
  have e02 := e1.trans e2
  have hD0 : Dfs d (if 0 < ways d.g d.wd (turned d.n) then [(0, turned d.n, ([] : List Nat))] else []) [] := by
    by_cases hp : 0 < ways d.g d.wd (turned d.n)
    · rw [if_pos hp]
      refine ⟨fun e he => ?_, ?_⟩
      · rw [List.mem_singleton] at he
        subst he
        exact ⟨Nat.zero_le _, turned_row d.n, by rw [List.drop_zero]; exact hp, Nat.zero_le _⟩
      · show [] ++ ([(0, turned d.n, ([] : List Nat))].reverse).flatMap (exE d) = _
        unfold exE
        simp
    · rw [if_neg hp]
      refine ⟨(fun e he => nomatch he), ?_⟩
      have : (fac d.g d.wd 0 (turned d.n)).length = 0 := by rw [fac_len]; omega
      rw [List.eq_nil_of_length_eq_zero this]; rfl
  refine q_of ⟨LSt d tv pf ph H, ⟨wtE d (if 0 < ways d.g d.wd (turned d.n) then [(0, turned d.n, ([] : List Nat))] else []), (if 0 < ways d.g d.wd (turned d.n) then [(0, turned d.n, ([] : List Nat))] else []), [], ys, [], none, none, none, rfl, e02, rfl, e2 _ _ hpf, trivial, hph, hys, hD0⟩, ?_⟩
  · rintro μ σ' H' ⟨S, Fs, ys, zs, a, b, c, rfl, eH, rfl, hzf, hzr, hyh, hyr, hD⟩
    have hsm := hD.small hl
    have hyl : ys.length = S.length := by rw [← rels_len hyr, List.length_map]
    have hzl : zs.length = Fs.length := by rw [← rels_len hzr, List.length_map]
    refine (t_test (ev_neNil (T := rE) (ev_n rfl ⟨ph, ys, rfl, hyh, hyr⟩) dps_rE flt_dE (by decide)) : EvT _ _ H' (!S.isEmpty)) H' (Ex.refl _) _ fun H3 e3 => ?_
    rcases List.eq_nil_or_concat S with rfl | ⟨S', e, rfl⟩
    · rw [if_neg (by decide)]
      have hall := hD.all
      simp only [List.reverse_nil, List.flatMap_nil, List.append_nil] at hall
      subst hall
      dsimp only
      exact s_ret (ev_n (R := ls ((fac d.g d.wd 0 (turned d.n)).map fun L => ti (iv L))) rfl ⟨pf, zs, rfl, e3 _ _ hzf, hzr.up e3⟩) fun v H4 e4 hv => hk v H4 ((eH.trans e3).trans e4) hv
    · rw [List.concat_eq_append] at hyl hyr hD hsm ⊢
      rw [if_pos (by cases S' <;> rfl)]
      obtain ⟨p, r, l⟩ := e
      rw [List.map_append] at hyr
      obtain ⟨us, y, rfl, hus, hy⟩ := rels_snoc_inv hyr
      obtain ⟨q, vs3, rfl, hq, hr3⟩ := hy
      obtain ⟨_, rv, lv, rfl, hpv, hrv, hlv⟩ := rels3 hr3
      have hpv : _ = V.int (p : Int) := hpv
      subst hpv
      have hok := hD.ok (p, r, l) (by simp)
      have hrow : Row d.n r := hok.row
      have hple : p ≤ d.wd.length := hok.le
      have hll : l.length ≤ p := hok.len
      have wS : wtE d (S' ++ [(p, r, l)]) = wtE d S' + 3 ^ (d.wd.length - p + 1) := by unfold wtE; simp
      rw [wS]
      rw [List.length_append] at hsm
      have hsm : S'.length + 1 + Fs.length ≤ 512 := hsm
      have hul : us.length = S'.length := by rw [← rels_len hus, List.length_map]
      have hyh3 := e3 _ _ hyh
      have et : ExT H3 (upd H3 ph (.lst us)) := ExT.put fun xs z => by rw [hyh3] at z; cases z
      have eH4 : Ex H (upd H3 ph (.lst us)) := Ex.mut (eH.trans e3) nphH
      have hq4 : upd H3 ph (.lst us) q = some (.tup [.int (p : Int), rv, lv]) := et _ _ (e3 _ _ hq)
      have hzf4 : upd H3 ph (.lst us) pf = some (.lst zs) := by rw [upd_ne nfh]; exact e3 _ _ hzf
      have hzr4 := Ims.up (ims_map (fun _ => im_ti) Fs) et (hzr.up e3)
      have hus4 := Ims.up (ims_map im_rE S') et (hus.up e3)
      have hrv4 : (ti r).h rv (upd H3 ph (.lst us)) := im_ti.up et ((ti r).up e3 hrv)
      have hlv4 : (ti (iv l)).h lv (upd H3 ph (.lst us)) := im_ti.up et ((ti (iv l)).up e3 hlv)
      refine ⟨fun σ' H' => ∃ m', m' < wtE d S' + 3 ^ (d.wd.length - p + 1) ∧ LSt d tv pf ph H m' σ' H', fun σ' H' h => h, ?_⟩
      refine (?_ : tSeq _ _ _ _ H3)
      refine ⟨.ref ph, rfl, .inl ⟨rfl, _, SqL.of hyh3⟩, ph, us ++ [.ref q], .ref q, rfl, rfl, hyh3, by simp, ?_⟩
      rw [List.dropLast_concat]
      refine ⟨q, _, rfl, SqT.of hq4, rfl, _, _, rfl, _, _, rfl, _, _, rfl, rfl, ?_⟩
      have ht4 := (tab K d).up eH4 ht
      have hall := hD.all
      rw [List.reverse_append, List.reverse_singleton, List.singleton_append, List.flatMap_cons] at hall
      refine q_when (t_test (ev_eqN (ev_n (R := nn p) rfl rfl) ((ev_lenTi (ev_word C (ev_n rfl ht4))).to (by rw [iv_len])))) (fun hb H5 e5 => ?_) (fun hb H5 e5 => ?_)
      · have hpm : p = d.wd.length := of_decide_eq_true hb
        refine ⟨.ref pf, rfl, .inl ⟨rfl, _, SqL.of (e5 _ _ hzf4)⟩, lv, rfl, pf, zs, lv, rfl, rfl, e5 _ _ hzf4, sz_lt (by omega), ?_⟩
        have hzf5 := e5 _ _ hzf4
        have et5 : ExT H5 (upd H5 pf (.lst (zs ++ [lv]))) := ExT.put fun xs z => by rw [hzf5] at z; cases z
        refine ⟨wtE d S', by have := Nat.pow_pos (n := d.wd.length - p + 1) (show 0 < 3 by decide); omega, S', Fs ++ [l], us, zs ++ [lv], _, _, _, rfl, Ex.mut (eH4.trans e5) npf, rfl, upd_same, ?_, ?_, ?_, ?_⟩
        · rw [List.map_append]
          exact rels_snoc (Ims.up (ims_map (fun _ => im_ti) Fs) et5 (hzr4.up e5)) (im_ti.up et5 ((ti (iv l)).up e5 hlv4))
        · rw [upd_ne (Ne.symm nfh)]; exact e5 _ _ upd_same
        · exact Ims.up (ims_map im_rE S') et5 (hus4.up e5)
        · refine ⟨fun e he => hD.ok e (List.mem_append_left _ he), ?_⟩
          have hpos := hok.pos
          have : exE d (p, r, l) = [l] := by
            unfold exE
            have hpos : 0 < ways d.g (d.wd.drop p) r := hpos
            rw [hpm, List.drop_length] at hpos ⊢
            unfold ways at hpos
            unfold fac
            by_cases hrg : r = d.g
            · rw [if_pos hrg]; simp
            · rw [if_neg hrg] at hpos; omega
          rw [this] at hall
          rw [← hall]; simp
      · have hpm : p < d.wd.length := by
          have : ¬ p = d.wd.length := of_decide_eq_false hb
          omega
        have hs : d.wd[p]? = some (d.wd.getD p 0) := by rw [List.getD_eq_getElem?_getD, List.getElem?_eq_getElem hpm]; rfl
        have hdn : d.wd.getD p 0 + 1 < d.n := hW _ (List.mem_of_getElem? hs)
        rw [exE_step hpm] at hall
        have h3p : 3 ^ (d.wd.length - p + 1) = 3 ^ (d.wd.length - (p + 1) + 1) * 3 := by
          rw [show d.wd.length - p + 1 = (d.wd.length - (p + 1) + 1) + 1 by omega, Nat.pow_succ]
        have h3q : 0 < 3 ^ (d.wd.length - (p + 1) + 1) := Nat.pow_pos (by decide)
        have ht5 := (tab K d).up e5 ht4
        have hrv5 := (ti r).up e5 hrv4
        -- the part with the deed left out has been pushed, or not
        have part2 : ∀ (H6 : Hp) (S1 : List En) (ys1 : List V), Ex H H6 → H6 pf = some (.lst zs) → Rels (Fs.map fun L => ti (iv L)) zs H6 → H6 ph = some (.lst ys1) → Rels (S1.map rE) ys1 H6 → (∀ e ∈ S1, EnOk d e) → S1.length ≤ 520 → wtE d S1 ≤ wtE d S' + 3 ^ (d.wd.length - (p + 1) + 1) →
            (ti r).h rv H6 → (ti (iv l)).h lv H6 → Fs ++ ((if desc r (d.wd.getD p 0) = true then exE d (p + 1, exch r (d.wd.getD p 0), l) else []) ++ S1.reverse.flatMap (exE d)) = fac d.g d.wd 0 (turned d.n) →
            (tIfS (tTest (tOp (rI0 fun i j => .bl (decide (j < i))) (tMeth (tC_ K) "ways_working" (Pm (fun x : TD × Nat × List Int => x.1.ok ∧ x.2.1 < x.1.wd.length ∧ Row x.1.n x.2.2) (fun x => [tab K x.1, nn x.2.1, ti x.2.2]) (fun x => nn (wwk x.1.g (x.1.wd.drop x.2.1) x.2.2))) [] E0 (tVar 0) (tCons (tVar 3) (tCons (tVar 4) tNil))) (tC (.int 0))))
              (tDrop (tBM K "list" rAppend (tVar 2) (tCons (tTup (tCons (tOp (rI0 fun i j => .int (i + j)) (tVar 3) (tC (.int 1))) (tCons (tMeth (tC_ K) "working" (Pm (fun x : TD × Nat × List Int => x.1.ok ∧ x.2.1 < x.1.wd.length ∧ Row x.1.n x.2.2) (fun x => [tab K x.1, nn x.2.1, ti x.2.2]) (fun x => wo (wk x.2.2 (x.1.wd.getD x.2.1 0)))) [] E0 (tVar 0) (tCons (tVar 3) (tCons (tVar 4) tNil))) (tCons (tVar 5) tNil)))) tNil))) tNext)
              { nx := fun σ' H' => ∃ m', m' < wtE d S' + 3 ^ (d.wd.length - p + 1) ∧ LSt d tv pf ph H m' σ' H', rt := Q } [some tv, some (.ref pf), some (.ref ph), some (.int (p : Int)), some rv, some lv] H6 := by
          intro H6 S1 ys1 e6 hf6 hz6 hh6 hs6 hok6 hsz hw6 hr6 hl6 hall6
          have ht6 := (tab K d).up e6 ht
          have hy1 : ys1.length = S1.length := by rw [← rels_len hs6, List.length_map]
          refine s_when (t_is (t_I (ev_meth (d, p, r) (ev_n rfl ht6) (es_cons (ev_n (R := nn p) rfl rfl) (es1 (ev_n rfl hr6))) rfl ⟨hd, hpm, hrow⟩ (fun _ _ _ _ => rfl)) (ev_k (v := .int 0))) rfl) (fun hb7 H7 e7 => ?_) (fun hb7 H7 e7 => ?_)
          · have hpos : 0 < wwk d.g (d.wd.drop p) r := by
              have : decide ((0 : Int) < ((wwk d.g (d.wd.drop p) r : Nat) : Int)) = true := hb7
              rw [decide_eq_true_iff] at this; omega
            rw [wwk_drop hpm] at hpos
            have hdesc : desc r (d.wd.getD p 0) = true := by
              by_cases h : desc r (d.wd.getD p 0) = true
              · exact h
              · rw [if_neg h] at hpos; omega
            rw [if_pos hdesc] at hpos hall6
            have hh7 := e7 _ _ hh6
            refine ⟨.ref ph, rfl, .inl ⟨rfl, _, SqL.of hh7⟩, ?_⟩
            have hen : EvR (tTup (tCons (tOp (rI0 fun i j => .int (i + j)) (tVar 3) (tC (.int 1))) (tCons (tMeth (tC_ K) "working" (Pm (fun x : TD × Nat × List Int => x.1.ok ∧ x.2.1 < x.1.wd.length ∧ Row x.1.n x.2.2) (fun x => [tab K x.1, nn x.2.1, ti x.2.2]) (fun x => wo (wk x.2.2 (x.1.wd.getD x.2.1 0)))) [] E0 (tVar 0) (tCons (tVar 3) (tCons (tVar 4) tNil))) (tCons (tVar 5) tNil)))) [some tv, some (.ref pf), some (.ref ph), some (.int (p : Int)), some rv, some lv] H7 (rE (p + 1, exch r (d.wd.getD p 0), l)) := by
              refine ev_tup (es_cons (ev_succ (ev_n (R := nn p) rfl rfl)) (es_cons ((ev_meth (d, p, r) (ev_n rfl ((tab K d).up e7 ht6)) (es_cons (ev_n (R := nn p) rfl rfl) (es1 (ev_n rfl ((ti r).up e7 hr6)))) rfl ⟨hd, hpm, hrow⟩ (fun _ _ _ _ => rfl)).to ?_) (es1 (ev_n rfl ((ti (iv l)).up e7 hl6))))) (by show 3 ≤ 100000; decide)
              show wo (wk r (d.wd.getD p 0)) = ti _
              unfold wk
              rw [if_pos hdesc]; rfl
            refine hen H7 (Ex.refl _) _ fun nv H8 e8 hnv => ?_
            have hh8 := e8 _ _ hh7
            have et8 : ExT H8 (upd H8 ph (.lst (ys1 ++ [nv]))) := ExT.put fun xs z => by rw [hh8] at z; cases z
            refine ⟨ph, ys1, nv, rfl, rfl, hh8, sz_lt (by omega), wtE d (S1 ++ [(p + 1, exch r (d.wd.getD p 0), l)]), ?_, S1 ++ [(p + 1, exch r (d.wd.getD p 0), l)], Fs, ys1 ++ [nv], zs, _, _, _, rfl, Ex.mut ((e6.trans e7).trans e8) nphH, rfl, ?_, ?_, upd_same, ?_, ?_, ?_⟩
            · have : wtE d (S1 ++ [(p + 1, exch r (d.wd.getD p 0), l)]) = wtE d S1 + 3 ^ (d.wd.length - (p + 1) + 1) := by unfold wtE; simp
              rw [this]; omega
            · rw [upd_ne nfh]; exact e8 _ _ (e7 _ _ hf6)
            · exact Ims.up (ims_map (fun _ => im_ti) Fs) et8 (hz6.up (e7.trans e8))
            · rw [List.map_append]
              exact rels_snoc (Ims.up (ims_map im_rE S1) et8 (hs6.up (e7.trans e8))) ((im_rE _).up et8 hnv)
            · intro e he
              rcases List.mem_append.mp he with h | h
              · exact hok6 e h
              · rw [List.mem_singleton] at h
                subst h
                exact ⟨hpm, hrow.exch hdn, hpos, by show l.length ≤ p + 1; omega⟩
            · rw [List.reverse_append, List.reverse_singleton, List.singleton_append, List.flatMap_cons]
              exact hall6
          · have hz : wwk d.g (d.wd.drop p) r = 0 := by
              have : decide ((0 : Int) < ((wwk d.g (d.wd.drop p) r : Nat) : Int)) = false := hb7
              rw [decide_eq_false_iff_not] at this; omega
            rw [wwk_drop hpm] at hz
            have hnil : (if desc r (d.wd.getD p 0) = true then exE d (p + 1, exch r (d.wd.getD p 0), l) else []) = [] := by
              by_cases h : desc r (d.wd.getD p 0) = true
              · rw [if_pos h] at hz ⊢
                refine List.eq_nil_of_length_eq_zero ?_
                unfold exE
                rw [List.length_map, fac_len]; exact hz
              · rw [if_neg h]
            rw [hnil, List.nil_append] at hall6
            exact ⟨wtE d S1, by omega, S1, Fs, ys1, zs, _, _, _, rfl, e6.trans e7, rfl, e7 _ _ hf6, hz6.up e7, e7 _ _ hh6, hs6.up e7, hok6, hall6⟩
        refine q_when (t_is (t_I (ev_meth (d, p + 1, r) (ev_n rfl ht5) (es_cons (ev_succ (ev_n (R := nn p) rfl rfl)) (es1 (ev_n rfl hrv5))) rfl ⟨hd, hpm, hrow⟩ (fun _ _ _ _ => rfl)) (ev_k (v := .int 0))) rfl) (fun hb6 H6 e6 => ?_) (fun hb6 H6 e6 => ?_)
        · have hpos : 0 < ways d.g (d.wd.drop (p + 1)) r := by
            have : decide ((0 : Int) < ((ways d.g (d.wd.drop (p + 1)) r : Nat) : Int)) = true := hb6
            rw [decide_eq_true_iff] at this; omega
          have e46 := e5.trans e6
          have hh6 : H6 ph = some (.lst us) := e46 _ _ upd_same
          refine ⟨.ref ph, rfl, .inl ⟨rfl, _, SqL.of hh6⟩, ?_⟩
          have hst : EvR (tTup (StX.tStar K (tVar 5) (tCons (tVar 3) tNil))) [some tv, some (.ref pf), some (.ref ph), some (.int (p : Int)), some rv, some lv] H6 (ti (iv (l ++ [p]))) := fun H1 e Q q => by
            obtain ⟨la, e1', hla⟩ := (ti (iv l)).up (e46.trans e) hlv4
            subst e1'
            refine ⟨_, rfl, la, _, rfl, .inl (SqT.of hla), _, rfl, ?_⟩
            refine ⟨sz_of (by simp [iv]; omega), fun t ht => q _ _ (Ex.new ht) ⟨t, rfl, ?_⟩⟩
            rw [upd_same]; unfold iv; simp
          refine (ev_tup (es_cons (ev_succ (ev_n (R := nn p) rfl rfl)) (es_cons (ev_n rfl ((ti r).up e46 hrv4)) (es1 hst))) (by show 3 ≤ 100000; decide)) H6 (Ex.refl _) _ fun nv H7 e7 hnv => ?_
          have hnv : (rE (p + 1, r, l ++ [p])).h nv H7 := hnv
          have hh7 := e7 _ _ hh6
          have et7 : ExT H7 (upd H7 ph (.lst (us ++ [nv]))) := ExT.put fun xs z => by rw [hh7] at z; cases z
          refine ⟨ph, us, nv, rfl, rfl, hh7, sz_lt (by omega), ?_⟩
          refine part2 _ (S' ++ [(p + 1, r, l ++ [p])]) (us ++ [nv]) (Ex.mut ((eH4.trans e46).trans e7) nphH) ?_ ?_ upd_same ?_ ?_ ?_ ?_ ?_ ?_ ?_
          · rw [upd_ne nfh]; exact e7 _ _ (e46 _ _ hzf4)
          · exact Ims.up (ims_map (fun _ => im_ti) Fs) et7 (hzr4.up (e46.trans e7))
          · rw [List.map_append]
            exact rels_snoc (Ims.up (ims_map im_rE S') et7 (hus4.up (e46.trans e7))) ((im_rE _).up et7 hnv)
          · intro e he
            rcases List.mem_append.mp he with h | h
            · exact hD.ok e (List.mem_append_left _ h)
            · rw [List.mem_singleton] at h
              subst h
              exact ⟨hpm, hrow, hpos, by show (l ++ [p]).length ≤ p + 1; simp; omega⟩
          · rw [List.length_append]; show S'.length + 1 ≤ 520; omega
          · have : wtE d (S' ++ [(p + 1, r, l ++ [p])]) = wtE d S' + 3 ^ (d.wd.length - (p + 1) + 1) := by unfold wtE; simp
            rw [this]; exact Nat.le_refl _
          · exact im_ti.up et7 ((ti r).up (e46.trans e7) hrv4)
          · exact im_ti.up et7 ((ti (iv l)).up (e46.trans e7) hlv4)
          · rw [List.reverse_append, List.reverse_singleton, List.singleton_append, List.flatMap_cons]
            rw [← hall]
            simp
        · have hz : ways d.g (d.wd.drop (p + 1)) r = 0 := by
            have : decide ((0 : Int) < ((ways d.g (d.wd.drop (p + 1)) r : Nat) : Int)) = false := hb6
            rw [decide_eq_false_iff_not] at this; omega
          have hnil : exE d (p + 1, r, l ++ [p]) = [] := by
            refine List.eq_nil_of_length_eq_zero ?_
            unfold exE
            rw [List.length_map, fac_len]; exact hz
          rw [hnil, List.append_nil] at hall
          have e46 := e5.trans e6
          refine part2 _ S' us (eH4.trans e46) (e46 _ _ hzf4) (hzr4.up e46) (e46 _ _ upd_same) (hus4.up e46) (fun e he => hD.ok e (List.mem_append_left _ he)) (by omega) (by omega) ((ti r).up e46 hrv4) ((ti (iv l)).up e46 hlv4) hall
end Wk
set_option Elab.async false
set_option linter.all false
set_option maxRecDepth 100000
set_option maxHeartbeats 4000000
namespace Wk
open PySem PySem.Spec PyProof.Rows L2 Evl SSort
variable {P : Program} {w : World} {K : PySem.W.Frag} {mg : Str → Option Value} {base : Heap}
section
variable {σ : L2.St} {H : Hp} {D : Ends} {tu : TS} {ta : TA}
/-- for p in range(n - 1, -1, -1) -/
theorem s_forDn {n i : Nat} (h : EvRs ta σ H [ii ((n : Int) - 1), ii (-1), ii (-1)]) (hn : n ≤ 1000)
    (L : ∀ H1, Ex H H1 → ∃ Pv, Lp D σ H1 n (fun Pv k σ' H' => tu (rest D Pv k) (σ'.set i (some (.int ((n - 1 - k : Nat) : Int)))) H') Pv) : tFor (iRng3 ta) (gName i) tu D σ H :=
  h H (Ex.refl H) _ fun us H1 e1 hr => by
    obtain ⟨_, _, _, rfl, rfl, rfl, rfl⟩ := rels3 hr
    obtain ⟨Pv, L⟩ := L H1 e1
    have hc := RgC.neg (i := (n : Int) - 1) (j := -1) (by omega) (by omega) (by omega) (by omega)
    have e : ((n : Int) - 1 - -1).toNat = n := by omega
    rw [e] at hc
    refine ⟨_, _, _, n, rfl, hc, ?_⟩
    refine for_it walk_rangeC Pv L.start (fun _ _ _ _ _ => trivial) ?_ L.done
    rintro k x σ' H' H'' hk z ⟨rfl, rfl⟩
    have e : (n : Int) - 1 + (k : Int) * -1 = ((n - 1 - k : Nat) : Int) := by omega
    show tu (rest D Pv k) (σ'.set i (some (.int ((n : Int) - 1 + (k : Int) * -1)))) H''
    rw [e]
    exact L.turn k σ' H'' hk z
end
/-- true is kept -/
def nb (c : Nat) : Option V := if c = 0 then none else some (.bl true)
theorem nb_eq {a b : Nat} (h : a ≠ 0 ↔ b ≠ 0) : nb a = nb b := by
  unfold nb
  by_cases ha : a = 0
  · rw [if_pos ha, if_pos (Classical.byContradiction fun hb => (h.mpr hb) ha)]
  · rw [if_neg ha, if_neg (h.mp ha)]
theorem rowsb {n : Nat} {kvs : List (List Key × V)} {ys : List (List Int)} {b : List Int → Nat} (h : kvs.map (·.1) = ys.map rk) (hd : Dr n (fun x => nb (b x)) kvs) {y : List Int} (hy : Row n y) : y ∈ ys ↔ b y ≠ 0 := by
  have h1 : (valV kvs (rk y)).isSome = true ↔ rk y ∈ kvs.map (·.1) := valV_isSome
  rw [hd.2 y hy, h, List.mem_map] at h1
  have h1 : (nb (b y)).isSome = true ↔ ∃ a, a ∈ ys ∧ rk a = rk y := h1
  constructor
  · intro hm hz
    have := h1.mpr ⟨y, hm, rfl⟩
    unfold nb at this
    rw [if_pos hz] at this; cases this
  · intro hz
    obtain ⟨y', hm, e⟩ := h1.mp (by unfold nb; rw [if_neg hz]; rfl)
    rw [← rk_inj e]; exact hm
theorem greedy_step {g : List Int} {wd : List Nat} {F : Nat → Bool} {y : List Int} {k : Nat} (h : k < wd.length) : greedy g (wd.drop k) k F y =
    if (!F k && (desc y (wd.getD k 0) && reach g (wd.drop (k+1)) (k+1) F (exch y (wd.getD k 0)))) = true then greedy g (wd.drop (k+1)) (k+1) F (exch y (wd.getD k 0)) else k :: greedy g (wd.drop (k+1)) (k+1) F y := by
  rw [drop_pred h]; rfl
def FSt (n : Nat) (wd L : List Nat) (g : List Int) (tv lv : V) (fa pc : Addr) (H5 : Hp) (k : Nat) (σ' : L2.St) (H' : Hp) : Prop := ExD pc H5 H' ∧ ∃ ys a b c e f i, σ' = [some tv, some lv, some (.ref fa), some (.ref pc), a, b, c, e, f, i] ∧ H' pc = some (.lst ys) ∧ Rels ((List.range (k + 1)).map fun j => dr n (2 ^ j) (fun y => nb (rb g (wd.drop (wd.length - j)) (wd.length - j) (has L) y))) ys H'
theorem okT_first_above (C : Ctx K mg) : OkM P w K mg base 3 (He.fAd K dT_first_above.at_) PT_first_above (Pm (fun x : TD × List Nat => x.1.ok ∧ x.2.length ≤ 200) (fun x => [tab K x.1, ti (iv x.2)]) (fun x => ti (iv (greedy x.1.g x.1.wd 0 (has x.2) (turned x.1.n))))) := by
  have OT_working := okT_working (P := P) (w := w) (base := base) C
  have O_exchanged := ok_exchanged (P := P) (w := w) (base := base) C
  refine mkPmT C.fT_first_above scT_first_above (fun _ _ _ _ _ _ us hl => match us, hl with | [_, _], _ => rfl) (fun _ => rfl) fun cdv A outer s H vs Q E hr ⟨⟨n, wd, g⟩, L⟩ ⟨hd, hL⟩ hv hk => ?_
  obtain ⟨tv, lv, rfl, ht, hlv⟩ := rels2 hv
  have hd' := hd
  obtain ⟨n1, n5, hW, hl, hg⟩ := hd'
  have n5 : n ≤ 5 := n5
  have hW : Wd n wd := hW
  have hl : wd.length ≤ 9 := hl
  have hg : Row n g := hg
  have hL : L.length ≤ 200 := hL
  have ht : (tab K ⟨n, wd, g⟩).h tv H := ht
  refine ⟨_, (pss_cons (ps_set (i := 2) scT_first_above.nd rfl (Or.inl rfl) (pe_callTy (kcr_setT K w rfl) (by rfl) C.g_set (by decide +kernel) (pa_cons (pv 1) pa_nil)))
    (pss_cons (ps_set (i := 3) scT_first_above.nd rfl (Or.inl rfl) (pe_lst (pa_cons (pe_dispT (hu_of0 hr) (kpe_fld K (pv 0) rfl) pe_bl) pa_nil)))
    (pss_cons (ps_for PassesOwn.never rfl (pi_range3 rfl C.g_range (pa_cons (pe_op op_sub (pe_callB (kcall_len K) (by rfl) C.g_len PySem.boot_len (pa_cons (kpe_fld K (pv 0) rfl) pa_nil)) pe_int) (pa_cons (pe_un un_neg pe_int) (pa_cons (pe_un un_neg pe_int) pa_nil)))) (pg_name (i := 4) scT_first_above.nd rfl (Or.inl rfl)) (pss_cons (ps_par (i := 5) (j := 6) (by rfl) scT_first_above.nd rfl rfl (by decide) rfl rfl (pa_cons (pe_callTy (cr_dictT K P w (hu_of2 hr)) (by rfl) C.g_dict (by decide +kernel) (pa_cons (pe_ix (kix_list K) (pv 3) (pe_un un_neg pe_int) (fun _ _ => rfl)) pa_nil)) (pa_cons (pe_ix (kix_tup K) (kpe_fld K (pv 0) rfl) (pv 4) (fun _ _ => rfl)) pa_nil)) (by rfl))
    (pss_cons (ps_if (pt_cmpR (kor_snotin w) (pv 4) (pv 2) (by rfl)) (pss_one (ps_lock (ps_for PassesOwn.never rfl (pi_keys (pe_ix (kix_list K) (pv 3) (pe_un un_neg pe_int) (fun _ _ => rfl))) (pg_name (i := 7) scT_first_above.nd rfl (Or.inl rfl)) (pss_one (ps_if (pt_cmpR op_lt (pe_ix (kix_tup K) (pv 7) (pv 6) (fun _ _ => rfl)) (pe_ix (kix_tup K) (pv 7) (pe_op op_add (pv 6) pe_int) (fun _ _ => rfl)) (nomark _)) (pss_one (ps_dput (hu_of hr) (pv 5) (pcall O_exchanged (hr.mono (by decide)) (pa_cons (pv 7) (pa_cons (pv 6) pa_nil))) pe_bl rfl)) pss_nil))))) pss_nil)
    (pss_one (ps_expr (kpe_bm K PySem.F.plainAttrs_list PySem.F.slot_list_append PySem.F.type_list_append mt_append (pv 3) (pa_cons (pv 5) pa_nil)))))))
    (pss_cons (ps_expr (kpe_bm0 K PySem.F.plainAttrs_list PySem.F.slot_list_reverse PySem.F.type_list_reverse mt_reverse (pv 3)))
    (pss_cons (ps_par (i := 7) (j := 8) (by rfl) scT_first_above.nd rfl rfl (by decide) rfl rfl (pa_cons (kpe_fld K (pv 0) rfl) (pa_cons (pe_lst pa_nil) pa_nil)) (by rfl))
    (pss_cons (ps_for PassesOwn.never rfl (pi_range1 rfl C.g_range (pa_cons (pe_callB (kcall_len K) (by rfl) C.g_len PySem.boot_len (pa_cons (kpe_fld K (pv 0) rfl) pa_nil)) pa_nil)) (pg_name (i := 4) scT_first_above.nd rfl (Or.inl rfl)) (pss_cons (ps_set (i := 9) scT_first_above.nd rfl (Or.inl rfl) (pmeth OT_working (pv 0) C.cl C.m_working (hr.mono (by decide)) (pa_cons (pv 4) (pa_cons (pv 7) pa_nil))))
    (pss_one (ps_if (PW.pt (pw_and (pt_cmpR (kor_snotin w) (pv 4) (pv 2) (by rfl)) (pw_and (pt_cmpR op_notN (pv 9) pe_non (nomark _)) (pw_and1 (pt_cmp (pc_din (hu_of hr) (pv 9) (pe_ix (kix_list K) (pv 3) (pe_op op_add (pv 4) pe_int) (fun _ _ => rfl))) rfl))))) (pss_one (ps_set (i := 7) scT_first_above.nd rfl (Or.inl rfl) (pv 9))) (pss_one (ps_expr (kpe_bm K PySem.F.plainAttrs_list PySem.F.slot_list_append PySem.F.type_list_append mt_append (pv 8) (pa_cons (pv 4) pa_nil))))))))
    (pss_one (ps_ret (pe_callTy (kcall_tuple_of K) (by rfl) C.g_tuple (by decide +kernel) (pa_cons (pv 8) pa_nil)))))))))), ?_⟩
  refine q_set (ev_set (ev_n rfl hlv) (by omega)) fun fv H1 e1 hf => ?_
  refine q_set (ev_lstN (es1 (ev_dispT (n := n) (x := g) (z := .bl true) hg (fun H' e => ev_goal C (ev_n rfl ((tab K _).up (e1.trans e) ht))) fun H' _ => ev_k)) (by show 1 ≤ 100000; decide)) fun cv H2 e2 hcv => ?_
  obtain ⟨pc, ys0, rfl, npc, hpc, hys0⟩ := hcv
  have npcH := fresh_back e1 npc
  obtain ⟨fa, fc, rfl, hfa⟩ := hf
  have e02 := e1.trans e2
  have hlenW : ∀ {H' : Hp} {σ : L2.St}, σ[0]? = some (some tv) → (tab K ⟨n, wd, g⟩).h tv H' → EvR (tCB (rLn K) (tCons (tFld K (tVar 0) "word") tNil)) σ H' (nn wd.length) := fun h0 h => (ev_lenTi (ev_word C (ev_n h0 h))).to (by rw [iv_len])
  -- the rows that reach the goal, from the end
  refine q_of (s_forDn (n := wd.length) (es_cons (ev_I (g := fun i j => .int (i - j)) (hlenW rfl ((tab K _).up e02 ht)) ev_k) (es_cons ev_neg1 (es1 ev_neg1))) (by omega) fun H5 e5 => ⟨FSt n wd L g tv lv fa pc H5, ?_⟩)
  have hpc5 := e5 _ _ hpc
  have e05 := e02.trans e5
  have inE : ∀ {H'}, ExD pc H5 H' → Ex H H' := fun x => ExD.ex npcH e05 x
  have hstL : ∀ {H'}, ExD pc H5 H' → (st w L).h (.ref fa) H' := fun x => ⟨fa, fc, rfl, x _ _ (ne_of_none hfa npc) (e5 _ _ (e2 _ _ hfa))⟩
  refine ⟨⟨ExD.refl _ _, ys0, none, none, none, none, none, none, rfl, hpc5, ?_⟩, fun k σ' H' z => z.1.t fun xs q => (by rw [hpc5] at q; cases q), ?_, ?_⟩
  · match ys0, hys0 with
    | [u], ⟨hu, _⟩ =>
      refine ⟨dr_mono (m' := 1) ((dr n 1 _).up e5 hu) (Nat.le_refl _) fun y _ => ?_, trivial⟩
      show (if y = g then some (V.bl true) else none) = nb (rb g (wd.drop (wd.length - 0)) _ (has L) y)
      rw [Nat.sub_zero, List.drop_length]
      unfold rb reach
      by_cases hy : y = g
      · rw [if_pos hy, if_pos (by simpa using hy)]; rfl
      · rw [if_neg hy, if_neg (by simpa using hy)]; rfl
  · rintro k σ' H' hk' ⟨e6, ys, a0, b0, c0, e0, f0, i0, rfl, hys, hrel⟩
    have hs : wd[wd.length - 1 - k]? = some (wd.getD (wd.length - 1 - k) 0) := by rw [List.getD_eq_getElem?_getD, List.getElem?_eq_getElem (by omega)]; rfl
    obtain ⟨d, hgd⟩ : ∃ d, wd.getD (wd.length - 1 - k) 0 = d := ⟨_, rfl⟩
    rw [hgd] at hs
    have hdn : d + 1 < n := hW d (List.mem_of_getElem? hs)
    have hyl : ys.length = k + 1 := by rw [← rels_len hrel, List.length_map, List.length_range]
    obtain ⟨dbv, hdb, db, kvs, rfl, hkvs, hDr, hle⟩ := rels_at hrel (i := k) (R := dr n (2 ^ k) (fun y => nb (rb g (wd.drop (wd.length - k)) (wd.length - k) (has L) y))) (by rw [List.getElem?_map, List.getElem?_range (by omega)]; rfl)
    have hDr : Dr n (fun y => nb (rb g (wd.drop (wd.length - k)) (wd.length - k) (has L) y)) kvs := hDr
    have hlast : ∀ {H3 : Hp} {σ : L2.St}, σ[3]? = some (some (V.ref pc)) → H3 pc = some (.lst ys) → EvR (tOp (rIxL K) (tVar 3) (tUn (rU fun i => .int (-i)) (tC (.int 1)))) σ H3 (is (.ref db)) := fun h0 h => ev_o (ev_n (R := is (.ref pc)) h0 rfl) ev_neg1 fun u y H1 e hu hy Q q => ⟨pc, ys, -1, .ref db, hu, hy, SqL.of (e _ _ h), atI_last hyl hdb, q _ H1 (Ex.refl _) rfl⟩
    have ht6 := (tab K ⟨n, wd, g⟩).up (inE e6) ht
    refine (?_ : tSeq _ _ _ _ H')
    refine q_par (A := ⟨fun v H3 => ∃ hd, v = .ref hd ∧ H' hd = none ∧ H3 hd = some (.dT kvs), fun e ⟨p, h, n, k⟩ => ⟨p, h, n, e _ _ k⟩⟩) (B := nn d) (ev_cb (es1 (hlast rfl hys)) fun us H1 e hu Q q => ?_) ((ev_wd (ev_word C (ev_n rfl ht6)) (ev_n (R := nn (wd.length - 1 - k)) rfl rfl) (by show _ < wd.length; omega)).to (by show nn _ = nn d; rw [hgd])) fun hv dv H8 e8 hhv hdv => ?_
    · obtain ⟨_, rfl, rfl⟩ := rels1 hu
      exact ⟨db, kvs, rfl, e _ _ hkvs, hDr.1.hash n5, fun p hp => q _ _ (Ex.new hp) ⟨p, rfl, fresh_back e hp, upd_same⟩⟩
    have hdv : dv = .int (d : Int) := hdv
    subst hdv
    obtain ⟨hd', rfl, nhd, hhd⟩ := hhv
    obtain ⟨zs, hzs, hzr, hznd⟩ := keys_rows hDr.1
    have hzl : zs.length = kvs.length := by
      have := congrArg List.length hzs
      rw [List.length_map, List.length_map] at this
      exact this.symm
    have hdb8 := e8 _ _ hkvs
    have nhdb : hd' ≠ db := fun z => by rw [z, hkvs] at nhd; cases nhd
    have npd : hd' ≠ pc := fun z => by rw [z, hys] at nhd; cases nhd
    have nbc : db ≠ pc := fun z => by rw [z, hys] at hkvs; cases hkvs
    have hdrop : wd.drop (wd.length - (k + 1)) = d :: wd.drop (wd.length - k) := by
      rw [show wd.length - (k + 1) = wd.length - 1 - k by omega, drop_pred (wd := wd) (k := wd.length - 1 - k) (by omega), hgd, show wd.length - 1 - k + 1 = wd.length - k by omega]
    have hi1 : wd.length - k = wd.length - (k + 1) + 1 := by omega
    -- the new dict is appended
    have app : ∀ (H6 : Hp) (kh : List (List Key × V)) (e0 f0 i0 : Option V), Ex H' H6 → H6 hd' = some (.dT kh) → kh.length ≤ 2 ^ (k + 1) → Dr n (fun y => nb (rb g (wd.drop (wd.length - (k + 1))) (wd.length - (k + 1)) (has L) y)) kh →
        tBM K "list" rAppend (tVar 3) (tCons (tVar 5) tNil) [some tv, some lv, some (.ref fa), some (.ref pc), some (.int ((wd.length - 1 - k : Nat) : Int)), some (.ref hd'), some (.int (d : Int)), e0, f0, i0] H6 (fun _ H1 => FSt n wd L g tv lv fa pc H5 (k + 1) [some tv, some lv, some (.ref fa), some (.ref pc), some (.int ((wd.length - 1 - k : Nat) : Int)), some (.ref hd'), some (.int (d : Int)), e0, f0, i0] H1) := by
      intro H6 kh e0 f0 i0 eH hkh hlh hDh
      have hys6 := eH _ _ hys
      refine ⟨.ref pc, rfl, .inl ⟨rfl, _, SqL.of hys6⟩, .ref hd', rfl, pc, ys, .ref hd', rfl, rfl, hys6, sz_lt (by omega), ?_⟩
      refine ⟨(e6.trans (.of eH)).trans .put, ys ++ [.ref hd'], _, _, _, _, _, _, rfl, upd_same, ?_⟩
      rw [List.range_succ, List.map_append]
      refine rels_snoc (drs_keep hys6 ExD.put (hrel.up eH)) ⟨hd', kh, rfl, ?_, hDh, hlh⟩
      rw [upd_ne npd]; exact hkh
    have pow1 : 2 ^ k ≤ 2 ^ (k + 1) := Nat.pow_le_pow_right (by decide) (by omega)
    refine q_when (t_test (ev_notInS (w := w) (L := L) (k := wd.length - 1 - k) (ev_n rfl rfl) (ev_n rfl ((st w L).up e8 (hstL e6))))) (fun hb H9 e9 => ?_) (fun hb H9 e9 => ?_)
    · have hF : has L (wd.length - (k + 1)) = false := by
        rw [show wd.length - (k + 1) = wd.length - 1 - k by omega]
        simpa using hb
      have e89 := e8.trans e9
      refine s_keys (e9 _ _ hdb8) (fun od Q q => ⟨.ref pc, rfl, 1, rfl, pc, ys, -1, .ref db, rfl, rfl, SqL.of (by rw [upd_ne (Ne.symm nbc)]; exact e89 _ _ hys), atI_last hyl hdb, q⟩) fun od => ⟨fun i σ' H3 => H3 db = some (.frz od (.dT kvs)) ∧ (∀ b o, b ≠ db → b ≠ hd' → H9 b = some o → H3 b = some o) ∧
        ∃ kh e f i9, σ' = [some tv, some lv, some (.ref fa), some (.ref pc), some (.int ((wd.length - 1 - k : Nat) : Int)), some (.ref hd'), some (.int (d : Int)), e, f, i9] ∧ H3 hd' = some (.dT kh) ∧ Dr n (fun y => nb (hst (rb g (wd.drop (wd.length - k)) (wd.length - k) (has L)) d (zs.take i) y)) kh ∧ kh.length ≤ kvs.length + i, ?_, ?_, ?_, ?_⟩
      · refine ⟨upd_same, fun b o h1 _ h => by rw [upd_ne h1]; exact h, kvs, e0, f0, i0, rfl, by rw [upd_ne nhdb]; exact e9 _ _ hhd, ⟨hDr.1, fun y hy => ?_⟩, Nat.le_refl _⟩
        rw [hDr.2 y hy]
        show nb _ = nb (hst _ d [] y)
        rw [hst_nil]
      · rintro i σ' H3 ⟨h, _⟩; exact h
      · rintro i kk vv q σ' H3 hik ⟨hfr, hke, kh, e0, f0, i0, rfl, hkh, hDh, hlh⟩ hq rt bk
        obtain ⟨y, hy, rfl⟩ := rows_at hzs hik
        have hyR := hzr y (List.mem_of_getElem? hy)
        have hyb := (rowsb hzs hDr hyR).mp (List.mem_of_getElem? hy)
        have hiz : i < zs.length := (List.getElem?_eq_some_iff.mp hy).1
        have hynot : y ∉ zs.take i := fun hm => by
          obtain ⟨j, hj, ej⟩ := List.getElem_of_mem hm
          rw [List.length_take] at hj
          rw [List.getElem_take] at ej
          have e2 : zs[i] = y := (List.getElem?_eq_some_iff.mp hy).2
          exact List.pairwise_iff_getElem.mp (List.nodup_iff_pairwise_ne.mp hznd) j i (by omega) hiz (by omega) (ej.trans e2.symm)
        have hqt : (ti y).h (.ref q) H3 := ⟨q, rfl, by rw [← rk_kV]; exact hq⟩
        have ly : d + 1 < y.length := by rw [hyR.len]; exact hdn
        refine s_when (t_I (p := fun i j => decide (i < j)) (ev_gd (ev_n rfl hqt) (ev_n (R := nn d) rfl rfl) (by omega)) (ev_gd (ev_n rfl hqt) (ev_succ (ev_n (R := nn d) rfl rfl)) ly)) (fun hb H10 e10 => ?_) (fun hb H10 e10 => ?_)
        · have hasc : gd y d < gd y (d + 1) := of_decide_eq_true hb
          refine ⟨.ref hd', rfl, ?_⟩
          refine ev_call0 (y, d) (es_cons (ev_n rfl ((ti y).up e10 hqt)) (es1 (ev_n (R := nn d) rfl rfl))) rfl ⟨ly, by show y.length ≤ 1000; rw [hyR.len]; omega⟩ H10 (Ex.refl _) _ fun ov H11 e11 hov => ?_
          have hov : (ti (exch y d)).h ov H11 := hov
          have oR : Row n (exch y d) := hyR.exch hdn
          obtain ⟨ob, rfl, hob⟩ := hov
          have e311 := e10.trans e11
          refine ⟨hd', _, rfl, DPut.t (e311 _ _ hkh) (tup_rk hob) (sz_lt ?_), ?_⟩
          · have : 2 ^ k ≤ 512 := Nat.le_trans (Nat.pow_le_pow_right (by decide) (by omega : k ≤ 9)) (by decide)
            omega
          refine ⟨?_, fun b o h1 h2 h => ?_, putK kh (rk (exch y d)) (.bl true), _, _, _, rfl, upd_same, ⟨hDh.1.put oR, fun z hz => ?_⟩, ?_⟩
          · rw [upd_ne (Ne.symm nhdb)]; exact e311 _ _ hfr
          · rw [upd_ne h2]; exact e311 _ _ (hke b o h1 h2 h)
          · rw [valV_put, take_snoc hy]
            show _ = nb (hst _ d (zs.take i ++ [y]) z)
            rw [hst_asc hdn hz hyR hynot hasc]
            by_cases hc : z = exch y d
            · subst hc
              rw [if_pos rfl, if_pos rfl]
              unfold nb
              rw [if_neg (by omega)]
            · rw [if_neg (fun h => hc (rk_inj h)), if_neg hc]
              exact hDh.2 z hz
          · have := length_putK kh (rk (exch y d)) (.bl true)
            omega
        · have hasc : ¬ gd y d < gd y (d + 1) := of_decide_eq_false hb
          refine ⟨e10 _ _ hfr, fun b o h1 h2 h => e10 _ _ (hke b o h1 h2 h), kh, _, _, _, rfl, e10 _ _ hkh, ⟨hDh.1, fun z hz => ?_⟩, by omega⟩
          rw [hDh.2 z hz, take_snoc hy]
          show nb _ = nb (hst _ d (zs.take i ++ [y]) z)
          rw [hst_desc hdn hz hyR hasc]
      · rintro σ' H3 ⟨hfr, hke, kh, e0, f0, i0, rfl, hkh, hDh, hlh⟩
        rw [← hzl, List.take_length] at hDh
        have eH : Ex H' (upd H3 db (.dT kvs)) := fun b o h => by
          by_cases hb : b = db
          · subst hb
            rw [upd_same, ← h, hkvs]
          · rw [upd_ne hb]
            exact hke b o hb (fun z => by rw [z, nhd] at h; cases h) (e89 _ _ h)
        refine app _ kh _ _ _ eH (by rw [upd_ne nhdb]; exact hkh) (by rw [Nat.pow_succ]; omega) ⟨hDh.1, fun y hy => ?_⟩
        rw [hDh.2 y hy]
        refine nb_eq ?_
        rw [rb_pos, hdrop]
        have := hst_reach (g := g) (w := wd.drop (wd.length - k)) (i := wd.length - (k + 1)) (F := has L) (Ks := zs) hdn hy hF fun y hy => by
          rw [rowsb hzs hDr hy, rb_pos, hi1]
        rw [← hi1] at this
        exact this
    · have hF : has L (wd.length - (k + 1)) = true := by
        rw [show wd.length - (k + 1) = wd.length - 1 - k by omega]
        simpa using hb
      refine app _ kvs _ _ _ (e8.trans e9) (e9 _ _ hhd) (by omega) ⟨hDr.1, fun y hy => ?_⟩
      rw [hDr.2 y hy]
      refine nb_eq ?_
      rw [rb_pos, rb_pos, hdrop, reach_fail hF, ← hi1]
  · rintro σ' H' ⟨e6, ys, a0, b0, c0, e0, f0, i0, rfl, hys, hrel⟩
    refine (?_ : tSeq _ _ _ _ H')
    refine ⟨.ref pc, rfl, .inl ⟨rfl, _, SqL.of hys⟩, pc, ys, rfl, rfl, hys, ?_⟩
    have e7 : ExD pc H5 (upd H' pc (.lst ys.reverse)) := e6.trans .put
    have hrel7 : Rels ((List.range (wd.length + 1)).map fun k => dr n 1000 (fun y => nb (rb g (wd.drop k) k (has L) y))) ys.reverse (upd H' pc (.lst ys.reverse)) := by
      have h1 := rels_rev (drs_keep hys (ExD.put (o := .lst ys.reverse)) hrel)
      have e8 : ((List.range (wd.length + 1)).map fun j => dr n (2 ^ j) (fun y => nb (rb g (wd.drop (wd.length - j)) (wd.length - j) (has L) y))).reverse = (List.range (wd.length + 1)).map fun k => dr n (2 ^ (wd.length - k)) (fun y => nb (rb g (wd.drop k) k (has L) y)) := by
        refine List.ext_getElem (by simp) fun i h1 h2 => ?_
        rw [List.getElem_reverse, List.getElem_map, List.getElem_map, List.getElem_range, List.getElem_range]
        simp only [List.length_map, List.length_range, List.length_reverse] at h1 h2 ⊢
        rw [show wd.length + 1 - 1 - i = wd.length - i by omega]
        rw [show wd.length - (wd.length - i) = i by omega]
      rw [e8] at h1
      refine rels_imp (fun k hk v hv => dr_mono hv ?_ fun _ _ => rfl) h1
      exact Nat.le_trans (Nat.pow_le_pow_right (by decide) (by omega : wd.length - k ≤ 9)) (by decide)
    have eH := inE e7
    have hst7 := hstL e7
    have hpc7 : (upd H' pc (.lst ys.reverse)) pc = some (.lst ys.reverse) := upd_same
    generalize upd H' pc (.lst ys.reverse) = H7 at e7 hrel7 eH hst7 hpc7
    have hR7 : (ls ((List.range (wd.length + 1)).map fun k => dr n 1000 (fun y => nb (rb g (wd.drop k) k (has L) y)))).h (.ref pc) H7 := ⟨pc, _, rfl, hpc7, hrel7⟩
    refine q_of (s_parD (ev_first C (ev_n rfl ((tab K _).up eH ht))) (fun x H8 e8 hx => ev_new (el_lst ea_nil (by decide))) fun rv y H8 H9 e8 hrv e9 hy => ?_)
    obtain ⟨pf, rfl, npf, hpf⟩ := hy
    have npf7 := fresh_back e8 npf
    have npf0 := fresh_back eH npf7
    have e09 := (eH.trans e8).trans e9
    refine q_of (s_forR (n := wd.length) (es1 (hlenW rfl ((tab K _).up e09 ht))) (by omega) fun H10 e10 => ⟨fun k σ' H' => ExD pf H10 H' ∧ ∃ (p : Option V) (rv : V) (o : Option V) (y : List Int) (G : List Nat), σ' = [some tv, some lv, some (.ref fa), some (.ref pc), p, b0, c0, some rv, some (.ref pf), o] ∧ (ti y).h rv H' ∧ Row n y ∧ H' pf = some (.lst ((iv G).map V.int)) ∧ G.length ≤ k ∧ greedy g wd 0 (has L) (turned n) = G ++ greedy g (wd.drop k) k (has L) y, ?_⟩)
    have hpf10 := e10 _ _ hpf
    have e010 := e09.trans e10
    have inF : ∀ {H'}, ExD pf H10 H' → Ex H H' := fun x => ExD.ex npf0 e010 x
    have inF7 : ∀ {H'}, ExD pf H10 H' → Ex H7 H' := fun x => ExD.ex npf7 ((e8.trans e9).trans e10) x
    refine ⟨⟨ExD.refl _ _, _, rv, _, turned n, [], rfl, (ti (turned n)).up (e9.trans e10) hrv, turned_row n, hpf10, Nat.le_refl _, by rw [List.drop_zero]; rfl⟩, fun k σ' H' z => z.1.t fun xs q => (by rw [hpf10] at q; cases q), ?_, ?_⟩
    · rintro k σ' H' hk' ⟨e11, p0, rv, o0, y, G, rfl, hrv, hy, hG, hGl, hgr⟩
      rw [greedy_step hk'] at hgr
      have hs : wd[k]? = some (wd.getD k 0) := by rw [List.getD_eq_getElem?_getD, List.getElem?_eq_getElem hk']; rfl
      have hdn : wd.getD k 0 + 1 < n := hW _ (List.mem_of_getElem? hs)
      refine q_set (ev_meth (⟨n, wd, g⟩, k, y) (ev_n rfl ((tab K _).up (inF e11) ht)) (es_cons (ev_n (R := nn k) rfl rfl) (es1 (ev_n rfl hrv))) rfl ⟨hd, hk', hy⟩ (fun _ _ _ _ => rfl)) fun ov H12 e12 ho => ?_
      have ho : (wo (wk y (wd.getD k 0))).h ov H12 := ho
      have e712 := (inF7 e11).trans e12
      have hst12 := (st w L).up e712 hst7
      have hR12 := (ls _).up e712 hR7
      have hG12 := e12 _ _ hG
      -- the test
      have htest : EvT (tAnd (tTest (tOp (rSNotIn w) (tVar 4) (tVar 2))) (tAnd (tTest (tOp (fun x y H Q => y = V.non ∧ Q (V.bl !decide (x = V.non)) H) (tVar 9) (tC .non))) (tB (tDIn (tVar 9) (tOp (rIxL K) (tVar 3) (tOp (rI0 fun i j => .int (i + j)) (tVar 4) (tC (.int 1)))))))) [some tv, some lv, some (.ref fa), some (.ref pc), some (.int (k : Int)), b0, c0, some rv, some (.ref pf), some ov] H12 (!has L k && (desc y (wd.getD k 0) && reach g (wd.drop (k+1)) (k+1) (has L) (exch y (wd.getD k 0)))) := by
        refine et_and (t_test (ev_notInS (w := w) (L := L) (k := k) (ev_n rfl rfl) (ev_n rfl hst12))) fun _ => ?_
        unfold wk at ho
        by_cases hc : desc y (wd.getD k 0) = true
        · rw [if_pos hc] at ho
          have ho : (ti (exch y (wd.getD k 0))).h ov H12 := ho
          have hne : ov ≠ .non := fun z => by obtain ⟨a, h, _⟩ := ho; rw [z] at h; cases h
          rw [hc]
          refine et_and (a := true) (t_test (ev_o (ev_n (R := is ov) rfl rfl) ev_k fun x y H1 _ hx hy Q q => ⟨hy, q _ H1 (Ex.refl _) ?_⟩)) fun _ => t_B ((ev_dinR (n := n) (m := 1000) (f := fun y => nb (rb g (wd.drop (k + 1)) (k + 1) (has L) y)) (hy.exch hdn) (ev_n rfl ho) (ev_ixL (ev_n rfl hR12) (ev_succ (ev_n (R := nn k) rfl rfl)) (by rw [List.getElem?_map, List.getElem?_range (by omega)]; rfl))).to ?_)
          · have hx : x = ov := hx
            subst hx
            show V.bl (!decide (x = V.non)) = V.bl true
            rw [decide_eq_false hne]; rfl
          · congr 1
            show (nb (rb g _ _ _ _)).isSome = _
            unfold nb rb
            by_cases hr : reach g (wd.drop (k+1)) (k+1) (has L) (exch y (wd.getD k 0)) = true
            · rw [if_pos hr, if_neg (by decide), hr]; rfl
            · rw [if_neg hr, if_pos rfl]
              simp only [Bool.not_eq_true] at hr
              rw [hr]; rfl
        · rw [if_neg hc] at ho
          have ho : ov = .non := ho
          subst ho
          simp only [Bool.not_eq_true] at hc
          rw [hc, Bool.false_and]
          refine t_is (et_and (a := false) (b := false) (t_test (ev_o (ev_n (R := is .non) rfl rfl) ev_k fun x y H1 _ hx hy Q q => ⟨hy, q _ H1 (Ex.refl _) ?_⟩)) fun h => by cases h) rfl
          have hx : x = .non := hx
          subst hx; rfl
      refine s_if htest (fun hb H13 e13 => ?_) (fun hb H13 e13 => ?_)
      · have hb' := hb
        rw [Bool.and_eq_true, Bool.and_eq_true] at hb'
        unfold wk at ho
        rw [if_pos hb'.2.1] at ho
        have ho : (ti (exch y (wd.getD k 0))).h ov H12 := ho
        refine s_set (ev_n rfl ((ti _).up e13 ho)) fun v H14 e14 hv => ?_
        refine ⟨e11.trans (.of ((e12.trans e13).trans e14)), _, v, _, exch y (wd.getD k 0), G, rfl, hv, hy.exch hdn, e14 _ _ (e13 _ _ hG12), by omega, ?_⟩
        rw [hgr, if_pos hb]
      · have hG13 := e13 _ _ hG12
        refine ⟨.ref pf, rfl, .inl ⟨rfl, _, SqL.of hG13⟩, .int (k : Int), rfl, pf, _, .int (k : Int), rfl, rfl, hG13, sz_lt (by rw [List.length_map, iv_len]; omega), ?_⟩
        have et : ExT H13 (upd H13 pf (.lst ((iv G).map V.int ++ [.int (k : Int)]))) := ExT.put fun xs z => by rw [hG13] at z; cases z
        refine ⟨(e11.trans (.of (e12.trans e13))).trans .put, _, rv, _, y, G ++ [k], rfl, im_ti.up et ((ti y).up (e12.trans e13) hrv), hy, ?_, by rw [List.length_append]; show G.length + 1 ≤ k + 1; omega, ?_⟩
        · rw [upd_same]; unfold iv; simp
        · rw [hgr, if_neg (by rw [hb]; decide)]; simp
    · rintro σ' H' ⟨e11, p0, rv, o0, y, G, rfl, hrv, hy, hG, hGl, hgr⟩
      dsimp only
      have hk : ∀ v H', Ex H H' → (ti (iv (greedy g wd 0 (has L) (turned n)))).h v H' → Q v H' := hk
      rw [hgr, List.drop_length] at hk
      refine s_ret (R := ti (iv (G ++ greedy g [] wd.length (has L) y))) ?_ fun v H12 e12 hv => hk v H12 ((inF e11).trans e12) hv
      show EvR _ _ _ (ti (iv (G ++ [])))
      rw [List.append_nil]
      exact ev_cb (es1 (ev_n (R := lstV ((iv G).map V.int)) rfl ⟨pf, rfl, hG⟩)) fun us H1 e hv Q q => by
        obtain ⟨_, rfl, p', rfl, h'⟩ := rels1 hv
        exact ⟨p', _, rfl, .inl ⟨SqL.of h', fun l hl => q _ _ (Ex.new hl) ⟨l, rfl, upd_same⟩⟩⟩
end Wk
set_option Elab.async false
set_option linter.all false
set_option maxRecDepth 100000
set_option maxHeartbeats 4000000
namespace Wk
open PySem PySem.Spec PyProof.Rows L2 Evl SSort
variable {P : Program} {w : World} {K : PySem.W.Frag} {mg : Str → Option Value} {base : Heap}
section
variable {σ : L2.St} {H : Hp} {t : TA} {d : TD} {E : XK}
theorem ev_make (h : EvRs t σ H [nn d.n, ti (iv d.wd), ti d.g]) (hd : d.ok) : EvR (tMake (tC_ K) (spInit K) [] E t) σ H (tab K d) := fun H1 e Q q =>
  h H1 e _ fun vs H2 e2 hv x dx hx hdx hne => by
    obtain ⟨_, wv, gv, rfl, rfl, hw, hg⟩ := rels3 hv
    have eN : Ex H2 (upd (upd H2 dx (.own x)) x (.ins (tC_ K) dx [])) := (Ex.new hdx).trans (Ex.new (by rw [upd_ne (Ne.symm hne)]; exact hx))
    refine ⟨x, dx, d, wv, gv, by simp, hd, upd_same, (ti _).up eN hw, (ti _).up eN hg, fun H' eD ht => ⟨rfl, q _ H' (e2.trans (ExD.ex hx eN eD)) ht⟩⟩
end
theorem ok_table_of (C : Ctx K mg) : Ok P w K mg base 6 "table_of" (He.fAd K d_table_of.at_) P_table_of [] (Pm TD.ok (fun d => [nn d.n, ti (iv d.wd), ti d.g]) (fun d => tab K d)) := by
  have O_need_case := ok_need_case (P := P) (w := w) (base := base) C
  have OT_init := okT_init (P := P) (w := w) (base := base) C
  refine mkPm C.a_table_of C.f_table_of sc_table_of (fun _ _ _ _ _ _ us hl => match us, hl with | [_, _, _], _ => rfl) (fun _ => rfl) fun cdv A outer s H vs Q E hr d hd hv hk => ?_
  obtain ⟨_, wv, gv, rfl, rfl, hw, hg⟩ := rels3 hv
  have hd' := hd
  obtain ⟨n1, n5, hW, hl, hgR⟩ := hd'
  refine ⟨_, (pss_cons (ps_expr (pcall O_need_case (hr.mono (by decide)) (pa_cons (pv 0) (pa_cons (pv 1) (pa_cons (pv 2) pa_nil)))))
    (pss_one (ps_ret (pmake (C.mkr_Table) OT_init (hr.mono (by decide)) (pa_cons (pv 0) (pa_cons (pv 1) (pa_cons (pv 2) pa_nil))) C.gT)))), ?_⟩
  refine q_drop (ev_call0 (d.n, d.wd, d.g) (es_cons (ev_n (R := nn d.n) rfl rfl) (es_cons (ev_n rfl hw) (es1 (ev_n rfl hg)))) rfl ⟨hW, by show d.wd.length ≤ 40; omega, n1, by show d.n ≤ 7; omega, hgR⟩) fun H1 e1 => ?_
  exact s_ret (ev_make (es_cons (ev_n (R := nn d.n) rfl rfl) (es_cons (ev_n rfl ((ti _).up e1 hw)) (es1 (ev_n rfl ((ti _).up e1 hg))))) hd) fun v H2 e2 hv => hk v H2 (e1.trans e2) hv
theorem ways_small {d : TD} (hd : d.ok) : ways d.g d.wd (turned d.n) ≤ 512 := by
  obtain ⟨n1, n5, hW, hl, hgR⟩ := hd
  exact Nat.le_trans ways_le (Nat.le_trans (Nat.pow_le_pow_right (by decide) hl) (by decide))
theorem ok_need_few (C : Ctx K mg) : Ok P w K mg base 2 "need_few" (He.fAd K d_need_few.at_) P_need_few [.int 3000] (Pm TD.ok (fun d => [tab K d, ii 3000]) (fun _ => is .non)) := by
  have OT_total := okT_total (P := P) (w := w) (base := base) C
  obtain ⟨fd, F⟩ := C.f_need_few
  obtain ⟨ds, hds, hb⟩ := F.binds1 (ps := P_need_few) 1 0 (by show [V.int 3000] ≠ []; decide) rfl (fun T kV doc pm an cdv ct us its h1 h2 => match us, its, h1, h2 with | [_], [_], _, _ => ⟨_, rfl, rfl⟩)
  refine ⟨C.a_need_few, fd, ds, ?_, hb, hds, F.kp⟩
  refine fnPm F sc_need_few (fun _ => rfl) fun cdv A outer s H vs Q E hr d hd hv hk => ?_
  obtain ⟨tv, _, rfl, ht, rfl⟩ := rels2 hv
  refine ⟨_, (pss_one (ps_if (pt_cmpR op_gt (pmeth0 OT_total (pv 0) C.cl C.m_total (hr.mono (by decide))) (pv 1) (nomark _)) (pss_one ps_never) pss_nil)), ?_⟩
  have := ways_small hd
  refine s_skip (t_is (t_I (ev_meth d (ev_n rfl ht) es_nil rfl hd (fun _ _ _ _ => rfl)) (ev_n (R := ii 3000) rfl rfl)) ?_) fun H1 e => hk _ _ e rfl
  rw [decide_eq_false_iff_not]; omega
theorem ok_need_greatest (C : Ctx K mg) : Ok P w K mg base 5 "need_greatest" (He.fAd K d_need_greatest.at_) P_need_greatest [] (Pm (fun x : TD × List Nat => x.1.ok ∧ Lot x.1.wd.length x.2 ∧ Path x.1.g x.1.wd 0 (has x.2) (turned x.1.n)) (fun x => [tab K x.1, ti (iv x.1.wd), ti (iv x.2)]) (fun _ => ex (fun _ : Nat => True) nn)) := by
  have O_need_lot := ok_need_lot (P := P) (w := w) (base := base) C
  have OT_number := okT_number (P := P) (w := w) (base := base) C
  refine mkPm C.a_need_greatest C.f_need_greatest sc_need_greatest (fun _ _ _ _ _ _ us hl => match us, hl with | [_, _, _], _ => rfl) (fun _ => rfl) fun cdv A outer s H vs Q E hr ⟨d, L⟩ ⟨hd, hL, hp⟩ hv hk => ?_
  obtain ⟨tv, wv, lv, rfl, ht, hw, hlv⟩ := rels3 hv
  have hd' := hd
  obtain ⟨n1, n5, hW, hl, hgR⟩ := hd'
  have hl : d.wd.length ≤ 9 := hl
  have hL : Lot d.wd.length L := hL
  have hLl := hL.len
  refine ⟨_, (pss_cons (ps_expr (pcall O_need_lot (hr.mono (by decide)) (pa_cons (pv 1) (pa_cons (pv 2) pa_nil))))
    (pss_cons (ps_set (i := 3) sc_need_greatest.nd rfl (Or.inl rfl) (pmeth OT_number (pv 0) C.cl C.m_number (hr.mono (by decide)) (pa_cons (pv 2) pa_nil)))
    (pss_cons (ps_if (pt_cmpR op_isN (pv 3) pe_non (nomark _)) (pss_one ps_never) pss_nil)
    (pss_one (ps_ret (pv 3)))))), ?_⟩
  refine q_drop (ev_call0 (d.wd, L) (es_cons (ev_n rfl hw) (es1 (ev_n rfl hlv))) rfl ⟨hL, by show d.wd.length ≤ 200; omega⟩) fun H1 e1 => ?_
  refine q_set (ev_meth (d, L) (ev_n rfl ((tab K d).up e1 ht)) (es1 (ev_n rfl ((ti _).up e1 hlv))) rfl ⟨hd, by show L.length ≤ 200; omega, hp⟩ (fun _ _ _ _ => rfl)) fun nv H2 e2 hn => ?_
  obtain ⟨c, _, hn⟩ := hn
  have hn : nv = .int (c : Int) := hn
  subst hn
  refine q_skip (t_is (t_test (ev_isN (ev_n (R := nn c) rfl rfl))) (by rfl)) fun H3 e3 => ?_
  exact s_ret (ev_n (R := nn c) rfl rfl) fun v H4 e4 hv => hk v H4 (((e1.trans e2).trans e3).trans e4) ⟨c, trivial, hv⟩
theorem ok_need_harmless (C : Ctx K mg) : Ok P w K mg base 5 "need_harmless" (He.fAd K d_need_harmless.at_) P_need_harmless [] (Pm (fun x : TD × List Nat => x.1.ok ∧ Lot x.1.wd.length x.2 ∧ farB x.1.n (runF (turned x.1.n) x.1.wd 0 (has x.2)) x.1.g = true) (fun x => [nn x.1.n, ti (iv x.1.wd), ti x.1.g, ti (iv x.2)]) (fun _ => is .non)) := by
  have O_need_lot := ok_need_lot (P := P) (w := w) (base := base) C
  have O_harmless := ok_harmless (P := P) (w := w) (base := base) C
  refine mkPm C.a_need_harmless C.f_need_harmless sc_need_harmless (fun _ _ _ _ _ _ us hl => match us, hl with | [_, _, _, _], _ => rfl) (fun _ => rfl) fun cdv A outer s H vs Q E hr ⟨d, L⟩ ⟨hd, hL, hf⟩ hv hk => ?_
  obtain ⟨_, wv, gv, lv, rfl, rfl, hw, hg, hlv⟩ := rels4 hv
  have hd' := hd
  obtain ⟨n1, n5, hW, hl, hgR⟩ := hd'
  have hl : d.wd.length ≤ 9 := hl
  have n5 : d.n ≤ 5 := n5
  have hL : Lot d.wd.length L := hL
  have hLl := hL.len
  refine ⟨_, (pss_cons (ps_expr (pcall O_need_lot (hr.mono (by decide)) (pa_cons (pv 1) (pa_cons (pv 3) pa_nil))))
    (pss_one (ps_if (pt_not (pt_val (pcall O_harmless (hr.mono (by decide)) (pa_cons (pv 0) (pa_cons (pv 1) (pa_cons (pv 2) (pa_cons (pv 3) pa_nil))))))) (pss_one ps_never) pss_nil))), ?_⟩
  refine q_drop (ev_call0 (d.wd, L) (es_cons (ev_n rfl hw) (es1 (ev_n rfl hlv))) rfl ⟨hL, by show d.wd.length ≤ 200; omega⟩) fun H1 e1 => ?_
  refine s_skip (et_not (a := true) (t_B ((ev_call0 (d.n, d.wd, d.g, L) (es_cons (ev_n (R := nn d.n) rfl rfl) (es_cons (ev_n rfl ((ti _).up e1 hw)) (es_cons (ev_n rfl ((ti _).up e1 hg)) (es1 (ev_n rfl ((ti _).up e1 hlv)))))) rfl ⟨hW, by show d.n ≤ 7; omega, hgR.len, by show L.length ≤ 200; omega⟩).to ?_))) fun H2 e2 => hk _ _ (e1.trans e2) rfl
  exact congrArg bb hf
theorem ok_fixed (C : Ctx K mg) : Ok P w K mg base 7 "fixed" (He.fAd K d_fixed.at_) P_fixed [] (Pm (fun x : TD × List Nat => x.1.ok ∧ Lot x.1.wd.length x.2 ∧ Path x.1.g x.1.wd 0 (has x.2) (turned x.1.n)) (fun x => [nn x.1.n, ti (iv x.1.wd), ti x.1.g, ti (iv x.2)]) (fun x => ti (iv (rise x.1.n x.1.wd x.2)))) := by
  have O_table_of := ok_table_of (P := P) (w := w) (base := base) C
  have O_need_greatest := ok_need_greatest (P := P) (w := w) (base := base) C
  have O_rising := ok_rising (P := P) (w := w) (base := base) C
  refine mkPm C.a_fixed C.f_fixed sc_fixed (fun _ _ _ _ _ _ us hl => match us, hl with | [_, _, _, _], _ => rfl) (fun _ => rfl) fun cdv A outer s H vs Q E hr ⟨d, L⟩ ⟨hd, hL, hp⟩ hv hk => ?_
  obtain ⟨_, wv, gv, lv, rfl, rfl, hw, hg, hlv⟩ := rels4 hv
  have hd' := hd
  obtain ⟨n1, n5, hW, hl, hgR⟩ := hd'
  have hl : d.wd.length ≤ 9 := hl
  have n5 : d.n ≤ 5 := n5
  have hL : Lot d.wd.length L := hL
  have hLl := hL.len
  refine ⟨_, (pss_cons (ps_expr (pcall O_need_greatest (hr.mono (by decide)) (pa_cons (pcall O_table_of (hr.mono (by decide)) (pa_cons (pv 0) (pa_cons (pv 1) (pa_cons (pv 2) pa_nil)))) (pa_cons (pv 1) (pa_cons (pv 3) pa_nil)))))
    (pss_one (ps_ret (pcall O_rising (hr.mono (by decide)) (pa_cons (pv 0) (pa_cons (pv 1) (pa_cons (pv 3) pa_nil))))))), ?_⟩
  refine q_drop (ev_call0 (d, L) (es_cons (ev_call0 d (es_cons (ev_n (R := nn d.n) rfl rfl) (es_cons (ev_n rfl hw) (es1 (ev_n rfl hg)))) rfl hd) (es_cons (ev_n rfl hw) (es1 (ev_n rfl hlv)))) rfl ⟨hd, hL, hp⟩) fun H1 e1 => ?_
  exact s_ret (ev_call0 (d.n, d.wd, L) (es_cons (ev_n (R := nn d.n) rfl rfl) (es_cons (ev_n rfl ((ti _).up e1 hw)) (es1 (ev_n rfl ((ti _).up e1 hlv))))) rfl ⟨hW, by show d.n ≤ 7; omega, by show d.wd.length ≤ 200; omega, by show L.length ≤ 200; omega, hL.2⟩) fun v H2 e2 hv => hk v H2 (e1.trans e2) hv
theorem ok_stretch_of (C : Ctx K mg) : Ok P w K mg base 7 "stretch_of" (He.fAd K d_stretch_of.at_) P_stretch_of [] (Pm (fun x : TD × List Nat => x.1.ok ∧ Lot x.1.wd.length x.2 ∧ farB x.1.n (runF (turned x.1.n) x.1.wd 0 (has x.2)) x.1.g = true) (fun x => [nn x.1.n, ti (iv x.1.wd), ti x.1.g, ti (iv x.2)]) (fun x => ti (iv (greedy x.1.g x.1.wd 0 (has x.2) (turned x.1.n))))) := by
  have O_table_of := ok_table_of (P := P) (w := w) (base := base) C
  have O_need_harmless := ok_need_harmless (P := P) (w := w) (base := base) C
  have OT_first_above := okT_first_above (P := P) (w := w) (base := base) C
  refine mkPm C.a_stretch_of C.f_stretch_of sc_stretch_of (fun _ _ _ _ _ _ us hl => match us, hl with | [_, _, _, _], _ => rfl) (fun _ => rfl) fun cdv A outer s H vs Q E hr ⟨d, L⟩ ⟨hd, hL, hf⟩ hv hk => ?_
  obtain ⟨_, wv, gv, lv, rfl, rfl, hw, hg, hlv⟩ := rels4 hv
  have hd' := hd
  obtain ⟨n1, n5, hW, hl, hgR⟩ := hd'
  have hl : d.wd.length ≤ 9 := hl
  have hL : Lot d.wd.length L := hL
  have hLl := hL.len
  refine ⟨_, (pss_cons (ps_set (i := 4) sc_stretch_of.nd rfl (Or.inl rfl) (pcall O_table_of (hr.mono (by decide)) (pa_cons (pv 0) (pa_cons (pv 1) (pa_cons (pv 2) pa_nil)))))
    (pss_cons (ps_expr (pcall O_need_harmless (hr.mono (by decide)) (pa_cons (pv 0) (pa_cons (pv 1) (pa_cons (pv 2) (pa_cons (pv 3) pa_nil))))))
    (pss_one (ps_ret (pmeth OT_first_above (pv 4) C.cl C.m_first_above (hr.mono (by decide)) (pa_cons (pv 3) pa_nil)))))), ?_⟩
  refine q_set (ev_call0 d (es_cons (ev_n (R := nn d.n) rfl rfl) (es_cons (ev_n rfl hw) (es1 (ev_n rfl hg)))) rfl hd) fun tv H1 e1 ht => ?_
  refine q_drop (ev_call0 (d, L) (es_cons (ev_n (R := nn d.n) rfl rfl) (es_cons (ev_n rfl ((ti _).up e1 hw)) (es_cons (ev_n rfl ((ti _).up e1 hg)) (es1 (ev_n rfl ((ti _).up e1 hlv)))))) rfl ⟨hd, hL, hf⟩) fun H2 e2 => ?_
  exact s_ret (ev_meth (d, L) (ev_n rfl ((tab K d).up e2 ht)) (es1 (ev_n rfl ((ti _).up (e1.trans e2) hlv))) rfl ⟨hd, by show L.length ≤ 200; omega⟩ (fun _ _ _ _ => rfl)) fun v H3 e3 hv => hk v H3 ((e1.trans e2).trans e3) hv
theorem ok_above (C : Ctx K mg) : Ok P w K mg base 7 "above" (He.fAd K d_above.at_) P_above [] (Pm (fun x : TD × List Nat => x.1.ok ∧ Lot x.1.wd.length x.2 ∧ farB x.1.n (runF (turned x.1.n) x.1.wd 0 (has x.2)) x.1.g = true) (fun x => [nn x.1.n, ti (iv x.1.wd), ti x.1.g, ti (iv x.2)]) (fun x => tp (((fac x.1.g x.1.wd 0 (turned x.1.n)).filter fun one => x.2.all (has one)).map fun one => ti (iv one)))) := by
  have O_table_of := ok_table_of (P := P) (w := w) (base := base) C
  have O_need_harmless := ok_need_harmless (P := P) (w := w) (base := base) C
  have O_need_few := ok_need_few (P := P) (w := w) (base := base) C
  have O_is_within := ok_is_within (P := P) (w := w) (base := base) C
  have OT_lots := okT_lots (P := P) (w := w) (base := base) C
  refine mkPm C.a_above C.f_above sc_above (fun _ _ _ _ _ _ us hl => match us, hl with | [_, _, _, _], _ => rfl) (fun _ => rfl) fun cdv A outer s H vs Q E hr ⟨d, L⟩ ⟨hd, hL, hf⟩ hv hk => ?_
  obtain ⟨_, wv, gv, lv, rfl, rfl, hw, hg, hlv⟩ := rels4 hv
  have hd' := hd
  obtain ⟨n1, n5, hW, hl, hgR⟩ := hd'
  have hl : d.wd.length ≤ 9 := hl
  have hL : Lot d.wd.length L := hL
  have hLl := hL.len
  have hlv : (ti (iv L)).h lv H := hlv
  refine ⟨_, (pss_cons (ps_set (i := 4) sc_above.nd rfl (Or.inl rfl) (pcall O_table_of (hr.mono (by decide)) (pa_cons (pv 0) (pa_cons (pv 1) (pa_cons (pv 2) pa_nil)))))
    (pss_cons (ps_expr (pcall O_need_harmless (hr.mono (by decide)) (pa_cons (pv 0) (pa_cons (pv 1) (pa_cons (pv 2) (pa_cons (pv 3) pa_nil))))))
    (pss_cons (ps_expr (pcall O_need_few (hr.mono (by decide)) (pa_cons (pv 4) pa_nil)))
    (pss_one (ps_ret (pe_callTy (kcall_tuple_of K) (by rfl) C.g_tuple (by decide +kernel) (pa_cons (pe_lc (own := [("one", 5)]) (g := gName 5)  rfl sc_above.nd (kpi_list K (pmeth0 OT_lots (pv 4) C.cl C.m_lots (hr.mono (by decide)))) (blkOk_by (own := [("one", 5)]) (N := N_above) (sc := defScope s_above) (by decide +kernel)) (fun _ _ _ _ _ => pg_name (i := 5) sc_above.nd rfl (Or.inl rfl)) (fun _ _ _ _ _ => (pts_one (pt_val (pcall O_is_within (hr.mono (by decide)) (pa_cons (pv 3) (pa_cons (pv 5) pa_nil)))))) (fun _ _ _ _ _ => (pv 5))) pa_nil))))))), ?_⟩
  refine q_set (ev_call0 d (es_cons (ev_n (R := nn d.n) rfl rfl) (es_cons (ev_n rfl hw) (es1 (ev_n rfl hg)))) rfl hd) fun tv H1 e1 ht => ?_
  refine q_drop (ev_call0 (d, L) (es_cons (ev_n (R := nn d.n) rfl rfl) (es_cons (ev_n rfl ((ti _).up e1 hw)) (es_cons (ev_n rfl ((ti _).up e1 hg)) (es1 (ev_n rfl ((ti _).up e1 hlv)))))) rfl ⟨hd, hL, hf⟩) fun H2 e2 => ?_
  refine q_drop (ev_call d (es1 (ev_n rfl ((tab K d).up e2 ht))) rfl hd) fun H3 e3 => ?_
  have e13 := e2.trans e3
  have e03 := e1.trans e13
  refine s_ret (ev_tupOf (ev_lcL (fac d.g d.wd 0 (turned d.n)) (fun one => ti (iv one)) (fun one => ti (iv one)) (fun one => L.all (has one)) (ev_meth d (ev_n rfl ((tab K d).up e13 ht)) es_nil rfl hd (fun _ _ _ _ => rfl)) (fun _ => im_ti) ?_ fun one hone ov H4 e4 hov => body_n (fun _ => rfl) (t_B (ev_call0 (L, one) (es_cons (ev_n rfl ((ti _).up (e03.trans e4) hlv)) (es1 (ev_n rfl hov))) rfl (show L.length ≤ 200 by omega))) fun _ => ev_n rfl hov)) fun v H4 e4 hv => hk v H4 (e03.trans e4) hv
  have hs : ways d.g d.wd (turned d.n) ≤ 512 := ways_small hd
  rw [fac_len]; omega
end Wk
set_option Elab.async false
set_option linter.all false
set_option maxRecDepth 100000
set_option maxHeartbeats 4000000
namespace Wk
open PySem PySem.Spec PyProof.Rows L2 Evl SSort
variable {P : Program} {w : World} {K : PySem.W.Frag} {mg : Str → Option Value} {base : Heap}
section
variable {σ : L2.St} {H : Hp} {ta tb te : TE} {R : Rel}
/-- isinstance(x, (tuple, list)) -/
theorem ev_isiTL {t : Value} {b : Bool} (ha : EvR ta σ H R) (hR : ∀ v H1, R.h v H1 → TyX K H1 v t) (h : PySem.W.kitAny K t [.type "tuple", .type "list"] = some b) : EvR (tCB (rIsiT K) (tCons ta (tCons (tTup (tCons (tC (.ty "tuple")) (tCons (tC (.ty "list")) tNil))) tNil))) σ H (bb b) :=
  ev_cb (es_cons ha (es1 (ev_tup (es_cons (ev_k (v := .ty "tuple")) (es1 (ev_k (v := .ty "list")))) (by show 2 ≤ 100000; decide)))) fun vs H1 e hv => by
    obtain ⟨x, c, rfl, hx, hc⟩ := rels2 hv
    obtain ⟨tp_, cs, rfl, hcs, hr⟩ := hc
    obtain ⟨c1, c2, rfl, h1, h2⟩ := rels2 hr
    have h1 : c1 = .ty "tuple" := h1
    have h2 : c2 = .ty "list" := h2
    subst h1 h2
    exact fun Q q => ⟨x, tp_, _, t, [.type "tuple", .type "list"], b, rfl, hcs, .cons (.ty "tuple") (.cons (.ty "list") .nil), hR x H1 hx, h, q _ H1 (Ex.refl _) rfl⟩
theorem kitTL_tuple : PySem.W.kitAny K (.type "tuple") [.type "tuple", .type "list"] = some true := kitAny_cons (b := true) (kit_ty (by decide +kernel)) (fun h => by cases h) (fun _ => rfl)
theorem kitTL_int : PySem.W.kitAny K (.type "int") [.type "tuple", .type "list"] = some false := kitAny_cons (b := false) (kit_ty (by decide +kernel)) (fun _ => kitAny_cons (b := false) (kit_ty (by decide +kernel)) (fun _ => rfl) (fun h => by cases h)) (fun h => by cases h)
theorem ty_int {n : Int} {v : V} {H : Hp} (h : (ii n).h v H) : TyX K H v (.type "int") := by
  have h : v = .int n := h
  subst h; exact .base (.int n)
theorem ty_tp {Rs : List Rel} {v : V} {H : Hp} (h : (tp Rs).h v H) : TyX K H v (.type "tuple") := by
  obtain ⟨a, vs, rfl, h, _⟩ := h
  exact .base (.tup h)
theorem ev_isiTp {Rs : List Rel} {T : String} {b : Bool} (ha : EvR ta σ H (tp Rs)) (h : kitB "tuple" T = some b) : EvR (tCB (rIsi K) (tCons ta (tCons (tC (.ty T)) tNil))) σ H (bb b) := ev_isi ha (fun v H1 h => ty_tp h) (kit_ty h)
theorem ev_eqB {a b : Bool} (ha : EvR ta σ H (bb a)) (hb : EvR tb σ H (bb b)) : EvR (tOp rEq ta tb) σ H (bb (decide (a = b))) := (ev_eq ha hb rfl).to (by
  congr 1
  rw [Bool.eq_iff_iff, decide_eq_true_iff, decide_eq_true_iff]
  constructor
  · intro h; exact V.bl.inj h
  · intro h; rw [h])
theorem ev_neB {a b : Bool} (ha : EvR ta σ H (bb a)) (hb : EvR tb σ H (bb b)) : EvR (tOp rNe ta tb) σ H (bb (!decide (a = b))) := (ev_ne ha hb rfl).to (by
  congr 2
  rw [Bool.eq_iff_iff, decide_eq_true_iff, decide_eq_true_iff]
  constructor
  · intro h; exact V.bl.inj h
  · intro h; rw [h])
theorem ev_eqI {a b : Int} (ha : EvR ta σ H (ii a)) (hb : EvR tb σ H (ii b)) : EvR (tOp rEq ta tb) σ H (bb (decide (a = b))) := (ev_eq ha hb rfl).to (by
  congr 1
  rw [Bool.eq_iff_iff, decide_eq_true_iff, decide_eq_true_iff]
  constructor
  · intro h; exact V.int.inj h
  · intro h; rw [h])
end
theorem ok_alikeX (C : Ctx K mg) : Ok P w K mg base 0 "_law_alike" (He.fAd K d__law_alike.at_) P__law_alike [] (fun _ _ _ _ => False) := by
  obtain ⟨fd, F⟩ := C.f__law_alike
  exact ⟨C.a__law_alike, fd, [], ⟨fun _ _ _ _ h => h.elim, fun _ _ _ _ _ _ _ _ _ _ _ _ _ h => h.elim⟩, F.bindsN (fun _ _ _ _ _ _ us hl => match us, hl with | [_, _], _ => rfl), .nil, F.kp⟩
/-- alike, by a kind of thing -/
abbrev spAlike {α : Type} [DecidableEq α] (p : α → Prop) (T : α → Rel) : Sp := Pm (fun d : α × α => p d.1 ∧ p d.2) (fun d => [T d.1, T d.2]) (fun d => bb (decide (d.1 = d.2)))
theorem ok_alike0 (C : Ctx K mg) : Ok P w K mg base 1 "_law_alike" (He.fAd K d__law_alike.at_) P__law_alike [] (spAlike (fun _ : Int => True) ii) := by
  have O__law_alike := ok_alikeX (P := P) (w := w) (base := base) C
  refine mkPm C.a__law_alike C.f__law_alike sc__law_alike (fun _ _ _ _ _ _ us hl => match us, hl with | [_, _], _ => rfl) (fun _ => rfl) fun cdv A outer s H vs Q E hr ⟨a, b⟩ _ hv hk => ?_
  obtain ⟨_, _, rfl, rfl, rfl⟩ := rels2 hv
  refine ⟨_, (pss_cons (ps_if (pt_val (pe_callB (kcall_isiT K) (by rfl) C.g_isinstance (by decide +kernel) (pa_cons (pv 1) (pa_cons (pe_tup (pa_cons (pe_bltn (v := V.ty "tuple") (by rfl) C.g_tuple (by decide +kernel) rfl) (pa_cons (pe_bltn (v := V.ty "list") (by rfl) C.g_list (by decide +kernel) rfl) pa_nil))) pa_nil)))) pss_never pss_nil) (pss_cons (ps_if (pt_val (pe_callB (kcall_isi K) (by rfl) C.g_isinstance (by decide +kernel) (pa_cons (pv 1) (pa_cons (pe_bltn (v := V.ty "dict") (by rfl) C.g_dict (by decide +kernel) rfl) pa_nil)))) pss_never pss_nil) (pss_cons (ps_if (PW.pt (pw_or (pt_cmpR op_isN (pv 1) pe_non (nomark _)) (pw_or1 (pt_val (pe_callB (kcall_isi K) (by rfl) C.g_isinstance (by decide +kernel) (pa_cons (pv 1) (pa_cons (pe_bltn (v := V.ty "str") (by rfl) C.g_str (by decide +kernel) rfl) pa_nil))))))) pss_never pss_nil) (pss_one (ps_ret (pe_and (pe_callB (kcall_isi K) (by rfl) C.g_isinstance (by decide +kernel) (pa_cons (pv 0) (pa_cons (pe_bltn (v := V.ty "int") (by rfl) C.g_int (by decide +kernel) rfl) pa_nil))) (pe_and (pe_cmpR op_eq (pe_callB (kcall_isi K) (by rfl) C.g_isinstance (by decide +kernel) (pa_cons (pv 0) (pa_cons (pe_bltn (v := V.ty "bool") (by rfl) C.g_bool (by decide +kernel) rfl) pa_nil))) (pe_callB (kcall_isi K) (by rfl) C.g_isinstance (by decide +kernel) (pa_cons (pv 1) (pa_cons (pe_bltn (v := V.ty "bool") (by rfl) C.g_bool (by decide +kernel) rfl) pa_nil))) (nomark _)) (pe_one (pe_cmpR op_eq (pv 0) (pv 1) (nomark _)))))))))), ?_⟩
  have fa : ∀ {H'}, EvR (tVar 0) (L2.start N__law_alike [V.int a, V.int b]) H' (ii a) := fun {H'} => ev_n rfl rfl
  have fb : ∀ {H'}, EvR (tVar 1) (L2.start N__law_alike [V.int a, V.int b]) H' (ii b) := fun {H'} => ev_n rfl rfl
  refine q_skip (t_B (ev_isiTL fb (fun v H1 h => ty_int h) kitTL_int)) fun H1 e1 => ?_
  refine q_skip (t_B (ev_isiI fb (by decide +kernel))) fun H2 e2 => ?_
  refine q_skip (et_or (a := false) (b := false) (t_is (t_test (ev_isN fb)) (by rfl)) fun _ => t_B (ev_isiI fb (by decide +kernel))) fun H3 e3 => ?_
  refine s_ret ((ev_andV (a := true) (ev_isiI fa (by decide +kernel)) fun _ => ev_andV (a := true) (b := decide (a = b)) ((ev_eqB (a := false) (b := false) (ev_isiI fa (by decide +kernel)) (ev_isiI fb (by decide +kernel))).to rfl) fun _ => ev_eqI fa fb).to ?_) fun v H4 e4 hv => hk v H4 (((e1.trans e2).trans e3).trans e4) hv
  simp
theorem filt_eq {α : Type} [DecidableEq α] {a b : List α} {d : α} (h : a.length = b.length) : ((List.range b.length).filter fun k => !decide (a.getD k d = b.getD k d)).isEmpty = decide (a = b) := by
  rw [Bool.eq_iff_iff, List.isEmpty_iff, decide_eq_true_iff, List.filter_eq_nil_iff]
  constructor
  · intro hk
    refine List.ext_getElem h fun i h1 h2 => ?_
    have := hk i (List.mem_range.mpr h2)
    simp only [Bool.not_eq_true', Bool.not_eq_false', decide_eq_true_eq, Bool.not_eq_true, decide_eq_false_iff_not, Classical.not_not] at this
    rw [List.getD_eq_getElem?_getD, List.getD_eq_getElem?_getD, List.getElem?_eq_getElem h1, List.getElem?_eq_getElem h2] at this
    exact this
  · rintro rfl k _
    simp
theorem ok_alikeN {α : Type} [DecidableEq α] {p : α → Prop} {T : α → Rel} {k : Nat} (d0 : α) (C : Ctx K mg) (O__law_alike : Ok P w K mg base k "_law_alike" (He.fAd K d__law_alike.at_) P__law_alike [] (spAlike p T)) :
    Ok P w K mg base (k + 1) "_law_alike" (He.fAd K d__law_alike.at_) P__law_alike [] (spAlike (fun l : List α => l.length ≤ 1000 ∧ ∀ x ∈ l, p x) (fun l => tp (l.map T))) := by
  refine mkPm C.a__law_alike C.f__law_alike sc__law_alike (fun _ _ _ _ _ _ us hl => match us, hl with | [_, _], _ => rfl) (fun _ => rfl) fun cdv A outer s H vs Q E hr ⟨a, b⟩ ⟨⟨ha1, ha2⟩, hb1, hb2⟩ hv hk => ?_
  obtain ⟨av, bv, rfl, ha, hb⟩ := rels2 hv
  have ha : (tp (a.map T)).h av H := ha
  have hb : (tp (b.map T)).h bv H := hb
  have ha1 : a.length ≤ 1000 := ha1
  have hb1 : b.length ≤ 1000 := hb1
  have hk : ∀ v H', Ex H H' → (bb (decide (a = b))).h v H' → Q v H' := hk
  refine ⟨_, (pss_cons (ps_if (pt_val (pe_callB (kcall_isiT K) (by rfl) C.g_isinstance (by decide +kernel) (pa_cons (pv 1) (pa_cons (pe_tup (pa_cons (pe_bltn (v := V.ty "tuple") (by rfl) C.g_tuple (by decide +kernel) rfl) (pa_cons (pe_bltn (v := V.ty "list") (by rfl) C.g_list (by decide +kernel) rfl) pa_nil))) pa_nil)))) (pss_cons (ps_if (PW.pt (pw_or (pt_not (pt_val (pe_callB (kcall_isiT K) (by rfl) C.g_isinstance (by decide +kernel) (pa_cons (pv 0) (pa_cons (pe_tup (pa_cons (pe_bltn (v := V.ty "tuple") (by rfl) C.g_tuple (by decide +kernel) rfl) (pa_cons (pe_bltn (v := V.ty "list") (by rfl) C.g_list (by decide +kernel) rfl) pa_nil))) pa_nil))))) (pw_or1 (pt_cmpR op_ne (pe_callB (kcall_isi K) (by rfl) C.g_isinstance (by decide +kernel) (pa_cons (pv 0) (pa_cons (pe_bltn (v := V.ty "list") (by rfl) C.g_list (by decide +kernel) rfl) pa_nil))) (pe_callB (kcall_isi K) (by rfl) C.g_isinstance (by decide +kernel) (pa_cons (pv 1) (pa_cons (pe_bltn (v := V.ty "list") (by rfl) C.g_list (by decide +kernel) rfl) pa_nil))) (nomark _))))) (pss_one (ps_ret pe_bl)) pss_nil)
    (pss_cons (ps_if (pt_cmpR op_ne (pe_callB (kcall_len K) (by rfl) C.g_len PySem.boot_len (pa_cons (pv 0) pa_nil)) (pe_callB (kcall_len K) (by rfl) C.g_len PySem.boot_len (pa_cons (pv 1) pa_nil)) (nomark _)) (pss_one (ps_ret pe_bl)) pss_nil)
    (pss_one (ps_ret (pe_cmpR (keqD K hr.units) (pe_lc (own := [("_law_k", 2)]) (g := gName 2)  rfl sc__law_alike.nd (pi_range1 rfl C.g_range (pa_cons (pe_callB (kcall_len K) (by rfl) C.g_len PySem.boot_len (pa_cons (pv 1) pa_nil)) pa_nil)) (blkOk_by (own := [("_law_k", 2)]) (N := N__law_alike) (sc := defScope s__law_alike) (by decide +kernel)) (fun _ _ _ _ _ => pg_name (i := 2) sc__law_alike.nd rfl (Or.inl rfl)) (fun _ _ _ _ _ => (pts_one (pt_not (pt_val (pcall O__law_alike hr (pa_cons (pe_ix (kix_tup K) (pv 0) (pv 2) (fun _ _ => rfl)) (pa_cons (pe_ix (kix_tup K) (pv 1) (pv 2) (fun _ _ => rfl)) pa_nil))))))) (fun _ _ _ _ _ => (pv 2))) (pe_lst pa_nil) (nomark _)))))) pss_nil) pss_never), ?_⟩
  have fa : ∀ {H'}, Ex H H' → EvR (tVar 0) (L2.start N__law_alike [av, bv]) H' (tp (a.map T)) := fun {H'} e => ev_n rfl ((tp _).up e ha)
  have fb : ∀ {H'}, Ex H H' → EvR (tVar 1) (L2.start N__law_alike [av, bv]) H' (tp (b.map T)) := fun {H'} e => ev_n rfl ((tp _).up e hb)
  refine q_when (t_B (ev_isiTL (fb (Ex.refl _)) (fun v H1 h => ty_tp h) kitTL_tuple)) (fun _ H1 e1 => ?_) (fun h => by cases h)
  refine q_skip (et_or (a := false) (b := false) (et_not (a := true) (t_B (ev_isiTL (fa e1) (fun v H1 h => ty_tp h) kitTL_tuple))) fun _ => t_test ((ev_neB (a := false) (b := false) (ev_isiTp (fa e1) (by decide +kernel)) (ev_isiTp (fb e1) (by decide +kernel))).to rfl)) fun H2 e2 => ?_
  have e12 := e1.trans e2
  refine q_when (t_test (ev_neN (ev_lenTp (fa e12)) (ev_lenTp (fb e12)))) (fun hne H3 e3 => ?_) (fun heq H3 e3 => ?_)
  · rw [List.length_map, List.length_map] at hne
    have hab : a ≠ b := fun z => by rw [z] at hne; simp at hne
    refine s_ret (ev_k (v := .bl false)) fun v H4 e4 hv => hk v H4 ((e12.trans e3).trans e4) ?_
    rw [decide_eq_false hab]; exact hv
  · rw [List.length_map, List.length_map] at heq
    have hlen : a.length = b.length := by simpa using heq
    have e13 := e12.trans e3
    refine s_ret ((ev_eqNil (T := nn) (f := fun k : Nat => PyData.int (k : Int)) (n := 0) (ev_lcR b.length nn (fun k => !decide (a.getD k d0 = b.getD k d0)) (es1 ((ev_lenTp (fb e13)).to (by rw [List.length_map]))) (fun _ => im_nn) (by omega) fun k hk' H' e' => body_n (fun _ => rfl) (et_not (t_B (ev_call0 (a.getD k d0, b.getD k d0) (es_cons (ev_ixT (ev_n rfl ((tp _).up (e13.trans e') ha)) (ev_n (R := nn k) rfl rfl) ?_) (es1 (ev_ixT (ev_n rfl ((tp _).up (e13.trans e') hb)) (ev_n (R := nn k) rfl rfl) ?_))) rfl ⟨ha2 _ ?_, hb2 _ ?_⟩))) fun _ => ev_n (R := nn k) rfl rfl) (fun _ => dps_ii) (fun _ => flt_int) (by decide)).to (by rw [filt_eq hlen])) fun v H4 e4 hv => hk v H4 (e13.trans e4) hv
    · show (a.map T)[k]? = some (T (a.getD k d0))
      rw [List.getElem?_map, List.getD_eq_getElem?_getD, List.getElem?_eq_getElem (by omega)]; rfl
    · show (b.map T)[k]? = some (T (b.getD k d0))
      rw [List.getElem?_map, List.getD_eq_getElem?_getD, List.getElem?_eq_getElem (by omega)]; rfl
    · show a.getD k d0 ∈ a
      rw [List.getD_eq_getElem?_getD, List.getElem?_eq_getElem (by omega)]; exact List.getElem_mem _
    · show b.getD k d0 ∈ b
      rw [List.getD_eq_getElem?_getD, List.getElem?_eq_getElem (by omega)]; exact List.getElem_mem _
/-- tuples of ints; tuples of these -/
theorem ok_alike1 (C : Ctx K mg) : Ok P w K mg base 2 "_law_alike" (He.fAd K d__law_alike.at_) P__law_alike [] (spAlike (fun l : List Int => l.length ≤ 1000 ∧ ∀ x ∈ l, True) (fun l => tp (l.map ii))) := ok_alikeN 0 C (ok_alike0 C)
theorem ok_alike2 (C : Ctx K mg) : Ok P w K mg base 3 "_law_alike" (He.fAd K d__law_alike.at_) P__law_alike [] (spAlike (fun l : List (List Int) => l.length ≤ 1000 ∧ ∀ x ∈ l, x.length ≤ 1000 ∧ ∀ y ∈ x, True) (fun l => tp (l.map fun x => tp (x.map ii)))) := ok_alikeN [] C (ok_alike1 C)
end Wk
set_option Elab.async false
set_option linter.all false
set_option maxRecDepth 100000
set_option maxHeartbeats 4000000
namespace Wk
open PySem PySem.Spec PyProof.Rows L2 Evl SSort
variable {P : Program} {w : World} {K : PySem.W.Frag} {mg : Str → Option Value} {base : Heap}
theorem iv_inj {a b : List Nat} : iv a = iv b ↔ a = b := by
  unfold iv
  exact List.map_inj_right (fun a b h => by omega)
section
variable {σ : L2.St} {H : Hp} {t : TT} {ta tb : TE}
theorem _root_.Evl.EvT.imp_b {a b : Bool} (h : EvT t σ H a) (e : a = b) : EvT t σ H b := e ▸ h
theorem ev_notInL {k : Nat} {L : List Nat} (ha : EvR ta σ H (nn k)) (hb : EvR tb σ H (ls (L.map nn))) : EvR (tOp (rIn K true) ta tb) σ H (bb (!has L k)) :=
  ev_o ha hb fun x y H1 _ hx ⟨a, vs, hy, hs, hr⟩ Q q => by
    have hx : x = .int (k : Int) := hx
    subst hx
    have hv : vs = (iv L).map V.int := by
      have : L.map nn = ((iv L).map V.int).map is := by unfold iv; rw [List.map_map, List.map_map]; rfl
      rw [this] at hr
      exact rels_is.mp hr
    subst hv
    refine ⟨a, _, hy, .inl (SqL.of hs), rfl, flat_ints, q _ H1 (Ex.refl _) ?_⟩
    show V.bl (!inV _ _) = V.bl (!has L k)
    rw [inV_ints]; unfold has; congr 2; rw [decide_eq_decide]; exact mem_iv
end
def kept (L : List Nat) (p : Nat) : List Nat := L.filter fun o => !decide (o = p)
def oth (Ls : List (List Nat)) (L : List Nat) (p : Nat) : List (List Nat) := Ls.filter fun one => !decide (one = L) && ((kept L p).filter fun o => !has one o).isEmpty
def newIn (J L : List Nat) (p : Nat) : List Nat := J.filter fun o => !has (kept L p) o
def pOf (os : List (List Nat)) : Rel := match os with
  | [] => is .non
  | J :: _ => ex (fun _ : Nat => True) fun q => tp [ti (iv J), nn q]
theorem ok__law_partner (C : Ctx K mg) : Ok P w K mg base 1 "_law_partner" (He.fAd K d__law_partner.at_) P__law_partner [] (Pm (fun x : List (List Nat) × List Nat × Nat => x.1.length ≤ 1000 ∧ x.2.1.length ≤ 1000 ∧ (∀ J ∈ x.1, J.length ≤ 1000) ∧ (oth x.1 x.2.1 x.2.2).length ≤ 1 ∧ ∀ J ∈ oth x.1 x.2.1 x.2.2, newIn J x.2.1 x.2.2 ≠ []) (fun x => [ls (x.1.map fun J => ti (iv J)), ti (iv x.2.1), nn x.2.2]) (fun x => pOf (oth x.1 x.2.1 x.2.2))) := by
  refine mkPm C.a__law_partner C.f__law_partner sc__law_partner (fun _ _ _ _ _ _ us hl => match us, hl with | [_, _, _], _ => rfl) (fun _ => rfl) fun cdv A outer s H vs Q E hr ⟨Ls, L, p⟩ ⟨hls, hl, hJ, ho1, ho2⟩ hv hk => ?_
  obtain ⟨av, lv, _, rfl, ha, hlv, rfl⟩ := rels3 hv
  have ha : (ls (Ls.map fun J => ti (iv J))).h av H := ha
  have hlv : (ti (iv L)).h lv H := hlv
  have hls : Ls.length ≤ 1000 := hls
  have hl : L.length ≤ 1000 := hl
  have ho1 : (oth Ls L p).length ≤ 1 := ho1
  have ho2 : ∀ J ∈ oth Ls L p, newIn J L p ≠ [] := ho2
  have hk : ∀ v H', Ex H H' → (pOf (oth Ls L p)).h v H' → Q v H' := hk
  refine ⟨_, (pss_cons (ps_set (i := 3) sc__law_partner.nd rfl (Or.inr rfl) (pe_lc (own := [("_law_own", 4)]) (g := gName 4)  rfl sc__law_partner.nd (kpi_tup K (pv 1)) (blkOk_by (own := [("_law_own", 4)]) (N := N__law_partner) (sc := defScope s__law_partner) (by decide +kernel)) (fun _ _ _ _ _ => pg_name (i := 4) sc__law_partner.nd rfl (Or.inl rfl)) (fun _ _ _ _ _ => (pts_one (pt_cmpR op_ne (pv 4) (pv 2) (nomark _)))) (fun _ _ _ _ _ => (pv 4))))
    (pss_cons (ps_setLc (i := 5) (own := [("_law_one", 6)]) (g := gName 6)  rfl sc__law_partner.nd rfl rfl (sw_true rfl rfl rfl (by decide +kernel)) (kpi_list K (pv 0)) (blkOk_by (own := [("_law_one", 6)]) (N := N__law_partner) (sc := defScope s__law_partner) (by decide +kernel)) (fun _ _ _ _ _ => pg_name (i := 6) sc__law_partner.nd rfl (Or.inr rfl)) (fun _ _ _ _ _ => (pts_one (PW.pt (pw_and (pt_cmpR (kneD K hr.units) (pv 6) (pv 1) (nomark _)) (pw_and1 (pt_cmpR (keqD K hr.units) (pe_lc (own := [("_law_own", 4)]) (g := gName 4)  rfl sc__law_partner.nd (kpi_list K (pv 3)) (blkOk_by (own := [("_law_own", 4)]) (N := N__law_partner) (sc := (relS (lcSc (stV (stAt (defBody s__law_partner) [1]))) (defScope s__law_partner))) (by decide +kernel)) (fun _ _ _ _ _ => pg_name (i := 4) sc__law_partner.nd rfl (Or.inl rfl)) (fun _ _ _ _ _ => (pts_one (pt_cmpR (knotIn_seq K) (pv 4) (pv 6) (by rfl)))) (fun _ _ _ _ _ => (pv 4))) (pe_lst pa_nil) (nomark _))))))) (fun _ _ _ _ _ => (pv 6)))
    (pss_cons (ps_if (pt_cmpR op_ne (pe_callB (kcall_len K) (by rfl) C.g_len PySem.boot_len (pa_cons (pv 5) pa_nil)) pe_int (nomark _)) (pss_one (ps_ret (pe_ifExp (pt_cmpR (keqD K hr.units) (pv 5) (pe_lst pa_nil) (nomark _)) pe_non pe_bl))) pss_nil)
    (pss_one (ps_ret (pe_tup (pa_cons (pe_ix (kix_list K) (pv 5) pe_int (fun _ _ => rfl)) (pa_cons (pe_ix (kix_list K) (pe_lc (own := [("_law_own", 4)]) (g := gName 4)  rfl sc__law_partner.nd (kpi_tup K (pe_ix (kix_list K) (pv 5) pe_int (fun _ _ => rfl))) (blkOk_by (own := [("_law_own", 4)]) (N := N__law_partner) (sc := defScope s__law_partner) (by decide +kernel)) (fun _ _ _ _ _ => pg_name (i := 4) sc__law_partner.nd rfl (Or.inl rfl)) (fun _ _ _ _ _ => (pts_one (pt_cmpR (knotIn_seq K) (pv 4) (pv 3) (by rfl)))) (fun _ _ _ _ _ => (pv 4))) pe_int (fun _ _ => rfl)) pa_nil)))))))), ?_⟩
  refine q_set (R := ls ((kept L p).map nn)) (ev_lcT L nn nn (fun o => !decide (o = p)) (ev_tin (ev_n rfl hlv)) (fun _ => im_nn) (by omega) fun o ho ov H' e hov => body_n (fun _ => rfl) (t_test (ev_neN (ev_n rfl hov) (ev_n (R := nn p) rfl rfl))) fun _ => ev_n rfl hov) fun kv H1 e1 hkv => ?_
  have hkl : (kept L p).length ≤ 1000 := Nat.le_trans (List.length_filter_le _ _) hl
  refine q_set (R := ls ((oth Ls L p).map fun J => ti (iv J))) (ev_lcL Ls (fun J => ti (iv J)) (fun J => ti (iv J)) (fun one => !decide (one = L) && ((kept L p).filter fun o => !has one o).isEmpty) (ev_n rfl ((ls _).up e1 ha)) (fun _ => im_ti) (by omega) fun one hone ov H' e hov => body_n (fun _ => rfl) ?_ fun _ => ev_n rfl hov) fun osv H2 e2 hos => ?_
  · refine et_and ((t_test (ev_neTi (ev_n rfl hov) (ev_n rfl ((ti _).up (e1.trans e) hlv)))).imp_b ?_) fun _ => t_test ((ev_eqNil (T := nn) (f := fun k : Nat => PyData.int (k : Int)) (n := 0) (ev_lcL (kept L p) nn nn (fun o => !has one o) (ev_n rfl ((ls _).up e hkv)) (fun _ => im_nn) (by omega) fun o ho xv H'' e' hxv => body_n (fun _ => rfl) (t_test (ev_notInT (ev_n rfl hxv) (ev_n rfl ((ti _).up e' hov)))) fun _ => ev_n rfl hxv) (fun _ => dps_ii) (fun _ => flt_int) (by decide)))
    congr 1
    rw [decide_eq_decide]; exact iv_inj
  have e02 := e1.trans e2
  have hlenO : EvR (tCB (rLn K) (tCons (tVar 5) tNil)) _ H2 (nn (oth Ls L p).length) := (ev_lenL (ev_n (σ := [some av, some lv, some (V.int (p : Int)), some kv, none, some osv, none]) rfl hos)).to (by rw [List.length_map])
  cases hoth : oth Ls L p with
  | nil =>
    rw [hoth] at hos hk hlenO
    refine q_when (t_test (ev_neN hlenO (ev_k (v := .int ((1 : Nat) : Int))))) (fun _ H3 e3 => ?_) (fun h => by cases h)
    refine s_ret (ev_cond (b := true) (t_test ((ev_eqNil (T := fun J => ti (iv J)) (f := fun J => dti (iv J)) (n := 1) (l := []) (ev_n rfl ((ls _).up e3 hos)) (fun _ => dps_ti) (fun _ => flt_dti) (by decide)).to rfl)) (fun _ => ev_k (v := .non)) (fun h => by cases h)) fun v H4 e4 hv => hk v H4 ((e02.trans e3).trans e4) hv
  | cons J os =>
    rw [hoth] at ho1
    have hnil : os = [] := by
      cases os with
      | nil => rfl
      | cons a b => simp at ho1
    subst hnil
    have hnew := ho2 J (by rw [hoth]; exact List.mem_cons_self)
    have hJm : J ∈ Ls := by
      have : J ∈ oth Ls L p := by rw [hoth]; exact List.mem_cons_self
      exact (List.mem_filter.mp this).1
    have hJl := hJ J hJm
    rw [hoth] at hos hk hlenO
    refine q_when (t_test (ev_neN hlenO (ev_k (v := .int ((1 : Nat) : Int))))) (fun h => by cases h) (fun _ H3 e3 => ?_)
    have hos3 := (ls _).up e3 hos
    have hkv3 := (ls _).up (e2.trans e3) hkv
    have h0 : EvR (tOp (rIxL K) (tVar 5) (tC (.int 0))) [some av, some lv, some (V.int (p : Int)), some kv, none, some osv, none] H3 (ti (iv J)) := ev_ixL (i := 0) (ev_n rfl hos3) (ev_k (v := .int ((0 : Nat) : Int))) rfl
    obtain ⟨q, rest, hq⟩ : ∃ q rest, newIn J L p = q :: rest := by
      cases h : newIn J L p with
      | nil => exact absurd h hnew
      | cons q r => exact ⟨q, r, rfl⟩
    have hN : EvR (tLc (iTup K (tOp (rIxL K) (tVar 5) (tC (.int 0)))) (gName 4) (tTest (tOp (rIn K true) (tVar 4) (tVar 3))) (tVar 4) [4]) [some av, some lv, some (V.int (p : Int)), some kv, none, some osv, none] H3 (ls ((newIn J L p).map nn)) :=
      ev_lcT J nn nn (fun o => !has (kept L p) o) (ev_tin h0) (fun _ => im_nn) (by omega) fun o ho ov H' e hov => body_n (fun _ => rfl) (t_test (ev_notInL (ev_n rfl hov) (ev_n rfl ((ls _).up e hkv3)))) fun _ => ev_n rfl hov
    rw [hq] at hN
    refine s_ret (R := tp [ti (iv J), nn q]) (ev_tup (es_cons h0 (es1 (ev_ixL (i := 0) hN (ev_k (v := .int ((0 : Nat) : Int))) rfl))) (by show 2 ≤ 100000; decide)) fun v H4 e4 hv => hk v H4 ((e02.trans e3).trans e4) ⟨q, trivial, hv⟩
end Wk
set_option Elab.async false
set_option linter.all false
set_option maxRecDepth 100000
set_option maxHeartbeats 2000000
namespace Wk
open PySem PySem.Spec PyProof.Rows L2 Evl SSort
section
variable {K : PySem.W.Frag} {σ : L2.St} {H : Hp} {te ta tb tl : TE} {tt : TT} {R A : Rel} {vs : List Nat} {g : TG} {α : Type}
/-- over zip of a tuple and a list, item by item -/
theorem ev_lcZMa {ta : TA} (its : List α) (S1 S2 T : α → Rel) (b : α → Bool) (h : EvRs ta σ H [tp (its.map S1), ls (its.map S2)]) (im : ∀ a, Im (T a)) (hz : its.length ≤ 50000)
    (hb : ∀ a ∈ its, ∀ v H', Ex H H' → (tp [S1 a, S2 a]).h v H' → Body g tt te vs σ H' v (b a) (T a)) : EvR (tLc (iZipM K ta) g tt te vs) σ H (ls ((its.filter b).map T)) := fun H0 e Q q =>
  h H0 e _ fun us H1 e1 hr => by
    obtain ⟨_, _, rfl, ⟨p1, vs1, rfl, h1, r1⟩, ⟨p2, vs2, rfl, h2, r2⟩⟩ := rels2 hr
    have l1 := rels_len r1
    have l2 := rels_len r2
    rw [List.length_map] at l1 l2
    refine ⟨p1, p2, vs1, vs2, rfl, SqT.of h1, SqL.of h2, fun D hD => ?_⟩
    refine lc_gen (walk_zipM (K := K) (a := p1) (b := p2) (xs := vs1) (ys := vs2) (by omega)) its (by omega) (fun a => tp [S1 a, S2 a]) T b (fun H' e' => ⟨SqT.of (e' _ _ h1), SqL.of (e' _ _ h2)⟩) ?_ im (by omega) (fun a ha v H' e' hs => hb a ha v H' ((e.trans e1).trans e') hs) hD (fun v H' e' hv => q v H' (e1.trans e') hv)
    rintro i H x H' e' ⟨T', x1, y1, rfl, hT, rfl, hx, hy⟩
    refine ⟨Ex.new hT, fun a ha => ?_⟩
    obtain ⟨R1, k1, m1⟩ := rels_at' r1 hx
    obtain ⟨R2, k2, m2⟩ := rels_at' r2 hy
    rw [List.getElem?_map, ha] at k1 k2
    cases k1
    cases k2
    exact ⟨T', _, rfl, upd_same, (S1 a).up (e'.trans (Ex.new hT)) m1, (S2 a).up (e'.trans (Ex.new hT)) m2, trivial⟩
/-- over enumerate of a list -/
theorem ev_lcELa {ta : TA} (l : List α) (S : α → Rel) (T : Nat × α → Rel) (b : Nat × α → Bool) (h : EvRs ta σ H [ls (l.map S)]) (im : ∀ a, Im (T a)) (hz : l.length ≤ 50000)
    (hb : ∀ k a, l[k]? = some a → ∀ v H', Ex H H' → (tp [nn k, S a]).h v H' → Body g tt te vs σ H' v (b (k, a)) (T (k, a))) : EvR (tLc (iEnum K ta) g tt te vs) σ H (ls ((((List.range l.length).zip l).filter b).map T)) := fun H0 e Q q =>
  h H0 e _ fun us H1 e1 hr => by
    obtain ⟨_, rfl, ⟨p1, vs1, rfl, h1, r1⟩⟩ := rels1 hr
    have l1 := rels_len r1
    rw [List.length_map] at l1
    refine ⟨p1, vs1, rfl, SqL.of h1, fun D hD => ?_⟩
    have hzip : ∀ a ∈ (List.range l.length).zip l, l[a.1]? = some a.2 := fun a ha => by
      obtain ⟨i, hi⟩ := List.mem_iff_getElem?.mp ha
      rw [List.getElem?_zip_eq_some] at hi
      obtain ⟨h3, h4⟩ := hi
      have hil : i < l.length := (List.getElem?_eq_some_iff.mp h4).1
      rw [List.getElem?_range hil] at h3
      rw [← Option.some.inj h3]; exact h4
    refine lc_gen (walk_enum (K := K) (a := p1) (xs := vs1)) ((List.range l.length).zip l) (by rw [List.length_zip, List.length_range]; omega) (fun a => tp [nn a.1, S a.2]) T b (fun H' e' => SqL.of (e' _ _ h1)) ?_ im (by omega) (fun a ha x H' e' hs => hb a.1 a.2 (hzip a ha) x H' ((e.trans e1).trans e') hs) hD (fun v H' e' hv => q v H' (e1.trans e') hv)
    rintro i H x H' e' ⟨T', x1, y1, rfl, hT, rfl, hx, hy⟩
    refine ⟨Ex.new hT, fun a ha => ?_⟩
    rw [List.getElem?_zip_eq_some] at ha
    obtain ⟨R1, k1, m1⟩ := rels_at' r1 hy
    obtain ⟨h3, h4⟩ := ha
    have hil : i < l.length := (List.getElem?_eq_some_iff.mp h4).1
    rw [List.getElem?_range hil] at h3
    rw [List.getElem?_map, h4] at k1
    cases k1
    have hx : some (V.int (i : Nat)) = some x1 := hx
    cases hx
    have h3 : i = a.1 := Option.some.inj h3
    exact ⟨T', _, rfl, upd_same, by rw [h3]; rfl, (S a.2).up (e'.trans (Ex.new hT)) m1, trivial⟩
/-- l[-1] -/
theorem ev_ixLast {Rs : List Rel} (h : EvR ta σ H (ls (Rs ++ [R]))) : EvR (tOp (rIxL K) ta (tUn (rU fun i => .int (-i)) (tC (.int 1)))) σ H R :=
  ev_o h ev_neg1 fun x y H1 _ ⟨a, vs, hx, hh, hr⟩ hy Q q => by
    obtain ⟨us, v, rfl, _, hv⟩ := rels_snoc_inv hr
    exact ⟨a, _, -1, v, hx, hy, SqL.of hh, atI_last (k := us.length) (by simp) (by simp), q _ H1 (Ex.refl _) hv⟩
/-- l[:1] -/
theorem ev_slL {Rs : List Rel} {k : Nat} {th : TO} (h : EvR ta σ H (ls Rs)) (hk : EvO th σ H (some (k : Int))) : EvR (tSl (rSlL K) ta tNoPart th) σ H (ls (Rs.take k)) := fun H0 e Q q =>
  h H0 e _ fun x H1 e1 ⟨a, vs, hx, hh, hr⟩ => hk H1 (e.trans e1) _ fun H2 e2 => by
    refine ⟨a, vs, hx, SqL.of (e2 _ _ hh), fun p hp => q _ _ ((e1.trans e2).trans (Ex.new hp)) ⟨p, _, rfl, upd_same, ?_⟩⟩
    rw [cut_take (α := V)]
    exact Rels.up (e2.trans (Ex.new hp)) (rels_take hr)
where rels_take : ∀ {k : Nat} {Rs : List Rel} {vs : List V} {H : Hp}, Rels Rs vs H → Rels (Rs.take k) (vs.take k) H
  | 0, _, _, _, _ => trivial
  | _ + 1, [], [], _, _ => trivial
  | k + 1, R :: Rs, v :: vs, _, h => ⟨h.1, rels_take h.2⟩
  | _ + 1, [], _ :: _, _, h => h.elim
  | _ + 1, _ :: _, [], _, h => h.elim
end
end Wk
set_option Elab.async false
set_option linter.all false
set_option maxRecDepth 100000
set_option maxHeartbeats 8000000
namespace Wk
open PySem PySem.Spec PyProof.Rows L2 Evl SSort
variable {P : Program} {w : World} {K : PySem.W.Frag} {mg : Str → Option Value} {base : Heap}
section
variable {σ : L2.St} {H : Hp} {ta tb : TE} {R : Rel} {T : List (Addr × Str)} {a : Addr}
theorem ev_index {l : List (List Nat)} {J : List Nat} {j : Nat} (ha : EvR ta σ H (ls (l.map fun L => ti (iv L)))) (hb : EvR tb σ H (ti (iv J))) (hj : l[j]? = some J) (hn : l.Nodup) : EvR (tBM K "list" (rIndexD K) ta (tCons tb tNil)) σ H (nn j) := fun H1 e Q q =>
  ha H1 e _ fun v H2 e2 hv => by
    have hv' := hv
    obtain ⟨p, vs, rfl, hp, hr⟩ := hv'
    refine ⟨.inl ⟨rfl, _, SqL.of hp⟩, hb H2 (e.trans e2) _ fun y H3 e3 hy => ?_⟩
    have hl := dps_ls (K := K) (fun L : List Nat => dps_ti (K := K) (ns := iv L)) (l := l) _ _ ((ls _).up e3 hv)
    refine ⟨p, y, dti (iv J), l.map fun L => dti (iv L), j, dti (iv J), rfl, rfl, hl, dps_ti _ _ hy, (flt_list (fun _ => flt_dti) l).sh (by decide), flt_dti.sh (by decide), ?_, ?_, fun m z hm hz => ?_, q _ H3 (e2.trans e3) rfl⟩
    · rw [List.getElem?_map, hj]; rfl
    · rw [eqv_dti]; simp
    · rw [List.getElem?_map] at hz
      cases hlm : l[m]? with
      | none => rw [hlm] at hz; cases hz
      | some L =>
        rw [hlm] at hz
        rw [← Option.some.inj hz, eqv_dti, decide_eq_false_iff_not]
        intro h
        have h := iv_inj.mp h
        subst h
        obtain ⟨h1, e1⟩ := List.getElem?_eq_some_iff.mp hlm
        obtain ⟨h2, e2⟩ := List.getElem?_eq_some_iff.mp hj
        exact List.pairwise_iff_getElem.mp (List.nodup_iff_pairwise_ne.mp hn) m j h1 h2 hm (e1.trans e2.symm)
theorem tabs_r {H' : Hp} (r : Rw K a H) (e : ExR a H H') (t : LamX.Tabs T H) : LamX.Tabs T H' := fun p hp => by
  obtain ⟨ps, h1, h2, h3⟩ := t p hp
  obtain ⟨l, xs, i, s, c, r⟩ := r
  refine ⟨ps, e.o _ _ (fun z => by rw [z, r.at_] at h1; cases h1) h1, h2, fun pos cv hc => ?_⟩
  obtain ⟨c', e1, e2⟩ := h3 pos cv hc
  exact ⟨c', e1, e.o _ _ (fun z => by rw [z, r.at_] at e2; unfold LamX.CodeO at e2; cases e2) e2⟩
/-- all but the tables -/
theorem rw_n {H' : Hp} (r : Rw K a H) (e : LamX.ExtN H H') : Rw K a H' := by
  obtain ⟨l, xs, i, s, c, r⟩ := r
  refine ⟨l, xs, i, s, c, e _ _ r.at_ (fun ps z => by cases z), ?_, r.i0, r.s0, r.s1⟩
  rcases r.sk with ⟨n, h⟩ | h
  · refine .inl ⟨n, ?_⟩
    rcases h with h | ⟨o, h⟩
    · exact .inl (e _ _ h fun ps z => by cases z)
    · exact .inr ⟨o, e _ _ h fun ps z => by cases z⟩
  · exact .inr h
theorem ext_n {H' : Hp} (e : LamX.ExtN H H') : ExT H H' := fun b xs h => e b _ h fun ps z => by cases z
end
/-- the greatest harmless lots -/
def fcs (d : TD) : List (List Nat) := fac d.g d.wd 0 (turned d.n)
def spGreat (K : PySem.W.Frag) (T : List (Addr × Str)) : Sp := fun vs H Q _ => ∃ d : TD, d.ok ∧ Rels [nn d.n, ti (iv d.wd), ti d.g] vs H ∧ LamX.Tabs T H ∧ ∀ v H', LamX.ExtN H H' → LamX.Tabs T H' → (ls ((fcs d).map fun L => ti (iv L))).h v H' → Q v H'
def spLaw (K : PySem.W.Frag) (T : List (Addr × Str)) : Sp := fun vs H Q _ => ∃ (l : Addr) (ns : List Int), vs = [V.ref l] ∧ SqL K H l (ns.map V.int) ∧ LamX.Tabs T H ∧ ∀ H', Q (.bl true) H'
/-- what lies within -/
def below (L I : List Nat) : Bool := (L.filter fun p => !has I p).isEmpty
def fineB (d : TD) (L : List Nat) : Bool := farB d.n (runF (turned d.n) d.wd 0 (has L)) d.g
def nearP (d : TD) (L : List Nat) : List (Nat × List Nat) := ((List.range (fcs d).length).zip (fcs d)).filter fun a => below L a.2
def partP (d : TD) (L : List Nat) : List (Nat × List Nat) := (nearP d L).filter fun a => below (rise d.n d.wd a.2) L
def nearL (d : TD) (L : List Nat) : List (List Nat) := (fcs d).filter fun I => below L I
def dueB (d : TD) (I : List Nat) (k p : Nat) : Bool := match oth (fcs d) I p with
  | [] => false
  | J :: _ => decide ((fcs d).idxOf J < k)
/-- what the law rests on -/
structure Facts (d : TD) : Prop where
  lot : ∀ I ∈ fcs d, Lot d.wd.length I
  path : ∀ I ∈ fcs d, Path d.g d.wd 0 (has I) (turned d.n)
  nd : (fcs d).Nodup
  one : ∀ I ∈ fcs d, ∀ p ∈ I, (oth (fcs d) I p).length ≤ 1 ∧ ∀ J ∈ oth (fcs d) I p, newIn J I p ≠ []
  due : ∀ k I, (fcs d)[k]? = some I → rise d.n d.wd I = I.filter (dueB d I k)
  part : ∀ L, Lot d.wd.length L → fineB d L = true → nearP d L ≠ [] ∧ (partP d L).map (·.1) = ((nearP d L).map (·.1)).take 1
  first : ∀ L, Lot d.wd.length L → fineB d L = true → ∃ r, nearL d L = greedy d.g d.wd 0 (has L) (turned d.n) :: r
  abv : ∀ L, (fcs d).filter (fun one => L.all (has one)) = nearL d L
  codim : ∀ L, Lot d.wd.length L → fineB d L = true → ∀ I0 r, fcs d = I0 :: r → L.length + 1 = I0.length → (nearL d L).length = 2 ∨ ((nearL d L).length = 1 ∧ runF (turned d.n) d.wd 0 (has []) ≠ d.g)
def fineL (d : TD) : List (List Nat) := (subs d.wd.length).filter (fineB d)
theorem ne_row {a p : Addr} {H : Hp} {l : List (List Nat)} {ys : List V} (r : Rw K a H) (hp : H p = some (.lst ys)) (hr : Rels (l.map fun L => ti (iv L)) ys H) : p ≠ a := fun z => by
  obtain ⟨s, xs, i, sd, c, r⟩ := r
  have := r.at_
  rw [← z, hp] at this
  cases this
  match l, hr with
  | _ :: _ :: _, ⟨_, h, _⟩ => obtain ⟨_, h, _⟩ := h; cases h
theorem tp_deep {l : List (List Nat)} {v : V} {H : Hp} (h : (tp (l.map fun I => ti (iv I))).h v H) : (tp ((l.map iv).map fun x => tp (x.map ii))).h v H := by
  obtain ⟨a, vs, e, h, r⟩ := h
  refine ⟨a, vs, e, h, ?_⟩
  rw [List.map_map]
  exact rels_imp (fun I _ v hv => ti_tp.mp hv) r
theorem zip_at {α : Type} {l : List α} {a : Nat × α} (ha : a ∈ (List.range l.length).zip l) : l[a.1]? = some a.2 := by
  obtain ⟨i, hi⟩ := List.mem_iff_getElem?.mp ha
  rw [List.getElem?_zip_eq_some] at hi
  obtain ⟨h3, h4⟩ := hi
  have hil : i < l.length := (List.getElem?_eq_some_iff.mp h4).1
  rw [List.getElem?_range hil] at h3
  rw [← Option.some.inj h3]; exact h4
theorem ok_law (F : ∀ d : TD, d.ok → Facts d) (C : Ctx K mg) {T : List (Addr × Str)} (O__law_greatest : Ok P w K mg base 7 "_law_greatest" (He.fAd K d__law_greatest.at_) P__law_greatest [] (spGreat K T)) :
    ∃ fd, FunD K d_law.name d_law.qual d_law.params d_law.body d_law.scope (d_law.dvs K) [] (He.fAd K d_law.at_) fd ∧ FnOk P w K mg base CX0 9 (He.fAd K d_law.at_) fd P_law (spLaw K T) := by
  have O__law_case := ok__law_case (P := P) (w := w) (base := base) C
  have O__law_partner := ok__law_partner (P := P) (w := w) (base := base) C
  have O_fixed := ok_fixed (P := P) (w := w) (base := base) C
  have O__law_alike1 := ok_alike1 (P := P) (w := w) (base := base) C
  have O__law_alike2 := ok_alike2 (P := P) (w := w) (base := base) C
  have O__law_subsets := ok__law_subsets (P := P) (w := w) (base := base) C
  have O__law_fine := ok__law_fine (P := P) (w := w) (base := base) C
  have O__law_pick := ok__law_pick (P := P) (w := w) (base := base) C
  have O_stretch_of := ok_stretch_of (P := P) (w := w) (base := base) C
  have O_above := ok_above (P := P) (w := w) (base := base) C
  have O__law_end := ok__law_end (P := P) (w := w) (base := base) C
  obtain ⟨fd, FD⟩ := C.f_law
  refine ⟨fd, FD, ?_⟩
  refine FD.ok sc_law (fun vs H Q E ⟨l, ns, h, _⟩ => by rw [h]; rfl) fun cdv A outer s H vs Q E hr ⟨l, ns, h1, hsq, hT, hk⟩ => ?_
  subst h1
  refine ⟨_, PSs.nox ((pss_cons (ps_set (i := 1) sc_law.nd rfl (Or.inl rfl) (pe_lst (pa_cons (pv 0) (pa_cons pe_int (pa_cons pe_int (pa_cons pe_int pa_nil))))))
    (pss_cons (ps_asg (pcall O__law_case (hr.mono (by decide)) (pa_cons (pv 1) (pa_cons pe_int (pa_cons pe_int pa_nil)))) (kpg_tup K rfl (pgs_cons (pg_name (i := 2) sc_law.nd rfl (Or.inr rfl)) (pgs_cons (pg_name (i := 3) sc_law.nd rfl (Or.inr rfl)) (pgs_cons (pg_name (i := 4) sc_law.nd rfl (Or.inr rfl)) pgs_nil)))))
    (pss_cons (ps_set (i := 5) sc_law.nd rfl (Or.inr rfl) (pcall O__law_greatest (hr.mono (by decide)) (pa_cons (pv 2) (pa_cons (pv 3) (pa_cons (pv 4) pa_nil)))))
    (pss_cons (ps_set (i := 6) sc_law.nd rfl (Or.inr rfl) (pe_lst pa_nil))
    (pss_cons (ps_for PassesOwn.never rfl (kpi_enum K (by rfl) C.g_enumerate (pa_cons (pv 5) pa_nil)) (kpg_tup K rfl (pgs_cons (pg_name (i := 7) sc_law.nd rfl (Or.inr rfl)) (pgs_cons (pg_name (i := 8) sc_law.nd rfl (Or.inr rfl)) pgs_nil))) (pss_cons (ps_setLc (i := 9) (own := [("_law_place", 10)]) (g := gName 10) (tt := tYes) rfl sc_law.nd rfl rfl (sw_true rfl rfl rfl (by decide +kernel)) (kpi_tup K (pv 8)) (blkOk_by (own := [("_law_place", 10)]) (N := N_law) (sc := defScope s_law) (by decide +kernel)) (fun _ _ _ _ _ => pg_name (i := 10) sc_law.nd rfl (Or.inl rfl)) (fun _ _ _ _ _ => pts_nil) (fun _ _ _ _ _ => (pcall O__law_partner (hr.mono (by decide)) (pa_cons (pv 5) (pa_cons (pv 8) (pa_cons (pv 10) pa_nil))))))
    (pss_cons (ps_set (i := 11) sc_law.nd rfl (Or.inl rfl) (pe_callTy (kcall_tuple_of K) (by rfl) C.g_tuple (by decide +kernel) (pa_cons (pe_lc (own := [("_law_place", 10), ("_law_one", 12)]) (g := g2 K 10 12)  rfl sc_law.nd (kpi_zipTL K (by rfl) C.g_zip (pa_cons (pv 8) (pa_cons (pv 9) pa_nil))) (blkOk_by (own := [("_law_place", 10), ("_law_one", 12)]) (N := N_law) (sc := defScope s_law) (by decide +kernel)) (fun _ _ _ _ _ => (kpg_tup K rfl (pgs_cons (pg_name (i := 10) sc_law.nd rfl (Or.inl rfl)) (pgs_cons (pg_name (i := 12) sc_law.nd rfl (Or.inl rfl)) pgs_nil)))) (fun _ _ _ _ _ => (pts_one (PW.pt (pw_and (pt_cmpR op_notN (pv 12) pe_non (nomark _)) (pw_and1 (pt_cmpR op_lt (kpe_bm K PySem.F.plainAttrs_list PySem.F.slot_list_index PySem.F.type_list_index (kmt_indexD K (units65 hr)) (pv 5) (pa_cons (pe_ix (kix_tup K) (pv 12) pe_int (fun _ _ => rfl)) pa_nil)) (pv 7) (nomark _))))))) (fun _ _ _ _ _ => (pv 10))) pa_nil)))
    (pss_cons (ps_expr (kpe_bm K PySem.F.plainAttrs_list PySem.F.slot_list_append PySem.F.type_list_append mt_append (pv 6) (pa_cons (pcall O_fixed (hr.mono (by decide)) (pa_cons (pv 2) (pa_cons (pv 3) (pa_cons (pv 4) (pa_cons (pv 8) pa_nil))))) pa_nil)))
    (pss_one (ps_if (pt_not (pt_val (pcall O__law_alike1 (hr.mono (by decide)) (pa_cons (pe_ix (kix_list K) (pv 6) (pe_un un_neg pe_int) (fun _ _ => rfl)) (pa_cons (pv 11) pa_nil))))) (pss_one (ps_ret pe_bl)) pss_nil))))))
    (pss_cons (ps_setLc (i := 13) (own := [("_law_lot_here", 8)]) (g := gName 8)  rfl sc_law.nd rfl rfl (sw_true rfl rfl rfl (by decide +kernel)) (kpi_list K (pcall O__law_subsets (hr.mono (by decide)) (pa_cons (pe_callB (kcall_len K) (by rfl) C.g_len PySem.boot_len (pa_cons (pv 3) pa_nil)) pa_nil))) (blkOk_by (own := [("_law_lot_here", 8)]) (N := N_law) (sc := defScope s_law) (by decide +kernel)) (fun _ _ _ _ _ => pg_name (i := 8) sc_law.nd rfl (Or.inl rfl)) (fun _ _ _ _ _ => (pts_one (pt_val (pcall O__law_fine (hr.mono (by decide)) (pa_cons (pv 2) (pa_cons (pv 3) (pa_cons (pv 4) (pa_cons (pv 8) pa_nil)))))))) (fun _ _ _ _ _ => (pv 8)))
    (pss_cons (ps_for PassesOwn.never rfl (kpi_list K (pv 13)) (pg_name (i := 8) sc_law.nd rfl (Or.inr rfl)) (pss_cons (ps_setLc (i := 14) (own := [("_law_at", 7), ("_law_one", 12)]) (g := g2 K 7 12)  rfl sc_law.nd rfl rfl (sw_true rfl rfl rfl (by decide +kernel)) (kpi_enum K (by rfl) C.g_enumerate (pa_cons (pv 5) pa_nil)) (blkOk_by (own := [("_law_at", 7), ("_law_one", 12)]) (N := N_law) (sc := defScope s_law) (by decide +kernel)) (fun _ _ _ _ _ => (kpg_tup K rfl (pgs_cons (pg_name (i := 7) sc_law.nd rfl (Or.inl rfl)) (pgs_cons (pg_name (i := 12) sc_law.nd rfl (Or.inr rfl)) pgs_nil)))) (fun _ _ _ _ _ => (pts_one (pt_cmpR (keqD K hr.units) (pe_lc (own := [("_law_place", 10)]) (g := gName 10)  rfl sc_law.nd (kpi_tup K (pv 8)) (blkOk_by (own := [("_law_place", 10)]) (N := N_law) (sc := (relS (lcSc (stV (stAt (defBody s_law) [6, 0]))) (defScope s_law))) (by decide +kernel)) (fun _ _ _ _ _ => pg_name (i := 10) sc_law.nd rfl (Or.inl rfl)) (fun _ _ _ _ _ => (pts_one (pt_cmpR (knotIn_seq K) (pv 10) (pv 12) (by rfl)))) (fun _ _ _ _ _ => (pv 10))) (pe_lst pa_nil) (nomark _)))) (fun _ _ _ _ _ => (pv 7)))
    (pss_cons (ps_setLc (i := 15) (own := [("_law_at", 7)]) (g := gName 7)  rfl sc_law.nd rfl rfl (sw_true rfl rfl rfl (by decide +kernel)) (kpi_list K (pv 14)) (blkOk_by (own := [("_law_at", 7)]) (N := N_law) (sc := defScope s_law) (by decide +kernel)) (fun _ _ _ _ _ => pg_name (i := 7) sc_law.nd rfl (Or.inl rfl)) (fun _ _ _ _ _ => (pts_one (pt_cmpR (keqD K hr.units) (pe_lc (own := [("_law_place", 10)]) (g := gName 10)  rfl sc_law.nd (kpi_tup K (pe_ix (kix_list K) (pv 6) (pv 7) (fun _ _ => rfl))) (blkOk_by (own := [("_law_place", 10)]) (N := N_law) (sc := (relS (lcSc (stV (stAt (defBody s_law) [6, 1]))) (defScope s_law))) (by decide +kernel)) (fun _ _ _ _ _ => pg_name (i := 10) sc_law.nd rfl (Or.inl rfl)) (fun _ _ _ _ _ => (pts_one (pt_cmpR (knotIn_seq K) (pv 10) (pv 8) (by rfl)))) (fun _ _ _ _ _ => (pv 10))) (pe_lst pa_nil) (nomark _)))) (fun _ _ _ _ _ => (pv 7)))
    (pss_one (ps_if (PW.pt (pw_or (pt_cmpR (keqD K hr.units) (pv 14) (pe_lst pa_nil) (nomark _)) (pw_or1 (pt_cmpR (kneD K hr.units) (pv 15) (pe_slice (ksl_list K) (pv 14) po_none (po_some pe_int)) (nomark _))))) (pss_one (ps_ret pe_bl)) pss_nil)))))
    (pss_cons (ps_for PassesOwn.never rfl (pi_range1 rfl C.g_range (pa_cons pe_int pa_nil)) (pg_name (i := 16) sc_law.nd rfl (Or.inl rfl)) (pss_cons (ps_set (i := 8) sc_law.nd rfl (Or.inr rfl) (pe_ifExp (pt_cmpR (kneD K hr.units) (pv 13) (pe_lst pa_nil) (nomark _)) (pcall O__law_pick (hr.mono (by decide)) (pa_cons (pv 1) (pa_cons (pv 13) pa_nil))) pe_non))
    (pss_cons (ps_setLc (i := 14) (own := [("_law_one", 12)]) (g := gName 12)  rfl sc_law.nd rfl rfl (sw_true rfl rfl rfl (by decide +kernel)) (kpi_list K (pv 5)) (blkOk_by (own := [("_law_one", 12)]) (N := N_law) (sc := defScope s_law) (by decide +kernel)) (fun _ _ _ _ _ => pg_name (i := 12) sc_law.nd rfl (Or.inr rfl)) (fun _ _ _ _ _ => (pts_one (PW.pt (pw_and (pt_cmpR op_notN (pv 8) pe_non (nomark _)) (pw_and1 (pt_cmpR (keqD K hr.units) (pe_lc (own := [("_law_place", 10)]) (g := gName 10)  rfl sc_law.nd (kpi_tup K (pv 8)) (blkOk_by (own := [("_law_place", 10)]) (N := N_law) (sc := (relS (lcSc (stV (stAt (defBody s_law) [7, 1]))) (defScope s_law))) (by decide +kernel)) (fun _ _ _ _ _ => pg_name (i := 10) sc_law.nd rfl (Or.inl rfl)) (fun _ _ _ _ _ => (pts_one (pt_cmpR (knotIn_seq K) (pv 10) (pv 12) (by rfl)))) (fun _ _ _ _ _ => (pv 10))) (pe_lst pa_nil) (nomark _))))))) (fun _ _ _ _ _ => (pv 12)))
    (pss_cons (ps_if (PW.pt (pw_and (pt_cmpR op_notN (pv 8) pe_non (nomark _)) (pw_and1 (pt_cmpR (kneD K hr.units) (pcall O_stretch_of (hr.mono (by decide)) (pa_cons (pv 2) (pa_cons (pv 3) (pa_cons (pv 4) (pa_cons (pv 8) pa_nil))))) (pe_ix (kix_list K) (pv 14) pe_int (fun _ _ => rfl)) (nomark _))))) (pss_one (ps_ret pe_bl)) pss_nil)
    (pss_cons (ps_if (PW.pt (pw_and (pt_cmpR op_notN (pv 8) pe_non (nomark _)) (pw_and1 (pt_not (pt_val (pcall O__law_alike2 (hr.mono (by decide)) (pa_cons (pcall O_above (hr.mono (by decide)) (pa_cons (pv 2) (pa_cons (pv 3) (pa_cons (pv 4) (pa_cons (pv 8) pa_nil))))) (pa_cons (pe_callTy (kcall_tuple_of K) (by rfl) C.g_tuple (by decide +kernel) (pa_cons (pv 14) pa_nil)) pa_nil)))))))) (pss_one (ps_ret pe_bl)) pss_nil)
    (pss_one (ps_if (PW.pt (pw_and (pt_cmpR op_notN (pv 8) pe_non (nomark _)) (pw_and (pt_cmpR op_eq (pe_callB (kcall_len K) (by rfl) C.g_len PySem.boot_len (pa_cons (pv 8) pa_nil)) (pe_op op_sub (pe_callB (kcall_len K) (by rfl) C.g_len PySem.boot_len (pa_cons (pe_ix (kix_list K) (pv 5) pe_int (fun _ _ => rfl)) pa_nil)) pe_int) (nomark _)) (pw_and1 (pt_cmpR (knotIn_seq K) (pe_callB (kcall_len K) (by rfl) C.g_len PySem.boot_len (pa_cons (pv 14) pa_nil)) (pe_ifExp (pt_cmpR (keqD K hr.units) (pcall O__law_end (hr.mono (by decide)) (pa_cons (pv 3) (pa_cons (pe_tup pa_nil) (pa_cons (pv 2) pa_nil)))) (pv 4) (nomark _)) (pe_lst (pa_cons pe_int pa_nil)) (pe_lst (pa_cons pe_int (pa_cons pe_int pa_nil)))) (by rfl)))))) (pss_one (ps_ret pe_bl)) pss_nil)))))))
    (pss_one (ps_ret pe_bl))))))))))), ?_⟩
  -- the row of the draws
  refine q_asgL (el_lst (ea_cons (ev_var (v := .ref l) rfl) (ea_cons (ev_c (v := .int 0)) (ea_cons (ev_c (v := .int 7117)) (ea_cons (ev_c (v := .int 0)) ea_nil)))) (by show 4 ≤ 100000; decide)) fun a H1 ha e1 h1 => ?_
  have r1 : Rw K a H1 := by
    refine ⟨l, ns, 0, 7117, 0, h1, ?_, by decide, by decide, by decide⟩
    rcases hsq with h | h
    · refine .inl ⟨?_, ?_⟩
      · rcases h with h | ⟨o, h⟩ <;> exact ne_of_none h ha
      · rcases h with h | ⟨o, h⟩
        · exact .inl (e1 _ _ h)
        · exact .inr ⟨o, e1 _ _ h⟩
    · exact .inr h
  have hT1 := hT.ext e1
  -- the case
  refine em_call (a := a) () rfl (es_cons (ev_k (v := .int ((5 : Nat) : Int))) (es1 (ev_k (v := .int ((9 : Nat) : Int))))) trivial r1 _ fun cv H2 e2 r2 hcv => ?_
  obtain ⟨⟨n, wd, g⟩, ⟨n1, n5, hW, hl, hg⟩, hcv⟩ := hcv
  have hT2 := tabs_r r1 e2 hT1
  obtain ⟨pt, cvs, rfl, hpt, hcr⟩ := hcv
  obtain ⟨_, wv, gv, rfl, rfl, hwv, hgv⟩ := rels3 hcr
  obtain ⟨d, rfl, rfl, rfl⟩ : ∃ d : TD, d.n = n ∧ d.wd = wd ∧ d.g = g := ⟨⟨n, wd, g⟩, rfl, rfl, rfl⟩
  have n1 : 1 ≤ d.n := n1
  have n5 : d.n ≤ 5 := n5
  have hW : Wd d.n d.wd := hW
  have hl : d.wd.length ≤ 9 := hl
  have hg : Row d.n d.g := hg
  have hwv : (ti (iv d.wd)).h wv H2 := hwv
  have hgv : (ti d.g).h gv H2 := hgv
  have hd : TD.ok d := ⟨n1, n5, hW, hl, hg⟩
  have F := F d hd
  have hfl : (fcs d).length ≤ 512 := by
    unfold fcs
    rw [fac_len]; exact ways_small hd
  have hfI : ∀ I ∈ fcs d, I.length ≤ 9 := fun I hI => Nat.le_trans (F.lot I hI).len hl
  refine ⟨pt, _, rfl, SqT.of hpt, rfl, _, _, rfl, _, _, rfl, _, _, rfl, rfl, ?_⟩
  -- the greatest
  refine (?_ : tSeq _ _ _ _ H2)
  refine ⟨_, rfl, _, rfl, _, rfl, d, hd, ⟨rfl, hwv, hgv, trivial⟩, hT2, fun lv H3 e3 hT3 hlv => ?_⟩
  have r3 := rw_n r2 e3
  have hwv3 := im_ti.up (ext_n e3) hwv
  have hgv3 := im_ti.up (ext_n e3) hgv
  clear hT3 hT2 hT1 hT hsq e3 hwv hgv r2 e2 r1 hpt hcr e1 h1
  -- held
  refine q_asgL (el_lst ea_nil (by decide)) fun ph H4 hph e4 h4 => ?_
  have hlv4 := (ls _).up e4 hlv
  obtain ⟨pl, lvs, rfl, hpl, hlr⟩ := hlv4
  have npl : pl ≠ ph := by
    obtain ⟨pl', _, hpl', hpl2, _⟩ := hlv
    have : pl = pl' := V.ref.inj hpl'
    rw [this]; exact ne_of_none hpl2 hph
  have h4' : ∀ {H'}, Ex H4 H' → H' ph = some (.lst []) := fun e => e _ _ h4
  have r4 := r3.up e4
  have hwv4 := (ti _).up e4 hwv3
  have hgv4 := (ti _).up e4 hgv3
  have imL : Ims ((fcs d).map fun L => ti (iv L)) := ims_map (fun _ => im_ti) _
  have imR : ∀ k, Ims (((fcs d).take k).map fun I => ti (iv (rise d.n d.wd I))) := fun k => ims_map (fun _ => im_ti) _
  refine q_of (s_forEL (Rs := (fcs d).map fun L => ti (iv L)) (es1 (ev_n rfl ⟨pl, lvs, rfl, hpl, hlr⟩)) fun H5 p5 ys5 e5 hp5 hr5 => ⟨fun k σ' H' => ExD ph H5 H' ∧ H' p5 = some (.lst ys5) ∧ ∃ hs o7 o8 o9 o10 o11 o12, σ' = [some (V.ref l), some (V.ref a), some (V.int (d.n : Int)), some wv, some gv, some (V.ref pl), some (V.ref ph), o7, o8, o9, o10, o11, o12, none, none, none, none] ∧ H' ph = some (.lst hs) ∧ Rels (((fcs d).take k).map fun I => ti (iv (rise d.n d.wd I))) hs H', ?_, ?_⟩)
  rotate_left
  · rintro σ' H' ⟨e6, h, _⟩; exact h
  have h5 := h4' e5
  have tD : ∀ {H'}, ExD ph H5 H' → ExT H5 H' := fun e => e.t fun xs q => by rw [h5] at q; cases q
  have lotsAt : ∀ {H'}, ExD ph H5 H' → (ls ((fcs d).map fun L => ti (iv L))).h (.ref pl) H' := fun e => ⟨pl, lvs, rfl, e _ _ npl (e5 _ _ hpl), imL.up (tD e) (hlr.up e5)⟩
  have wvAt : ∀ {H'}, ExD ph H5 H' → (ti (iv d.wd)).h wv H' := fun e => im_ti.up (tD e) ((ti _).up e5 hwv4)
  have gvAt : ∀ {H'}, ExD ph H5 H' → (ti d.g).h gv H' := fun e => im_ti.up (tD e) ((ti _).up e5 hgv4)
  refine ⟨⟨ExD.refl _ _, hp5, [], none, none, none, none, none, none, rfl, h5, trivial⟩, fun k σ' H' z => tD z.1, ?_, ?_⟩
  · rintro k σ' H' hk' ⟨e6, hp6, hs, o7, o8, o9, o10, o11, o12, rfl, hph6, hrel⟩
    rw [List.length_map] at hk'
    refine ⟨hp6, fun x H7 hx e7 => ?_⟩
    obtain ⟨R, hR1, hR2⟩ := rels_at' hr5 hx
    obtain ⟨I, hI⟩ : ∃ I, (fcs d)[k]? = some I := ⟨_, List.getElem?_eq_getElem hk'⟩
    rw [List.getElem?_map, hI] at hR1
    cases hR1
    have hIm : I ∈ fcs d := List.mem_of_getElem? hI
    have hIl := hfI I hIm
    have e67 : ExD ph H5 H7 := e6.trans (.of e7)
    have np5 : p5 ≠ ph := fun z => by
      rw [z, h5] at hp5
      have : ys5 = [] := by cases hp5; rfl
      rw [this] at hx; simp at hx
    have hx7 : (ti (iv I)).h x H7 := im_ti.up (tD e67) hR2
    have imP : ∀ p, Im (pOf (oth (fcs d) I p)) := fun p => by
      unfold pOf
      cases oth (fcs d) I p with
      | nil => exact im_is
      | cons J r => exact im_ex fun q => im_tp ⟨im_ti, im_nn, trivial⟩
    -- told
    refine (?_ : tSeq _ _ _ _ H7)
    refine q_set (R := ls (I.map fun p => pOf (oth (fcs d) I p))) ((ev_lcT I nn (fun p => pOf (oth (fcs d) I p)) (fun _ => true) (ev_tin (ev_n rfl hx7)) imP (by omega) fun p hp pv H' e' hpv => body_n (fun _ => rfl) t_yes fun _ => ev_call0 (fcs d, I, p) (es_cons (ev_n rfl ((ls _).up e' (lotsAt e67))) (es_cons (ev_n rfl ((ti _).up e' hx7)) (es1 (ev_n rfl hpv)))) rfl ⟨by show (fcs d).length ≤ 1000; omega, by show I.length ≤ 1000; omega, fun J hJ => by have := hfI J hJ; omega, (F.one I hIm p hp).1, (F.one I hIm p hp).2⟩).to (by rw [filter_yes])) fun tv H8 e8 htv => ?_
    have e68 : ExD ph H5 H8 := e67.trans (.of e8)
    have hx8 := (ti _).up e8 hx7
    -- due
    refine q_set (R := ti (iv (I.filter (dueB d I k)))) (ev_tip ((ev_tupOf (ev_lcZMa I nn (fun p => pOf (oth (fcs d) I p)) nn (dueB d I k) (es_cons (ev_tin (ev_n rfl hx8)) (es1 (ev_n rfl htv))) (fun _ => im_nn) (by omega) fun p hp v H' e' hv => body_p hv (fun _ _ => rfl) (fun pv ov hpv hov => ?_) fun pv ov hpv hov _ => ev_n rfl hpv)).to (by unfold iv; rw [List.map_map]; rfl))) fun dv H9 e9 hdv => ?_
    · unfold pOf at hov
      cases hoth : oth (fcs d) I p with
      | nil =>
        rw [hoth] at hov
        have hov : ov = .non := hov
        subst hov
        have hdb : dueB d I k p = false := by unfold dueB; rw [hoth]
        rw [hdb]
        refine t_is (et_and (a := false) (b := false) (t_test (ev_o (ev_n (R := is .non) rfl rfl) ev_k fun x y H1 _ hx hy Q q => ⟨hy, q _ H1 (Ex.refl _) ?_⟩)) fun h => by cases h) rfl
        have hx : x = .non := hx
        subst hx; rfl
      | cons J r =>
        rw [hoth] at hov
        obtain ⟨q, _, hov⟩ := hov
        have hJm : J ∈ fcs d := by
          have : J ∈ oth (fcs d) I p := by rw [hoth]; exact List.mem_cons_self
          exact (List.mem_filter.mp this).1
        have hjx : (fcs d)[(fcs d).idxOf J]? = some J := by
          have h1 := List.idxOf_lt_length_of_mem hJm
          rw [List.getElem?_eq_getElem h1, List.getElem_idxOf h1]
        have hne : ov ≠ .non := fun z => by obtain ⟨_, _, h, _⟩ := hov; rw [z] at h; cases h
        have hdb : dueB d I k p = (true && decide ((fcs d).idxOf J < k)) := by unfold dueB; rw [hoth]; rfl
        rw [hdb]
        have e6' : ExD ph H5 H' := e68.trans (.of e')
        refine et_and (a := true) (t_test (ev_o (ev_n (R := is ov) rfl rfl) ev_k fun x y H1 _ hx hy Q q => ⟨hy, q _ H1 (Ex.refl _) ?_⟩)) fun _ => t_ltN (ev_index (ev_n rfl (lotsAt e6')) (ev_ixT (i := 0) (ev_n rfl hov) (ev_k (v := .int ((0 : Nat) : Int))) rfl) hjx F.nd) (ev_n (R := nn k) rfl rfl)
        have hx : x = ov := hx
        subst hx
        show V.bl (!decide (x = V.non)) = V.bl true
        rw [decide_eq_false hne]; rfl
    have e69 : ExD ph H5 H9 := e68.trans (.of e9)
    have hx9 := (ti _).up e9 hx8
    have hph9 : H9 ph = some (.lst hs) := e9 _ _ (e8 _ _ (e7 _ _ hph6))
    have hhl : hs.length = k := by
      rw [← rels_len hrel, List.length_map, List.length_take]; omega
    -- held grows
    refine (?_ : tSeq _ _ _ _ H9)
    refine ⟨.ref ph, rfl, .inl ⟨rfl, _, SqL.of hph9⟩, ?_⟩
    refine ev_call0 (d, I) (es_cons (ev_n (R := nn d.n) rfl rfl) (es_cons (ev_n rfl (wvAt e69)) (es_cons (ev_n rfl (gvAt e69)) (es1 (ev_n rfl hx9))))) rfl ⟨hd, F.lot I hIm, F.path I hIm⟩ H9 (Ex.refl _) _ fun fv H10 e10 hfv => ?_
    have hfv : (ti (iv (rise d.n d.wd I))).h fv H10 := hfv
    have hph10 := e10 _ _ hph9
    refine ⟨ph, hs, fv, rfl, rfl, hph10, sz_lt (by omega), ?_⟩
    have et : ExT H10 (upd H10 ph (.lst (hs ++ [fv]))) := ExT.put fun xs z => by rw [hph10] at z; cases z
    have e611 : ExD ph H5 (upd H10 ph (.lst (hs ++ [fv]))) := (e69.trans (.of e10)).trans .put
    have hrel11 : Rels (((fcs d).take (k + 1)).map fun I => ti (iv (rise d.n d.wd I))) (hs ++ [fv]) (upd H10 ph (.lst (hs ++ [fv]))) := by
      rw [take_snoc hI, List.map_append]
      exact rels_snoc ((imR k).up et (hrel.up (((e7.trans e8).trans e9).trans e10))) (im_ti.up et hfv)
    have hdv11 : (ti (iv (I.filter (dueB d I k)))).h dv (upd H10 ph (.lst (hs ++ [fv]))) := im_ti.up et ((ti _).up e10 hdv)
    have hp511 : (upd H10 ph (.lst (hs ++ [fv]))) p5 = some (.lst ys5) := by
      rw [upd_ne np5]; exact e10 _ _ (e9 _ _ (e8 _ _ (e7 _ _ hp6)))
    have hrl : (I.filter (dueB d I k)).length ≤ 1000 := Nat.le_trans (List.length_filter_le _ _) (by omega)
    have hdue := F.due k I hI
    refine s_skip (et_not (a := true) (t_B ((ev_call0 (iv (rise d.n d.wd I), iv (I.filter (dueB d I k))) (es_cons (ev_ti (ev_ixLast (Rs := ((fcs d).take k).map fun I => ti (iv (rise d.n d.wd I))) (ev_n rfl ⟨ph, hs ++ [fv], rfl, upd_same, by rw [take_snoc hI, List.map_append] at hrel11; exact hrel11⟩))) (es1 (ev_ti (ev_n rfl hdv11)))) rfl ⟨⟨by show (iv _).length ≤ 1000; rw [iv_len, hdue]; exact hrl, fun _ _ => trivial⟩, by show (iv _).length ≤ 1000; rw [iv_len]; exact hrl, fun _ _ => trivial⟩).to ?_))) fun H12 e12 => ?_
    · show bb (decide (iv _ = iv _)) = bb true
      rw [hdue]; simp
    · exact ⟨e611.trans (.of e12), e12 _ _ hp511, hs ++ [fv], _, _, _, _, _, _, rfl, e12 _ _ upd_same, hrel11.up e12⟩
  · rintro σ' H6 ⟨e6, hp6, hs, o7, o8, o9, o10, o11, o12, rfl, hph6, hrel⟩
    rw [List.length_map, List.take_length] at hrel
    dsimp only
    have e36 : Ex H3 H6 := ExD.ex hph (e4.trans e5) e6
    have r6 : Rw K a H6 := r3.up e36
    have lots6 := lotsAt e6
    have wv6 := wvAt e6
    have gv6 := gvAt e6
    have held6 : (ls ((fcs d).map fun I => ti (iv (rise d.n d.wd I)))).h (.ref ph) H6 := ⟨ph, hs, rfl, hph6, hrel⟩
    clear hrel hph6 tD lotsAt wvAt gvAt h4' hlr hlv hpl r4 hwv4 hgv4 h5 e6 hp6 hr5 hp5
    -- the harmless lots
    refine q_set (R := ls ((fineL d).map fun L => ti (iv L))) (ev_lcL (subs d.wd.length) (fun L => ti (iv L)) (fun L => ti (iv L)) (fineB d) (ev_call0 d.wd.length (es1 ((ev_lenTi (ev_n rfl wv6)).to (by rw [iv_len]))) rfl hl) (fun _ => im_ti) ?_ fun L hL xv H' e hxv => body_n (fun _ => rfl) (t_B (ev_call0 (d.n, d.wd, d.g, L) (es_cons (ev_n (R := nn d.n) rfl rfl) (es_cons (ev_n rfl ((ti _).up e wv6)) (es_cons (ev_n rfl ((ti _).up e gv6)) (es1 (ev_n rfl hxv))))) rfl ⟨hW, by show d.n ≤ 7; omega, hg.len⟩)) fun _ => ev_n rfl hxv) fun fv H7 e7 hfv => ?_
    · rw [subs_len]
      exact Nat.le_trans (Nat.pow_le_pow_right (by decide) hl) (by decide)
    have hfl2 : (fineL d).length ≤ 512 := Nat.le_trans (List.length_filter_le _ _) (by rw [subs_len]; exact Nat.le_trans (Nat.pow_le_pow_right (by decide) hl) (by decide))
    have hfm : ∀ L ∈ fineL d, Lot d.wd.length L ∧ fineB d L = true := fun L hL => ⟨subs_lot.mp (List.mem_filter.mp hL).1, (List.mem_filter.mp hL).2⟩
    have lots7 := (ls _).up e7 lots6
    have held7 := (ls _).up e7 held6
    have wv7 := (ti _).up e7 wv6
    have gv7 := (ti _).up e7 gv6
    have r7 := r6.up e7
    clear lots6 held6 wv6 gv6 r6 e7
    -- each harmless lot lies in one stretch
    refine q_of (s_forLs (Rs := (fineL d).map fun L => ti (iv L)) (ev_n rfl hfv) fun H8 p8 ys8 e8 hp8 hr8 => ⟨fun k σ' H' => Ex H8 H' ∧ ∃ o7 o8 o9 o10 o11 o12 o14 o15, σ' = [some (V.ref l), some (V.ref a), some (V.int (d.n : Int)), some wv, some gv, some (V.ref pl), some (V.ref ph), o7, o8, o9, o10, o11, o12, some fv, o14, o15, none], ?_, ?_⟩)
    rotate_left
    · rintro σ' H' ⟨e9, _⟩; exact e9 _ _ hp8
    refine ⟨⟨Ex.refl _, o7, o8, o9, o10, o11, o12, none, none, rfl⟩, fun k σ' H' z => Ex.t z.1, ?_, ?_⟩
    · rintro k σ' H' hk' ⟨e9, o7, o8, o9, o10, o11, o12, o14, o15, rfl⟩
      refine ⟨e9 _ _ hp8, fun x hx => ?_⟩
      obtain ⟨R, hR1, hR2⟩ := rels_at' hr8 hx
      rw [List.length_map] at hk'
      obtain ⟨L, hL⟩ : ∃ L, (fineL d)[k]? = some L := ⟨_, List.getElem?_eq_getElem hk'⟩
      rw [List.getElem?_map, hL] at hR1
      cases hR1
      obtain ⟨hLot, hLf⟩ := hfm L (List.mem_of_getElem? hL)
      have hLl : L.length ≤ 9 := Nat.le_trans hLot.len hl
      obtain ⟨hne, hpt⟩ := F.part L hLot hLf
      have e79 := e8.trans e9
      have hx9 := (ti _).up e9 hR2
      have lots9 := (ls _).up e79 lots7
      have held9 := (ls _).up e79 held7
      -- near
      refine (?_ : tSeq _ _ _ _ H')
      refine q_set (R := ls ((nearP d L).map fun a => nn a.1)) (ev_lcELa (fcs d) (fun I => ti (iv I)) (fun a => nn a.1) (fun a => below L a.2) (es1 (ev_n rfl lots9)) (fun _ => im_nn) (by omega) fun j I hj v H10 e10 hv => body_p hv (fun _ _ => rfl) (fun av ov hav hov => t_test ((ev_eqNil (T := nn) (f := fun k : Nat => PyData.int (k : Int)) (n := 0) (ev_lcT L nn nn (fun p => !has I p) (ev_tin (ev_n rfl ((ti _).up e10 hx9))) (fun _ => im_nn) (by omega) fun p hp pv H11 e11 hpv => body_n (fun _ => rfl) (t_test (ev_notInT (ev_n rfl hpv) (ev_n rfl ((ti _).up e11 hov)))) fun _ => ev_n rfl hpv) (fun _ => dps_ii) (fun _ => flt_int) (by decide)))) fun av ov hav hov _ => ev_n rfl hav) fun nv H10 e10 hnv => ?_
      have hx10 := (ti _).up e10 hx9
      have held10 := (ls _).up e10 held9
      have hnl : (nearP d L).length ≤ 512 := Nat.le_trans (List.length_filter_le _ _) (by rw [List.length_zip, List.length_range]; omega)
      -- parts
      refine q_set (R := ls ((partP d L).map fun a => nn a.1)) (ev_lcL (nearP d L) (fun a => nn a.1) (fun a => nn a.1) (fun a => below (rise d.n d.wd a.2) L) (ev_n rfl hnv) (fun _ => im_nn) (by omega) fun b hb v H11 e11 hv => body_n (fun _ => rfl) (t_test ((ev_eqNil (T := nn) (f := fun k : Nat => PyData.int (k : Int)) (n := 0) (ev_lcT (rise d.n d.wd b.2) nn nn (fun p => !has L p) (ev_tin (ev_ixL (i := b.1) (ev_n rfl ((ls _).up e11 held10)) (ev_n rfl hv) ?_)) (fun _ => im_nn) ?_ fun p hp pv H12 e12 hpv => body_n (fun _ => rfl) (t_test (ev_notInT (ev_n rfl hpv) (ev_n rfl ((ti _).up (e11.trans e12) hx10)))) fun _ => ev_n rfl hpv) (fun _ => dps_ii) (fun _ => flt_int) (by decide)))) fun _ => ev_n rfl hv) fun pv H11 e11 hpv => ?_
      · rw [List.getElem?_map, zip_at (List.mem_filter.mp hb).1]; rfl
      · have := hfI b.2 (List.mem_of_getElem? (zip_at (List.mem_filter.mp hb).1))
        exact Nat.le_trans (List.length_filter_le _ _) (by omega)
      have hnv11 := (ls _).up e11 hnv
      refine s_skip (et_or (a := false) (b := false) (t_is (t_test (ev_eqNil (T := fun a : Nat × List Nat => nn a.1) (f := fun a : Nat × List Nat => PyData.int (a.1 : Int)) (n := 0) (ev_n rfl hnv11) (fun _ => dps_ii) (fun _ => flt_int) (by decide))) ?_) fun _ => t_is (t_test (ev_neLn (a := (partP d L).map (·.1)) (b := ((nearP d L).map (·.1)).take 1) ((ev_n rfl hpv).to (by rw [List.map_map]; rfl)) ((ev_slL (k := 1) (ev_n rfl hnv11) (eo_s (ev_k (v := .int ((1 : Nat) : Int))))).to (by rw [← List.map_take, ← List.map_take, List.map_map]; rfl)))) ?_) fun H12 e12 => ⟨((e9.trans e10).trans e11).trans e12, _, _, _, _, _, _, _, _, rfl⟩
      · cases h : nearP d L with
        | nil => exact absurd h hne
        | cons a r => rfl
      · rw [hpt]; simp
    · rintro σ' H9 ⟨e9, o7, o8, o9, o10, o11, o12, o14, o15, rfl⟩
      have e79 := e8.trans e9
      have lots9 := (ls _).up e79 lots7
      have wv9 := (ti _).up e79 wv7
      have gv9 := (ti _).up e79 gv7
      have r9 := r7.up e79
      have hfv9 := (ls _).up e79 hfv
      clear lots7 wv7 gv7 r7 hfv hr8 hp8 held7 e79
      dsimp only
      -- the turns
      refine q_of (s_forR (n := 4) (es1 (ev_k (v := .int ((4 : Nat) : Int)))) (by decide) fun H10 e10 => ⟨fun k σ' H' => ExR a H10 H' ∧ Rw K a H' ∧ ∃ o7 o8 o9 o10 o11 o12 o14 o15 o16, σ' = [some (V.ref l), some (V.ref a), some (V.int (d.n : Int)), some wv, some gv, some (V.ref pl), some (V.ref ph), o7, o8, o9, o10, o11, o12, some fv, o14, o15, o16], ?_⟩)
      have r10 := r9.up e10
      have wv10 := (ti _).up e10 wv9
      have gv10 := (ti _).up e10 gv9
      obtain ⟨pl', lvs', hpl', hpl10, hlr10⟩ := (ls _).up e10 lots9
      have hpe : pl' = pl := (V.ref.inj hpl').symm
      subst hpe
      obtain ⟨pf, fvs, rfl, hpf10, hfr10⟩ := (ls _).up e10 hfv9
      have npa := ne_row r10 hpl10 hlr10
      have nfa := ne_row r10 hpf10 hfr10
      have imF : Ims ((fineL d).map fun L => ti (iv L)) := ims_map (fun _ => im_ti) _
      have lotsAt : ∀ {H'}, ExR a H10 H' → (ls ((fcs d).map fun L => ti (iv L))).h (.ref pl') H' := fun e => ⟨pl', lvs', rfl, e.o _ _ npa hpl10, imL.up (r10.ext e) hlr10⟩
      have fineAt : ∀ {H'}, ExR a H10 H' → (ls ((fineL d).map fun L => ti (iv L))).h (.ref pf) H' := fun e => ⟨pf, fvs, rfl, e.o _ _ nfa hpf10, imF.up (r10.ext e) hfr10⟩
      have wvAt : ∀ {H'}, ExR a H10 H' → (ti (iv d.wd)).h wv H' := fun e => im_ti.up (r10.ext e) wv10
      have gvAt : ∀ {H'}, ExR a H10 H' → (ti d.g).h gv H' := fun e => im_ti.up (r10.ext e) gv10
      refine ⟨⟨.refl _ _, r10, o7, o8, o9, o10, o11, o12, o14, o15, none, rfl⟩, fun k σ' H' z => r10.ext z.1, ?_, ?_⟩
      · rintro k σ' H' hk' ⟨e11, r11, o7, o8, o9, o10, o11, o12, o14, o15, o16, rfl⟩
        refine (?_ : tSeq _ _ _ _ H')
        refine (t_test (ev_neNil (T := fun L => ti (iv L)) (f := fun L => dti (iv L)) (n := 1) (ev_n rfl (fineAt e11)) (fun _ => dps_ti) (fun _ => flt_dti) (by decide)) : EvT _ _ H' (!(fineL d).isEmpty)) H' (Ex.refl _) _ fun H12 e12 => ?_
        have e12' : ExR a H10 H12 := e11.trans (.of e12)
        have r12 := r11.up e12
        cases hfe : (fineL d).isEmpty with
        | true =>
          rw [if_neg (by decide)]
          -- there is none
          have hn : ∀ {σ : L2.St} {H0 : Hp}, σ[8]? = some (some V.non) → EvR (tOp (fun x y H Q => y = V.non ∧ Q (V.bl !decide (x = V.non)) H) (tVar 8) (tC .non)) σ H0 (bb false) := fun h => ev_o (ev_n (R := is .non) h rfl) ev_k fun x y H1 _ hx hy Q q => ⟨hy, q _ H1 (Ex.refl _) (by have hx : x = .non := hx; subst hx; rfl)⟩
          refine (?_ : tSeq _ _ _ _ H12)
          refine q_set (R := ls (((fcs d).filter fun _ => false).map fun L => ti (iv L))) (ev_lcL (fcs d) (fun L => ti (iv L)) (fun L => ti (iv L)) (fun _ => false) (ev_n rfl (lotsAt e12')) (fun _ => im_ti) (by omega) fun L hL xv H13 e hxv => body_n (fun _ => rfl) (t_is (et_and (a := false) (b := false) (t_test (hn rfl)) fun h => by cases h) rfl) fun h => by cases h) fun nv H13 e13 hnv => ?_
          refine q_skip (t_is (et_and (a := false) (b := false) (t_test (hn rfl)) fun h => by cases h) rfl) fun H14 e14 => ?_
          refine q_skip (t_is (et_and (a := false) (b := false) (t_test (hn rfl)) fun h => by cases h) rfl) fun H15 e15 => ?_
          refine s_skip (t_is (et_and (a := false) (b := false) (t_test (hn rfl)) fun h => by cases h) rfl) fun H16 e16 => ?_
          have eE := ((e13.trans e14).trans e15).trans e16
          exact ⟨e12'.trans (.of eE), r12.up eE, _, _, _, _, _, _, _, _, _, rfl⟩
        | false =>
          rw [if_pos (by decide)]
          have hfvl : fvs.length = (fineL d).length := by rw [← rels_len hfr10, List.length_map]
          have hfpos : 1 ≤ fvs.length := by
            rw [hfvl]
            cases h : fineL d with
            | nil => rw [h] at hfe; cases hfe
            | cons a b => simp
          refine ⟨_, rfl, _, rfl, ?_⟩
          refine ⟨a, pf, fvs, rfl, r12, nfa, e12'.o _ _ nfa hpf10, hfpos, by omega, fun v H13 i e13 r13 hv => ?_⟩
          have e13' : ExR a H10 H13 := e12'.trans e13
          obtain ⟨R, hR1, hR2⟩ := rels_at' hfr10 hv
          rw [List.getElem?_map] at hR1
          obtain ⟨L, hL⟩ : ∃ L, (fineL d)[i]? = some L := by
            cases h : (fineL d)[i]? with
            | none => rw [h] at hR1; cases hR1
            | some L => exact ⟨L, rfl⟩
          rw [hL] at hR1
          cases hR1
          obtain ⟨hLot, hLf⟩ := hfm L (List.mem_of_getElem? hL)
          have hLl : L.length ≤ 9 := Nat.le_trans hLot.len hl
          obtain ⟨rest_, hfirst⟩ := F.first L hLot hLf
          have hv13 : (ti (iv L)).h v H13 := im_ti.up (r10.ext e13') hR2
          have hne : v ≠ .non := fun z => by obtain ⟨_, h, _⟩ := hv13; rw [z] at h; cases h
          have hn : ∀ {σ : L2.St} {H0 : Hp}, σ[8]? = some (some v) → EvR (tOp (fun x y H Q => y = V.non ∧ Q (V.bl !decide (x = V.non)) H) (tVar 8) (tC .non)) σ H0 (bb true) := fun h => ev_o (ev_n (R := is v) h rfl) ev_k fun x y H1 _ hx hy Q q => ⟨hy, q _ H1 (Ex.refl _) (by
            have hx : x = v := hx
            subst hx
            show V.bl (!decide (x = V.non)) = V.bl true
            rw [decide_eq_false hne]; rfl)⟩
          have lots13 := lotsAt e13'
          have wv13 := wvAt e13'
          have gv13 := gvAt e13'
          refine (?_ : tSeq _ _ _ _ H13)
          refine q_set (R := ls ((nearL d L).map fun I => ti (iv I))) (ev_lcL (fcs d) (fun I => ti (iv I)) (fun I => ti (iv I)) (fun I => true && below L I) (ev_n rfl lots13) (fun _ => im_ti) (by omega) fun I hI ov H14 e hov => body_n (fun _ => rfl) (et_and (t_test (hn rfl)) fun _ => t_test ((ev_eqNil (T := nn) (f := fun k : Nat => PyData.int (k : Int)) (n := 0) (ev_lcT L nn nn (fun p => !has I p) (ev_tin (ev_n rfl ((ti _).up e hv13))) (fun _ => im_nn) (by omega) fun p hp pv H15 e15 hpv => body_n (fun _ => rfl) (t_test (ev_notInT (ev_n rfl hpv) (ev_n rfl ((ti _).up e15 hov)))) fun _ => ev_n rfl hpv) (fun _ => dps_ii) (fun _ => flt_int) (by decide)))) fun _ => ev_n rfl hov) fun nv H14 e14 hnv => ?_
          have hnl : (nearL d L).length ≤ 512 := Nat.le_trans (List.length_filter_le _ _) hfl
          -- the stretch
          have hv14 := (ti _).up e14 hv13
          have wv14 := (ti _).up e14 wv13
          have gv14 := (ti _).up e14 gv13
          have args : ∀ {H0 : Hp} {σ : L2.St}, Ex H14 H0 → σ[2]? = some (some (V.int (d.n : Int))) → σ[3]? = some (some wv) → σ[4]? = some (some gv) → σ[8]? = some (some v) → EvRs (tCons (tVar 2) (tCons (tVar 3) (tCons (tVar 4) (tCons (tVar 8) tNil)))) σ H0 [nn d.n, ti (iv d.wd), ti d.g, ti (iv L)] := fun e h2 h3 h4 h8 => es_cons (ev_n h2 rfl) (es_cons (ev_n h3 ((ti _).up e wv14)) (es_cons (ev_n h4 ((ti _).up e gv14)) (es1 (ev_n h8 ((ti _).up e hv14)))))
          refine q_skip (t_is (et_and (a := true) (b := false) (t_test (hn rfl)) fun _ => t_is (t_test (ev_neTi (ev_call0 (d, L) (args (Ex.refl _) rfl rfl rfl rfl) rfl ⟨hd, hLot, hLf⟩) (ev_ixL (i := 0) (ev_n rfl hnv) (ev_k (v := .int ((0 : Nat) : Int))) (by rw [hfirst]; rfl)))) (by simp)) rfl) fun H15 e15 => ?_
          -- above
          refine q_skip (t_is (et_and (a := true) (b := false) (t_test (hn rfl)) fun _ => et_not (a := true) (t_B ((ev_call0 ((nearL d L).map iv, (nearL d L).map iv) (es_cons (((ev_call0 (d, L) (args e15 rfl rfl rfl rfl) rfl ⟨hd, hLot, hLf⟩).to (by show tp (((fcs d).filter fun one => L.all (has one)).map fun one => ti (iv one)) = tp ((nearL d L).map fun I => ti (iv I)); rw [F.abv])).imp fun _ _ _ h => tp_deep h) (es1 ((ev_tupOf (ev_n rfl ((ls _).up e15 hnv))).imp fun _ _ _ h => tp_deep h))) rfl ?_).to (by show bb (decide (_ = _)) = bb true; simp)))) rfl) fun H16 e16 => ?_
          · have hsm : ((nearL d L).map iv).length ≤ 1000 ∧ ∀ x ∈ (nearL d L).map iv, x.length ≤ 1000 ∧ ∀ y ∈ x, True := by
              refine ⟨by rw [List.length_map]; omega, fun x hx => ⟨?_, fun _ _ => trivial⟩⟩
              obtain ⟨I, hI, rfl⟩ := List.mem_map.mp hx
              have := hfI I (List.mem_filter.mp hI).1
              rw [iv_len]; omega
            exact ⟨hsm, hsm⟩
          -- how many
          have e16' := e15.trans e16
          obtain ⟨I0, fr, hI0⟩ : ∃ I0 r, fcs d = I0 :: r := by
            cases h : fcs d with
            | nil =>
              unfold nearL at hfirst
              rw [h] at hfirst; cases hfirst
            | cons a b => exact ⟨a, b, rfl⟩
          have lots16 := (ls _).up (e14.trans e16') lots13
          have hnv16 := (ls _).up e16' hnv
          have hv16 := (ti _).up e16' hv14
          have hlen0 : EvR (tOp (rI0 fun i j => .int (i - j)) (tCB (rLn K) (tCons (tOp (rIxL K) (tVar 5) (tC (.int 0))) tNil)) (tC (.int 1))) _ H16 (ii ((I0.length : Int) - 1)) := ev_I (g := fun i j => .int (i - j)) (i := (I0.length : Int)) (j := 1) ((ev_lenTi (ev_ixL (σ := [some (V.ref l), some (V.ref a), some (V.int (d.n : Int)), some wv, some gv, some (V.ref pl'), some (V.ref ph), o7, some v, o9, o10, o11, o12, some (V.ref pf), some nv, o15, some (V.int (k : Int))]) (i := 0) (ev_n rfl lots16) (ev_k (v := .int ((0 : Nat) : Int))) (by rw [hI0]; rfl))).to (by rw [iv_len]; rfl)) ev_k
          refine s_skip (t_is (et_and (a := true) (b := false) (t_test (hn rfl)) fun _ => t_is (et_and (a := decide ((L.length : Int) = (I0.length : Int) - 1)) (b := !has (if runF (turned d.n) d.wd 0 (has []) = d.g then [2] else [1, 2]) (nearL d L).length) (t_test (ev_eqI ((ev_lenTi (ev_n rfl hv16)).to (by rw [iv_len]; rfl)) hlen0)) fun _ => t_test (ev_notInL ((ev_lenL (ev_n rfl hnv16)).to (by rw [List.length_map])) ?_)) ?_) rfl) fun H17 e17 => ?_
          · refine (ev_cond (b := decide (runF (turned d.n) d.wd 0 (has []) = d.g)) (t_test (ev_eqTi (ev_call0 (d.n, d.wd, []) (es_cons (ev_n rfl ((ti _).up e16' wv14)) (es_cons (ev_tupI (ns := []) es_nil (by decide)) (es1 (ev_n (R := nn d.n) rfl rfl)))) rfl ⟨hW, by show d.n ≤ 7; omega⟩) (ev_n rfl ((ti _).up e16' gv14)))) (fun h => ?_) fun h => ?_)
            · rw [if_pos (of_decide_eq_true h)]
              exact ev_lst (es1 (ev_k (v := .int ((2 : Nat) : Int)))) (by show 1 ≤ 100000; decide)
            · rw [if_neg (of_decide_eq_false h)]
              exact ev_lst (es_cons (ev_k (v := .int ((1 : Nat) : Int))) (es1 (ev_k (v := .int ((2 : Nat) : Int))))) (by show 2 ≤ 100000; decide)
          · by_cases hc : (L.length : Int) = (I0.length : Int) - 1
            · rw [decide_eq_true hc, Bool.true_and]
              rcases F.codim L hLot hLf I0 fr hI0 (by omega) with h2 | ⟨h1, hs⟩
              · rw [h2]
                by_cases hr : runF (turned d.n) d.wd 0 (has []) = d.g
                · rw [if_pos hr]; rfl
                · rw [if_neg hr]; rfl
              · rw [h1, if_neg hs]; rfl
            · rw [decide_eq_false hc]; rfl
          · have eE := (e14.trans e16').trans e17
            exact ⟨e13'.trans (.of eE), r13.up eE, _, _, _, _, _, _, _, _, _, rfl⟩
      · rintro σ' H11 ⟨e11, r11, o7, o8, o9, o10, o11, o12, o14, o15, o16, rfl⟩
        dsimp only
        exact s_ret (ev_k (v := .bl true)) fun v H12 e12 hv => by
          have hv : v = .bl true := hv
          rw [hv]; exact hk H12
end Wk
set_option Elab.async false
set_option linter.all false
set_option maxRecDepth 100000
set_option maxHeartbeats 2000000
namespace Wk
open SSort
theorem below_iff {L I : List Nat} : below L I = true ↔ ∀ p ∈ L, p ∈ I := by
  unfold below
  rw [List.isEmpty_iff, List.filter_eq_nil_iff]
  constructor
  · intro h p hp
    have := h p hp
    simp only [Bool.not_eq_true', Bool.not_eq_false] at this
    exact has_iff.mp this
  · intro h p hp
    simp only [Bool.not_eq_true', Bool.not_eq_false]
    exact has_iff.mpr (h p hp)
theorem bool_ext {a b : Bool} (h : a = true ↔ b = true) : a = b := Bool.eq_iff_iff.mpr h
section
variable {d : TD}
theorem mem_oth {I J : List Nat} {p : Nat} : J ∈ oth (fcs d) I p ↔ J ∈ fcs d ∧ J ≠ I ∧ ∀ r ∈ I, r ≠ p → r ∈ J := by
  unfold oth
  rw [List.mem_filter, Bool.and_eq_true, Bool.not_eq_true', decide_eq_false_iff_not]
  have : ((kept I p).filter fun o => !has J o).isEmpty = true ↔ ∀ r ∈ I, r ≠ p → r ∈ J := by
    show below (kept I p) J = true ↔ _
    rw [below_iff]
    unfold kept
    constructor
    · intro h r hr hne
      exact h r (List.mem_filter.mpr ⟨hr, by simpa using hne⟩)
    · intro h r hr
      have := List.mem_filter.mp hr
      exact h r this.1 (by simpa using this.2)
  rw [this]
theorem oth_one (hd : d.ok) {I : List Nat} (hI : I ∈ fcs d) {p : Nat} (hp : p ∈ I) {J J' : List Nat} (h : J ∈ oth (fcs d) I p) (h' : J' ∈ oth (fcs d) I p) : J = J' := by
  obtain ⟨n1, n5, hW, hl, hg⟩ := hd
  obtain ⟨a1, a2, a3⟩ := mem_oth.mp h
  obtain ⟨b1, b2, b3⟩ := mem_oth.mp h'
  obtain ⟨q, q1, q2, q3, q4, _, _⟩ := fac_other hW (turned_row d.n) hI a1 a2 hp a3
  obtain ⟨r, r1, r2, r3, r4, _, _⟩ := fac_other hW (turned_row d.n) hI b1 b2 hp b3
  have := part_of hW hI q1 q2 q4
  rw [part_of hW hI r1 r2 r4] at this
  cases this
  rw [q3, r3]
theorem nd_fcs : (fcs d).Nodup := by
  rw [List.nodup_iff_pairwise_ne]
  refine (fac_pairwise (g := d.g) (w := d.wd) (i := 0) (y := turned d.n)).imp fun {a b} h e => ?_
  subst e
  exact Bef.asymm h h
theorem nodup_one {α : Type} {l : List α} (hn : l.Nodup) (h : ∀ a ∈ l, ∀ b ∈ l, a = b) : l.length ≤ 1 := by
  match l, hn, h with
  | [], _, _ => exact Nat.zero_le _
  | [_], _, _ => exact Nat.le_refl _
  | a :: b :: l, hn, h =>
    rw [List.nodup_cons] at hn
    exact absurd (h a (by simp) b (by simp)) (fun e => hn.1 (by rw [e]; simp))
/-- partners stand ahead just when they have been told ahead -/
theorem idx_bef {I J : List Nat} {k : Nat} (hI : (fcs d)[k]? = some I) (hJ : J ∈ fcs d) : (fcs d).idxOf J < k ↔ Bef J I := by
  have h1 := List.idxOf_lt_length_of_mem hJ
  have h2 := List.getElem_idxOf h1
  obtain ⟨hk, e⟩ := List.getElem?_eq_some_iff.mp hI
  have hp := fac_pairwise (g := d.g) (w := d.wd) (i := 0) (y := turned d.n)
  have hp : (fcs d).Pairwise Bef := hp
  rw [List.pairwise_iff_getElem] at hp
  constructor
  · intro h
    have := hp _ _ h1 hk h
    rwa [h2, e] at this
  · intro hb
    refine Classical.byContradiction fun hn => ?_
    by_cases he : (fcs d).idxOf J = k
    · have : J = I := by
        rw [← h2, ← e]
        congr 1
      rw [this] at hb
      exact Bef.asymm hb hb
    · have := hp k _ hk h1 (by omega)
      rw [h2, e] at this
      exact Bef.asymm hb this
theorem due_eq (hd : d.ok) {k : Nat} {I : List Nat} (hI : (fcs d)[k]? = some I) : rise d.n d.wd I = I.filter (dueB d I k) := by
  have hIm : I ∈ fcs d := List.mem_of_getElem? hI
  have hd' := hd
  obtain ⟨n1, n5, hW, hl, hg⟩ := hd'
  unfold rise
  refine List.filter_congr fun p hp => ?_
  have hpl := fac_bd hIm p hp
  unfold dueB
  cases hpt : SSort.part d.n d.wd I p with
  | none =>
    cases ho : oth (fcs d) I p with
    | nil => rfl
    | cons J r =>
      have hJ : J ∈ oth (fcs d) I p := by rw [ho]; exact List.mem_cons_self
      obtain ⟨a1, a2, a3⟩ := mem_oth.mp hJ
      obtain ⟨q, q1, q2, q3, q4, _, _⟩ := fac_other hW (turned_row d.n) hIm a1 a2 hp a3
      rw [part_of hW hIm q1 q2 q4] at hpt
      cases hpt
  | some q =>
    obtain ⟨q1, q2, q3⟩ := part_some hpt
    have hne : p ≠ q := fun z => q2 (by rw [← z]; exact hp)
    have hJ := fac_flip hW (turned_row d.n) hIm hp q1 q2 q3
    have hm : ∀ r, r ∈ swapLot d.wd I p q ↔ (r ∈ I ∧ r ≠ p) ∨ r = q := fun r => mem_swapLot (fac_bd hIm) q1 hne
    have hJo : swapLot d.wd I p q ∈ oth (fcs d) I p := mem_oth.mpr ⟨hJ, fun z => q2 (by rw [← z]; exact (hm q).mpr (.inr rfl)), fun r hr hrp => (hm r).mpr (.inl ⟨hr, hrp⟩)⟩
    cases ho : oth (fcs d) I p with
    | nil => rw [ho] at hJo; cases hJo
    | cons J r =>
      have hJ' : J ∈ oth (fcs d) I p := by rw [ho]; exact List.mem_cons_self
      have e := oth_one hd hIm hp hJ' hJo
      subst e
      refine bool_ext ?_
      rw [decide_eq_true_iff, decide_eq_true_iff, idx_bef hI hJ]
      have hb := bef_swap (fac_bd hIm) hp q1 q2
      constructor
      · exact hb.1
      · intro h
        refine Classical.byContradiction fun hn => ?_
        exact Bef.asymm h (hb.2 (by omega))
/-- the facets above a harmless lot -/
theorem near_eq (L : List Nat) (hL : ∀ p ∈ L, p < d.wd.length) : near d.g d.wd 0 (has L) (turned d.n) = nearL d L := by
  unfold near nearL fcs
  refine List.filter_congr fun I _ => bool_ext ?_
  rw [sup_iff, below_iff]
  constructor
  · intro h p hp
    exact h p (Nat.zero_le _) (by have := hL p hp; omega) (has_iff.mpr hp)
  · intro h p _ _ hp
    exact h p (has_iff.mp hp)
theorem near_first (hd : d.ok) {L : List Nat} (hL : Lot d.wd.length L) (hf : fineB d L = true) : ∃ r, nearL d L = greedy d.g d.wd 0 (has L) (turned d.n) :: r := by
  obtain ⟨n1, n5, hW, hl, hg⟩ := hd
  have h1 := (far_iff hg hW).mp (farB_iff.mp hf)
  have h2 := (near_head (g := d.g) (w := d.wd) (i := 0) (F := has L) (y := turned d.n)).1 h1
  rw [near_eq L hL.2] at h2
  cases h : nearL d L with
  | nil => rw [h] at h2; cases h2
  | cons a r =>
    rw [h] at h2
    exact ⟨r, by rw [Option.some.inj h2]⟩
theorem mem_nearP {L : List Nat} {a : Nat × List Nat} : a ∈ nearP d L ↔ (fcs d)[a.1]? = some a.2 ∧ ∀ p ∈ L, p ∈ a.2 := by
  unfold nearP
  rw [List.mem_filter, below_iff]
  constructor
  · rintro ⟨h1, h2⟩
    exact ⟨zip_at h1, h2⟩
  · rintro ⟨h1, h2⟩
    refine ⟨List.mem_iff_getElem?.mpr ⟨a.1, ?_⟩, h2⟩
    rw [List.getElem?_zip_eq_some]
    exact ⟨List.getElem?_range (List.getElem?_eq_some_iff.mp h1).1, h1⟩
theorem nearP_lt {L : List Nat} : (nearP d L).Pairwise fun a b => a.1 < b.1 := by
  unfold nearP
  refine List.Pairwise.filter _ ?_
  rw [List.pairwise_iff_getElem]
  intro i j hi hj hij
  rw [List.getElem_zip, List.getElem_zip, List.getElem_range, List.getElem_range]
  exact hij
theorem part_ok (hd : d.ok) {L : List Nat} (hL : Lot d.wd.length L) (hf : fineB d L = true) : nearP d L ≠ [] ∧ (partP d L).map (·.1) = ((nearP d L).map (·.1)).take 1 := by
  have hd' := hd
  obtain ⟨n1, n5, hW, hl, hg⟩ := hd'
  obtain ⟨r0, h0⟩ := near_first hd hL hf
  have hgm : greedy d.g d.wd 0 (has L) (turned d.n) ∈ nearL d L := by rw [h0]; exact List.mem_cons_self
  obtain ⟨g1, g2⟩ := List.mem_filter.mp hgm
  obtain ⟨k0, hk0⟩ := List.mem_iff_getElem?.mp g1
  have hne : nearP d L ≠ [] := fun z => by
    have : (k0, greedy d.g d.wd 0 (has L) (turned d.n)) ∈ nearP d L := mem_nearP.mpr ⟨hk0, below_iff.mp g2⟩
    rw [z] at this; cases this
  refine ⟨hne, ?_⟩
  have hpw := nearP_lt (d := d) (L := L)
  have hmem : ∀ a, a ∈ nearP d L ↔ (fcs d)[a.1]? = some a.2 ∧ ∀ p ∈ L, p ∈ a.2 := fun a => mem_nearP
  unfold partP
  cases hn : nearP d L with
  | nil => exact absurd hn hne
  | cons a r =>
    rw [hn] at hpw hmem
    obtain ⟨p1, p2⟩ := List.pairwise_cons.mp hpw
    obtain ⟨ha1, ha2⟩ := (hmem a).mp List.mem_cons_self
    have hIa : a.2 ∈ fcs d := List.mem_of_getElem? ha1
    have h1 : below (rise d.n d.wd a.2) L = true := by
      rw [below_iff]
      intro p hp
      rw [due_eq hd ha1] at hp
      obtain ⟨hpI, hdb⟩ := List.mem_filter.mp hp
      unfold dueB at hdb
      refine Classical.byContradiction fun hpL => ?_
      cases ho : oth (fcs d) a.2 p with
      | nil => rw [ho] at hdb; cases hdb
      | cons J s =>
        rw [ho] at hdb
        have hJ : J ∈ oth (fcs d) a.2 p := by rw [ho]; exact List.mem_cons_self
        obtain ⟨b1, b2, b3⟩ := mem_oth.mp hJ
        have hdb := of_decide_eq_true hdb
        have hjx : (fcs d)[(fcs d).idxOf J]? = some J := by
          have h1 := List.idxOf_lt_length_of_mem b1
          rw [List.getElem?_eq_getElem h1, List.getElem_idxOf h1]
        have hin := (hmem ((fcs d).idxOf J, J)).mpr ⟨hjx, fun x hx => b3 x (ha2 x hx) (fun z => hpL (by rw [← z]; exact hx))⟩
        rcases List.mem_cons.mp hin with e | e
        · rw [← e] at hdb; exact Nat.lt_irrefl _ hdb
        · have := p1 _ e
          have : a.1 < (fcs d).idxOf J := this
          omega
    have h2 : ∀ b ∈ r, ¬ below (rise d.n d.wd b.2) L = true := by
      intro b hb hbl
      obtain ⟨hb1, hb2⟩ := (hmem b).mp (List.mem_cons_of_mem _ hb)
      have hIb : b.2 ∈ fcs d := List.mem_of_getElem? hb1
      have hlt := p1 b hb
      have hbef : Bef a.2 b.2 := by
        have hp : (fcs d).Pairwise Bef := fac_pairwise (g := d.g) (w := d.wd) (i := 0) (y := turned d.n)
        rw [List.pairwise_iff_getElem] at hp
        obtain ⟨q1, q2⟩ := List.getElem?_eq_some_iff.mp ha1
        obtain ⟨q3, q4⟩ := List.getElem?_eq_some_iff.mp hb1
        have := hp _ _ q1 q3 hlt
        rwa [q2, q4] at this
      obtain ⟨p, q, hpI, hpJ, hpq, hpt⟩ := shell hW hIb hIa hbef
      have : p ∈ rise d.n d.wd b.2 := by
        unfold rise
        refine List.mem_filter.mpr ⟨hpI, ?_⟩
        rw [hpt]; exact decide_eq_true hpq
      exact hpJ (ha2 p (below_iff.mp hbl p this))
    rw [List.filter_cons_of_pos (p := fun b : Nat × List Nat => below (rise d.n d.wd b.2) L) (a := a) h1, List.filter_eq_nil_iff.mpr h2]
    rfl
theorem codim_ok (hd : d.ok) {L : List Nat} (hL : Lot d.wd.length L) (hf : fineB d L = true) {I0 : List Nat} {r : List (List Nat)} (hI0 : fcs d = I0 :: r) (hl : L.length + 1 = I0.length) :
    (nearL d L).length = 2 ∨ ((nearL d L).length = 1 ∧ runF (turned d.n) d.wd 0 (has []) ≠ d.g) := by
  have hd' := hd
  obtain ⟨n1, n5, hW, hl9, hg⟩ := hd'
  obtain ⟨r0, h0⟩ := near_first hd hL hf
  have hgm : greedy d.g d.wd 0 (has L) (turned d.n) ∈ nearL d L := by rw [h0]; exact List.mem_cons_self
  generalize greedy d.g d.wd 0 (has L) (turned d.n) = I at h0 hgm
  obtain ⟨g1, g2⟩ := List.mem_filter.mp hgm
  have g2 := below_iff.mp g2
  have hIlen : I.length = I0.length := fac_same hW (turned_row d.n) g1 (by show I0 ∈ fcs d; rw [hI0]; exact List.mem_cons_self)
  -- the place that L lacks
  have hc := sub_count (asc_nodup hL.1) (asc_nodup (fac_asc g1)) g2
  obtain ⟨p, hp⟩ : ∃ p, (I.filter fun r => !has L r) = [p] := by
    cases h : (I.filter fun r => !has L r) with
    | nil => rw [h] at hc; simp at hc; omega
    | cons q l =>
      cases l with
      | nil => exact ⟨q, rfl⟩
      | cons a b => rw [h] at hc; simp at hc; omega
  have hpm : p ∈ I ∧ p ∉ L := by
    have : p ∈ (I.filter fun r => !has L r) := by rw [hp]; exact List.mem_singleton.mpr rfl
    have := List.mem_filter.mp this
    exact ⟨this.1, has_false.mp (by simpa using this.2)⟩
  have hLI : ∀ x, x ∈ L ↔ x ∈ I ∧ x ≠ p := fun x => by
    constructor
    · intro h; exact ⟨g2 x h, fun z => hpm.2 (by rw [← z]; exact h)⟩
    · rintro ⟨h1, h2⟩
      refine Classical.byContradiction fun hn => ?_
      have : x ∈ (I.filter fun r => !has L r) := List.mem_filter.mpr ⟨h1, by rw [Bool.not_eq_true', has_false]; exact hn⟩
      rw [hp, List.mem_singleton] at this
      exact h2 this
  have hperm : (nearL d L).Perm (I :: oth (fcs d) I p) := by
    refine (List.perm_ext_iff_of_nodup (nd_fcs.filter _) ?_).mpr fun J => ?_
    · rw [List.nodup_cons]
      exact ⟨fun z => (mem_oth.mp z).2.1 rfl, nd_fcs.filter _⟩
    · rw [List.mem_cons, mem_oth]
      constructor
      · intro h
        obtain ⟨h1, h2⟩ := List.mem_filter.mp h
        by_cases e : J = I
        · exact .inl e
        · exact .inr ⟨h1, e, fun x hx hxp => below_iff.mp h2 x ((hLI x).mpr ⟨hx, hxp⟩)⟩
      · rintro (rfl | ⟨h1, h2, h3⟩)
        · exact hgm
        · exact List.mem_filter.mpr ⟨h1, below_iff.mpr fun x hx => h3 x ((hLI x).mp hx).1 ((hLI x).mp hx).2⟩
  have hlen := hperm.length_eq
  rw [List.length_cons] at hlen
  have h1 : (oth (fcs d) I p).length ≤ 1 := nodup_one (nd_fcs.filter _) fun a ha b hb => oth_one hd g1 hpm.1 ha hb
  by_cases h2 : (oth (fcs d) I p).length = 1
  · exact .inl (by omega)
  · refine .inr ⟨by omega, fun hs => ?_⟩
    have hs' : runF (turned d.n) d.wd 0 (fun _ => false) = d.g := by
      rw [← hs]
      congr 1
    obtain ⟨q, hq⟩ := sphere hW hg g1 hs' hpm.1
    obtain ⟨q1, q2, q3⟩ := part_some hq
    have hne : p ≠ q := fun z => q2 (by rw [← z]; exact hpm.1)
    have hJ := fac_flip hW (turned_row d.n) g1 hpm.1 q1 q2 q3
    have hm : ∀ r, r ∈ swapLot d.wd I p q ↔ (r ∈ I ∧ r ≠ p) ∨ r = q := fun r => mem_swapLot (fac_bd g1) q1 hne
    have hJo : swapLot d.wd I p q ∈ oth (fcs d) I p := mem_oth.mpr ⟨hJ, fun z => q2 (by rw [← z]; exact (hm q).mpr (.inr rfl)), fun r hr hrp => (hm r).mpr (.inl ⟨hr, hrp⟩)⟩
    have := List.length_pos_of_mem hJo
    omega
theorem facts (d : TD) (hd : d.ok) : Facts d where
  lot := fun I hI => ⟨fac_asc hI, fac_bd hI⟩
  path := fun I hI => fac_path hI
  nd := nd_fcs
  one := fun I hI p hp => ⟨nodup_one (nd_fcs.filter _) fun a ha b hb => oth_one hd hI hp ha hb, fun J hJ => by
    have hd' := hd
    obtain ⟨n1, n5, hW, hl9, hg⟩ := hd'
    obtain ⟨a1, a2, a3⟩ := mem_oth.mp hJ
    obtain ⟨q, q1, q2, q3, q4, q5, q6⟩ := fac_other hW (turned_row d.n) hI a1 a2 hp a3
    intro z
    have : q ∈ newIn J I p := by
      unfold newIn
      refine List.mem_filter.mpr ⟨q6, ?_⟩
      rw [Bool.not_eq_true', has_false]
      intro h
      exact q2 (List.mem_filter.mp h).1
    rw [z] at this; cases this⟩
  due := fun k I hI => due_eq hd hI
  part := fun L hL hf => part_ok hd hL hf
  first := fun L hL hf => near_first hd hL hf
  abv := fun L => by
    unfold nearL
    refine List.filter_congr fun I _ => bool_ext ?_
    rw [below_iff, List.all_eq_true]
    constructor
    · intro h p hp; exact has_iff.mp (h p hp)
    · intro h p hp; exact has_iff.mpr (h p hp)
  codim := fun L hL hf I0 r hI0 hl => codim_ok hd hL hf hI0 hl
end
end Wk
set_option Elab.async false
set_option linter.all false
set_option maxRecDepth 100000
set_option maxHeartbeats 2000000
namespace Wk
open SSort
section
variable {d : TD}
theorem subs_nodup : ∀ m, (subs m).Nodup
  | 0 => by simp [subs]
  | m + 1 => by
    unfold subs
    rw [List.nodup_append]
    refine ⟨subs_nodup m, ?_, fun a ha b hb e => ?_⟩
    · have := subs_nodup m
      rw [List.nodup_iff_pairwise_ne] at this ⊢
      rw [List.pairwise_map]
      exact this.imp fun h z => h (List.append_cancel_right z)
    · obtain ⟨c, hc, rfl⟩ := List.mem_map.mp hb
      subst e
      have := (subs_lot.mp ha).2 m (by simp)
      omega
/-- the most places of a harmless lot -/
def mostL (d : TD) : Nat := ((fineL d).map fun L => L.length).foldl max 0
def foundL (d : TD) : List (List Nat) := (fineL d).filter fun L => decide (L.length = mostL d)
theorem fine_iff (hd : d.ok) {L : List Nat} : L ∈ fineL d ↔ Lot d.wd.length L ∧ ∃ I ∈ fcs d, ∀ p ∈ L, p ∈ I := by
  have hd' := hd
  obtain ⟨n1, n5, hW, hl, hg⟩ := hd'
  unfold fineL
  rw [List.mem_filter, subs_lot]
  constructor
  · rintro ⟨h1, h2⟩
    obtain ⟨r, hr⟩ := near_first hd h1 h2
    have : greedy d.g d.wd 0 (has L) (turned d.n) ∈ nearL d L := by rw [hr]; exact List.mem_cons_self
    obtain ⟨a, b⟩ := List.mem_filter.mp this
    exact ⟨h1, _, a, below_iff.mp b⟩
  · rintro ⟨h1, I, hI, hs⟩
    refine ⟨h1, farB_iff.mpr ((far_iff hg hW).mpr ?_)⟩
    cases hr : reach d.g d.wd 0 (has L) (turned d.n) with
    | true => rfl
    | false =>
      have := (near_head (g := d.g) (w := d.wd) (i := 0) (F := has L) (y := turned d.n)).2 hr
      rw [near_eq L h1.2] at this
      have hm : I ∈ nearL d L := List.mem_filter.mpr ⟨hI, below_iff.mpr hs⟩
      rw [this] at hm; cases hm
theorem foldl_max_le {l : List Nat} : ∀ {a : Nat}, a ≤ l.foldl max a ∧ ∀ x ∈ l, x ≤ l.foldl max a := by
  induction l with
  | nil => exact fun {a} => ⟨Nat.le_refl _, fun x hx => nomatch hx⟩
  | cons b l ih =>
    intro a
    have := ih (a := max a b)
    rw [List.foldl_cons]
    refine ⟨by omega, fun x hx => ?_⟩
    rcases List.mem_cons.mp hx with rfl | hx
    · omega
    · exact this.2 x hx
theorem foldl_max_mem {l : List Nat} : ∀ {a : Nat}, l.foldl max a = a ∨ l.foldl max a ∈ l := by
  induction l with
  | nil => exact fun {a} => .inl rfl
  | cons b l ih =>
    intro a
    rw [List.foldl_cons]
    rcases ih (a := max a b) with h | h
    · rw [h]
      by_cases e : b ≤ a
      · exact .inl (by omega)
      · exact .inr (by rw [show max a b = b by omega]; exact List.mem_cons_self)
    · exact .inr (List.mem_cons_of_mem _ h)
theorem found_perm (hd : d.ok) : (foundL d).Perm (fcs d) := by
  have hd' := hd
  obtain ⟨n1, n5, hW, hl, hg⟩ := hd'
  have hnd : (fineL d).Nodup := (subs_nodup _).filter _
  refine (List.perm_ext_iff_of_nodup (hnd.filter _) nd_fcs).mpr fun L => ?_
  rw [List.mem_filter, decide_eq_true_iff]
  have fsub : ∀ I ∈ fcs d, I ∈ fineL d := fun I hI => (fine_iff hd).mpr ⟨⟨fac_asc hI, fac_bd hI⟩, I, hI, fun p hp => hp⟩
  have hle : ∀ L ∈ fineL d, ∀ I ∈ fcs d, L.length ≤ I.length := fun L hL I hI => by
    obtain ⟨h1, J, hJ, hs⟩ := (fine_iff hd).mp hL
    have := sub_count (asc_nodup h1.1) (asc_nodup (fac_asc hJ)) hs
    have := fac_same hW (turned_row d.n) hI hJ
    omega
  have hmost : ∀ I ∈ fcs d, mostL d = I.length := fun I hI => by
    unfold mostL
    have h1 := (foldl_max_le (l := (fineL d).map fun L => L.length) (a := 0)).2 I.length (List.mem_map.mpr ⟨I, fsub I hI, rfl⟩)
    rcases foldl_max_mem (l := (fineL d).map fun L => L.length) (a := 0) with h | h
    · omega
    · obtain ⟨L, hL, e⟩ := List.mem_map.mp h
      have := hle L hL I hI
      rw [e] at this; omega
  constructor
  · rintro ⟨h1, h2⟩
    obtain ⟨h3, J, hJ, hs⟩ := (fine_iff hd).mp h1
    rw [hmost J hJ] at h2
    have hc := sub_count (asc_nodup h3.1) (asc_nodup (fac_asc hJ)) hs
    have h0 : (J.filter fun r => !has L r) = [] := List.eq_nil_of_length_eq_zero (by omega)
    have : L = J := asc_ext h3.1 (fac_asc hJ) fun p => ⟨hs p, fun hp => by
      rw [List.filter_eq_nil_iff] at h0
      have := h0 p hp
      simp only [Bool.not_eq_true', Bool.not_eq_false] at this
      exact has_iff.mp this⟩
    rw [this]; exact hJ
  · intro h
    exact ⟨fsub L h, (hmost L h).symm⟩
/-- the lots sorted by their keys are the facets -/
theorem sorted_fcs (hd : d.ok) {l : List (List Nat)} (hp : l.Perm (foundL d)) (hs : l.Pairwise fun x y => lexL (keyL d.wd.length y) (keyL d.wd.length x) = false) : l = fcs d := by
  have hp := hp.trans (found_perm hd)
  refine sorted_is hp (fac_pairwise (g := d.g) (w := d.wd) (i := 0) (y := turned d.n)) ?_
  refine List.Pairwise.imp_of_mem (fun {x y} hx hy h hb => ?_) hs
  have hxm : x ∈ fcs d := hp.mem_iff.mp hx
  rw [lex_bef (fac_bd hxm) hb] at h
  cases h
end
end Wk
set_option maxRecDepth 100000
set_option maxHeartbeats 1000000
set_option linter.all false
/-! W15: sorted(xs, key=f), the keys lists of ints that f's calls lay anew. -/
namespace Wk
open PySem PySem.Spec PySem.Calls PyProof.Rows PySem.W L2
/-- the key as data -/
def keyD (ns : List Int) : PyData := .list (ns.map PyData.int)
theorem reads_ints {h : Heap} : ∀ {ns : List Int} {its : List Value}, Vals (ns.map V.int) its → ReadsAll h its (ns.map PyData.int) []
  | [], _, r => by cases r; exact .nil
  | n :: ns, _, r => by
    cases r with
    | cons r t =>
      obtain ⟨tk, rfl⟩ := r
      exact ReadsAll.cons (as := []) (bs := []) (.int n tk) (reads_ints t)
theorem reads_key {X : Cx} {pins : List (Addr × Obj)} {σ : L2.St} {H : Hp} {s : Shared} {p : Addr} {ns : List Int} (I : Inv X pins σ H s) (h : SqL X.K H p (ns.map V.int)) : ∃ as, Reads s.heap (.ref p) (keyD ns) as := by
  obtain ⟨its, r, ⟨o, n, e, hc, _, hd⟩, hz⟩ := I.list h
  exact ⟨_, .list e hc hd (by simpa using reads_ints r)⟩
theorem alike_ints : ∀ ns ms : List Int, alikeAll (ns.map PyData.int) (ms.map PyData.int) = true
  | [], _ => by simp [alikeAll]
  | _ :: _, [] => by simp [alikeAll]
  | n :: ns, m :: ms => by simp [alikeAll, alike, alike_ints ns ms]
theorem alike_keys {β : Type} (k : β → List Int) (xs : List β) : AllAlike (xs.map fun x => keyD (k x)) := by
  intro d hd d' hd'
  obtain ⟨x, _, rfl⟩ := List.mem_map.mp hd
  obtain ⟨y, _, rfl⟩ := List.mem_map.mp hd'
  show alikeAll _ _ = true
  exact alike_ints _ _
theorem sortable_keys {β : Type} (k : β → List Int) (xs : List β) : Sortable (xs.map fun x => keyD (k x)) := by
  refine .inr fun d hd => ?_
  obtain ⟨x, _, rfl⟩ := List.mem_map.mp hd
  exact ⟨(fun z => nomatch z), (fun _ z => nomatch z)⟩
theorem depth_key : ∀ ns : List Int, (keyD ns).depth ≤ 3 := by
  intro ns
  have e : ∀ ns : List Int, PyData.depthAll (ns.map PyData.int) = 0 := fun ns => by
    induction ns with
    | nil => simp [PyData.depthAll]
    | cons n ns ih => simp [PyData.depthAll, PyData.depth, ih]
  have := e ns
  simp only [keyD, PyData.depth]
  omega
theorem each_of_vals : ∀ {xs : List V} {us : List Value}, Vals xs us → EachIs (fun u x => RelV x u) us xs
  | _, _, .nil => .nil
  | _, _, .cons r t => .cons r (each_of_vals t)
theorem vals_of_each : ∀ {us : List Value} {xs : List V}, EachIs (fun u x => RelV x u) us xs → Vals xs us
  | _, _, .nil => .nil
  | _, _, .cons r t => .cons r (vals_of_each t)
theorem sqL_on {K : PySem.W.Frag} {H H' : Hp} (e : ∀ b o, H b = some o → H' b = some o) {p : Addr} {xs : List V} (h : SqL K H p xs) : SqL K H' p xs := by
  rcases h with (h | ⟨o, h⟩) | h
  · exact .inl (.inl (e _ _ h))
  · exact .inl (.inr ⟨o, e _ _ h⟩)
  · exact .inr h
theorem each_map {α β γ : Type} {R : α → β → Prop} {R' : α → γ → Prop} (g : β → γ) (h : ∀ a b, R a b → R' a (g b)) : ∀ {as : List α} {bs : List β}, EachIs R as bs → EachIs R' as (bs.map g)
  | _, _, .nil => .nil
  | _, _, .cons r t => .cons (h _ _ r) (each_map g h t)
theorem sorted_by_lists {X : Cx} {pins : List (Addr × Obj)} {σ : L2.St} {H : Hp} {s : Shared} {l f : Addr} {xs : List V} {k : V → List Int} {fo : Obj} {Q : VK}
    (I : Inv X pins σ H s) (hs : SqL X.K H l xs) (hu : X.A.units + 5 < cLine) (hfo : s.heap.get? f = some fo) (hfn : H f = none) (hfr : f ∉ frs X.stack)
    (turn : ∀ (x : V) (v : Value) (H1 : Hp) (s1 : Shared), x ∈ xs → RelV x v → Inv X pins σ H1 s1 → (∀ b o, H b = some o → H1 b = some o) → s1.heap.get? f = some fo → H1 f = none →
      wpAny (model X.prog X.w) X.A.in1.in1 (call (.ref f) [v]) (fun u s2 => CE X.stack X.prog X.w H1 s1 (fun r H2 => (∀ b o, H1 b = some o → H2 b = some o) ∧ ∃ p, r = .ref p ∧ SqL X.K H2 p ((k x).map V.int)) u s2) (fun _ _ => False) s1)
    (q : ∀ p H2, (∀ b o, H b = some o → H2 b = some o) → H2 p = some (.lst (xs.mergeSort (dataLe false fun x => keyD (k x)))) → Q (.ref p) H2) :
    wpAny (model X.prog X.w) X.A (call (.builtin "sorted") [.ref l] [(Str.ofString "key", .ref f)]) (EP X pins σ Q) X.xe s := by
  obtain ⟨its, rv, hl, hz⟩ := I.list hs
  have hZ : its.length ≤ sizeLine := by rw [← rv.length]; exact hz
  have ev := each_of_vals rv
  refine sorted_of_sort hl.isList hZ (ksk_s1 _ _) (fun _ => ksk_l1 _ _) fun E' => ?_
  rw [ksk_t1]
  generalize ha : s.heap.objs.size + 1 = a
  have hat : (copyHeap s.heap its).get? a = some (seqObj "list" its.toArray 0) := by rw [← ha]; exact copyHeap_at s.heap its
  generalize hh0 : copyHeap s.heap its = h0 at hat ⊢
  have old0 : ∀ b o, s.heap.get? b = some o → h0.get? b = some o := fun b o e => by rw [← hh0]; exact copyHeap_old e
  have ha0 : a < h0.objs.size := Heap.lt_size hat
  have hna : s.heap.objs.size ≤ a := by omega
  obtain ⟨e1, ho1⟩ : ∃ e1, (h0.update a (Obj.mapSeq fun _ => (#[] : Array Value))).get? a = some (seqObj "list" #[] e1) := ⟨_, get?_update_seq hat fun _ => #[]⟩
  have hkS : ((h0.update a (Obj.mapSeq fun _ => (#[] : Array Value))).push (seqObj "tuple" its.toArray 0)).objs.size = h0.objs.size + 1 := by rw [size_push', Heap.size_update]
  unfold ksk_tree
  refine wpAny_bind (listItems_at hat rfl ?_)
  refine wpAny_bind (listUpdate_at hat rfl ?_ (by rw [List.size_toArray]; exact hZ) (Nat.zero_le _))
  refine wpAny_bind (seqEpoch_at ho1 rfl ?_)
  refine wpAny_bind (wpAny_newTuple ?_ (by show its.length ≤ _; exact hZ))
  refine wpAny_bind (wpAny_newList ?_ (Nat.zero_le _))
  refine wpAny_holding ?_
  show wpAny _ _ (ksk_rest a (.ref f) false its.toArray e1 (.ref ((h0.update a (Obj.mapSeq fun _ => (#[] : Array Value))).push (seqObj "tuple" its.toArray 0)).objs.size)) _ _
    { s with heap := ((h0.update a (Obj.mapSeq fun _ => (#[] : Array Value))).push (seqObj "tuple" its.toArray 0)).push (seqObj "list" #[] 0) }
  have nkS := Heap.get?_push_size ((h0.update a (Obj.mapSeq fun _ => (#[] : Array Value))).push (seqObj "tuple" its.toArray 0)) (o := seqObj "list" #[] 0) rfl
  have nA : (((h0.update a (Obj.mapSeq fun _ => (#[] : Array Value))).push (seqObj "tuple" its.toArray 0)).push (seqObj "list" #[] 0)).get? a = some (seqObj "list" #[] e1) :=
    Heap.get?_push_of_some _ (Heap.get?_push_of_some _ ho1)
  have old1 : ∀ b o, s.heap.get? b = some o → (((h0.update a (Obj.mapSeq fun _ => (#[] : Array Value))).push (seqObj "tuple" its.toArray 0)).push (seqObj "list" #[] 0)).get? b = some o := fun b o e => by
    have hb : b ≠ a := Nat.ne_of_lt (Nat.lt_of_lt_of_le (Heap.lt_size e) hna)
    exact Heap.get?_push_of_some _ (Heap.get?_push_of_some _ ((Heap.get?_update_ne _ _ _ _ hb).trans (old0 b o e)))
  rw [hkS] at nkS ⊢
  generalize hk' : h0.objs.size + 1 = kS at nkS ⊢
  generalize ((h0.update a (Obj.mapSeq fun _ => (#[] : Array Value))).push (seqObj "tuple" its.toArray 0)).push (seqObj "list" #[] 0) = h1 at nkS nA old1 ⊢
  have hka : kS ≠ a := by omega
  have hnk : s.heap.objs.size ≤ kS := by omega
  have I1 : Inv X pins σ H { s with heap := h1 } := I.kept (t' := s.toks) old1
  have fpA : ∀ H' : Hp, H' a = none → FpOk X pins H' a := fun H' hn => I.fpOk hna hn
  have fpK : ∀ H' : Hp, H' kS = none → FpOk X pins H' kS := fun H' hn => I.fpOk hnk hn
  have nofr : ∀ b, s.heap.objs.size ≤ b → b ∉ frs X.stack := fun b hb z => by
    rcases List.mem_cons.mp (I.stkSub _ z) with e | e
    · have h1 := I.lt
      rw [← e] at h1
      exact Nat.lt_irrefl _ (Nat.lt_of_lt_of_le h1 hb)
    · exact I.nofs hb e
  have fA := nofr a hna
  have fK := nofr kS hnk
  have n0A : H a = none := I.hok.fresh hna
  have n0K : H kS = none := I.hok.fresh hnk
  have fne : f ≠ kS := Nat.ne_of_lt (Nat.lt_of_lt_of_le (Heap.lt_size hfo) hnk)
  unfold ksk_rest
  refine wpAny_bind (wpAny_rule ?_)
  first
    | rw [List.forIn_toArray]
    | (rw [← Array.forIn_toList]; simp only [List.toList_toArray])
    | rw [← Array.forIn_toList]
  refine wpAny_bind (ksk_fold (fun i s' => ∃ H' kA e, Inv X pins σ H' s' ∧ (∀ b o, H b = some o → H' b = some o) ∧ s'.heap.get? f = some fo ∧ H' f = none ∧ H' kS = none ∧ H' a = none ∧
      s'.heap.get? kS = some (seqObj "list" kA e) ∧ s'.heap.get? a = some (seqObj "list" #[] e1) ∧ EachIs (fun v ns => ∃ p, v = .ref p ∧ SqL X.K H' p (ns.map V.int)) kA.toList ((xs.map k).take i)) its 0 _
    ⟨H, #[], 0, I1, fun _ _ e => e, old1 _ _ hfo, hfn, n0K, n0A, nkS, nA, by rw [List.take_zero]; exact EachIs.nil⟩ ?step ?done)
  case step =>
    rintro j v s' hv ⟨H', kA, e, I', eH, hf', hfn', nK, nA', gK, gA, hk⟩
    simp only [Nat.zero_add] at hk ⊢
    have hj : j < its.length := (List.getElem?_eq_some_iff.mp hv).1
    obtain ⟨x, hx⟩ : ∃ x, xs[j]? = some x := ⟨_, List.getElem?_eq_getElem (by rw [rv.length]; exact hj)⟩
    have rx : RelV x v := by
      obtain ⟨u, hu', r⟩ := rv.get hx
      rw [hv] at hu'
      rw [Option.some.inj hu']
      exact r
    have hz : kA.size ≤ its.length := by
      have h1 := hk.length
      rw [Array.length_toList, List.length_take, List.length_map] at h1
      omega
    refine wpAny_bind (wpAny_attempt (wpAny_mono (turn x v H' s' (List.mem_of_getElem? hx) rx I' eH hf' hfn') (fun u s2 he => ?_) fun _ _ hF => hF.elim))
    obtain ⟨r, H2, os, bare, un, hok, rr, eH2, p, rfl, hp⟩ := he
    obtain rfl : u = Value.ref p := rr
    have I2 : Inv X pins σ H2 s2 := by
      obtain ⟨hh, g, d, t, os'⟩ := s2
      obtain rfl : os' = s'.os := os
      exact I'.call (h' := hh) (g' := g) (d' := d) (t' := t) (ch := []) un hok bare (fun b z => absurd z (by simp))
    try dsimp only
    have gK2 : s2.heap.get? kS = some (seqObj "list" kA e) := un.keep kS _ gK nK fK (by simp)
    have gA2 : s2.heap.get? a = some (seqObj "list" #[] e1) := un.keep a _ gA nA' fA (by simp)
    have gf2 : s2.heap.get? f = some fo := un.keep f _ hf' hfn' hfr (by simp)
    have nK2 : H2 kS = none := un.free kS _ gK nK (by simp)
    have nA2 : H2 a = none := un.free a _ gA nA' (by simp)
    have nf2 : H2 f = none := un.free f _ hf' hfn' (by simp)
    have s1 := Heap.SameBut.update s2.heap kS (Obj.mapSeq (·.push (Value.ref p)))
    obtain ⟨c2, hc2⟩ : ∃ c2, (s2.heap.update kS (Obj.mapSeq (·.push (Value.ref p)))).get? kS = some (seqObj "list" (kA.push (.ref p)) c2) := ⟨_, get?_update_seq gK2 (·.push (Value.ref p))⟩
    have ek : (xs.map k).take (j + 1) = (xs.map k).take j ++ [k x] := by rw [List.take_add_one, List.getElem?_map, hx]; rfl
    have ea : (kA.push (Value.ref p)).toList = kA.toList ++ [.ref p] := by simp
    refine wpAny_bind (listUpdate_at gK2 rfl ?_ (Nat.le_trans hz hZ) (Nat.le_trans (Nat.le_of_eq (Array.size_push ..)) (Nat.succ_le_succ (Nat.le_trans hz hZ))))
    refine wpAny_pure ⟨rfl, H2, kA.push (.ref p), c2, ?_, fun b o e => eH2 b o (eH b o e), (s1.2 f fne).trans gf2, nf2, nK2, nA2, hc2, (s1.2 a hka.symm).trans gA2, ?_⟩
    · exact I2.turnedL (ch := [kS]) (t' := s2.toks) (fun b o hb e => (s1.2 b (by simpa using hb)).trans e) (fun b hb => by
        obtain rfl : b = kS := by simpa using hb
        exact fpK _ nK2)
    · rw [ea, ek]
      refine each_snoc (R := fun (v : Value) (ns : List Int) => ∃ p, v = Value.ref p ∧ SqL X.K H2 p (ns.map V.int)) ⟨p, rfl, hp⟩ ?_
      exact hk.mono fun u d ⟨p, e1, e2⟩ => ⟨p, e1, sqL_on eH2 e2⟩
  case done =>
    rintro s' ⟨H', kA, e, I', eH, hf', hfn', nK, nA', gK, gA, hk⟩
    have hlk : its.length = xs.length := rv.length.symm
    rw [List.take_of_length_le (by rw [List.length_map]; omega)] at hk
    have hk' : EachIs (fun v d => ∃ as, Reads s'.heap v d as) kA.toList (xs.map fun x => keyD (k x)) := by
      have e := each_map (R' := fun v d => ∃ as, Reads s'.heap v d as) keyD (fun v ns ⟨p, e1, e2⟩ => by rw [e1]; exact reads_key I' e2) hk
      rw [List.map_map] at e
      exact e
    have hsz : kA.size = its.length := by
      have h1 := hk.length
      rw [Array.length_toList, List.length_map] at h1
      omega
    try dsimp only
    refine wpAny_bind (listItems_at gK rfl ?_)
    obtain ⟨G, g1, g2⟩ := restrict s'.heap fun b => decide (b ≠ kS)
    have gk : ∀ b o, b ≠ kS → s'.heap.get? b = some o → G.get? b = some o := fun b o hb e => by
      rw [g1 b (decide_eq_true hb)]
      exact e
    have gks : G.get? kS = none := g2 kS (decide_eq_false fun z => z rfl)
    have gs : ∀ b o, G.get? b = some o → s'.heap.get? b = some o := fun b o e => by
      by_cases hb : b = kS
      · rw [hb, gks] at e
        cases e
      · rw [g1 b (decide_eq_true hb)] at e
        exact e
    refine keyH_end (κ := dataKind s'.heap (xs.map fun x => keyD (k x))) (h₁ := G) (fun b o _ e => gs b o e) gks gK gA hka
      (SortsAt.data hk' (alike_keys k xs) (sortable_keys k xs) fun d hd => ?_) hsz hZ fun h3 tk3 c k3 n3 => ⟨rfl, ?_⟩
    · obtain ⟨x, _, rfl⟩ := List.mem_map.mp hd
      have := depth_key (k x)
      show X.A.units + 1 + 1 + _ < _
      omega
    · have ko : KeyedOut false (xs.map fun x => keyD (k x)) its (sortVals (dataKind s'.heap (xs.map fun x => keyD (k x))) false kA.toList its) := ⟨_, _, alike_keys k xs, rfl, hk'⟩
      have eo := vals_of_each (keyedOut_each (fun x => keyD (k x)) ko ev)
      generalize sortVals (dataKind s'.heap (xs.map fun x => keyD (k x))) false kA.toList its = out at n3 eo
      obtain ⟨G2, g3, g4⟩ := restrict s'.heap fun b => decide (b ≠ kS ∧ b ≠ a)
      have IG : Inv X pins σ H' { s' with heap := G2 } := I'.turnedL (ch := [a, kS]) (t' := s'.toks) (fun b o hb e => by
          have hb' : b ≠ a ∧ b ≠ kS := by simpa using hb
          rw [g3 b (decide_eq_true ⟨hb'.2, hb'.1⟩)]
          exact e) (fun b hb => by
          have hb' : b = a ∨ b = kS := by simpa using hb
          rcases hb' with rfl | rfl
          · exact fpA _ nA'
          · exact fpK _ nK)
      have ga : G2.get? a = none := g4 a (decide_eq_false fun z => z.2 rfl)
      have hlen : (xs.mergeSort (dataLe false fun x => keyD (k x))).length ≤ sizeLine := by rw [List.length_mergeSort]; exact hz
      have I3 := IG.laidN (h' := h3) (t' := tk3) (a := a) (o := .lst (xs.mergeSort (dataLe false fun x => keyD (k x)))) (fun b u e => by
          by_cases hb : b ≠ kS ∧ b ≠ a
          · rw [g3 b (decide_eq_true hb)] at e
            exact k3 b u hb.2 (gk b u hb.1 e)
          · rw [g4 b (decide_eq_false hb)] at e
            cases e) ga nA' ⟨hlen, _, c, eo, n3⟩
      refine ⟨.ref a, _, I3, rfl, q a _ (fun b o e => ?_) upd_same⟩
      rw [upd_ne (fun z => by rw [z, n0A] at e; cases e)]
      exact eH b o e
end Wk
set_option Elab.async false
set_option linter.all false
set_option maxRecDepth 100000
set_option maxHeartbeats 2000000
/-! W16: the lambda of _law_greatest: its own cell, a captured cell. -/
namespace Wk
open PySem PySem.Spec PySem.Calls PyProof.Rows L2
abbrev xL : Str := "_law_lot_here"
abbrev yW : Str := "_law_word_here"
/-- the lambda's parts -/
abbrev lamE : Expr := match (defBody s__law_greatest).getD 3 (.Pass ⟨0, 0, 0, 0⟩) with
  | .Return (some (.Call _ _ [k] _)) _ => k.value
  | _ => .Constant .none 0 ⟨0, 0, 0, 0⟩
abbrev lamP : Arguments := match lamE with
  | .Lambda p _ _ _ => p
  | _ => defArgs s__law_greatest
abbrev lamB : Expr := match lamE with
  | .Lambda _ b _ _ => b
  | _ => .Constant .none 0 ⟨0, 0, 0, 0⟩
abbrev lamS : Scope := match lamE with
  | .Lambda _ _ s _ => s
  | _ => defScope s__law_greatest
theorem lamS_names : lamS.names = [(xL, .cell), (yW, .free), ("range", .globalImplicit), ("len", .globalImplicit)] := by rfl
theorem lamS_kind : lamS.kind = .function := by rfl
abbrev kEnv (q : Str) (L f c' c : Addr) : Env := PySem.W.envX (q ++ "<lambda>") lamS L f (.ref c') [(xL, L + 1), (yW, c)]
abbrev NK : List Str := [xL, yW, "_law_place"]
theorem ndNK : NK.Nodup := by decide +kernel
/-- the context of the lambda's body -/
def kCx (P : Program) (w : World) (K : PySem.W.Frag) (mg : Str → Option Value) (base : Heap) (q : Str) (A : Around) (outer : List Env) (s : Shared) (H : Hp) (f c' c : Addr) : Cx where
  prog := P
  w := w
  K := K
  mg := mg
  base := base
  A := A.deeper (kEnv q s.heap.objs.size f c' c)
  N := NK
  s_0 := s
  H_0 := H
  env := kEnv q s.heap.objs.size f c' c
  outer := outer
  stack := kEnv q s.heap.objs.size f c' c :: outer
  ex := []
  fn := fun _ => false
  calm := true
  pn := []
  xe := fun e s' => wpAny (model P w) (A.deeper (kEnv q s.heap.objs.size f c' c)) (leaving (kEnv q s.heap.objs.size f c' c) e) (fun _ _ => False) (fun _ _ => False) s'
theorem look2 {x y z : Str} {a b c : Addr} (h : List.lookup z [(x, a), (y, b)] = some c) : (z = x ∧ c = a) ∨ (z = y ∧ c = b) := by
  have q := PySem.mem_of_lookup h
  simp only [List.mem_cons, Prod.mk.injEq, List.not_mem_nil, or_false] at q
  exact q
theorem look2y {a b : Addr} : List.lookup yW [(xL, a), (yW, b)] = some b := by
  have h : (yW == xL) = false := by decide +kernel
  rw [List.lookup_cons, h]
  simp [List.lookup]
theorem look2x {a b : Addr} : List.lookup xL [(xL, a), (yW, b)] = some a := by simp [List.lookup]
section
variable {P : Program} {w : World} {K : PySem.W.Frag} {mg : Str → Option Value} {base : Heap} {A : Around} {outer : List Env} {s : Shared} {H : Hp} {q : Str} {f c' c : Addr}
theorem inv_startK {h₁ : Heap} {xv yv : V} {xu yu : Value} (hd : A.handled = none) (e0 : Env0 P w K mg base A outer s H) (rx : RelV xv xu) (ry : RelV yv yu) (hc : s.heap.IsCell c (some yu)) (hcH : H c = none)
    (hns : h₁.Ns s.heap.objs.size fun _ => none) (hcell : h₁.IsCell (s.heap.objs.size + 1) (some xu)) (kp : ∀ b o, s.heap.get? b = some o → h₁.get? b = some o) :
    Inv (kCx P w K mg base q A outer s H f c' c) [] [some xv, some yv, none] H { s with heap := h₁ } := by
  have noA : ∀ b : Addr, b ∉ (kCx P w K mg base q A outer s H f c' c).ex := fun b z => absurd (show b ∈ ([] : List Addr) from z) (by simp)
  have hlt : c < s.heap.objs.size := hc.lt
  have kx : lamS.names.lookup xL = some .cell := by rfl
  have ky : lamS.names.lookup yW = some .free := by rfl
  refine ⟨⟨e0.mod, lamS_kind, rfl, rfl, Nat.le_refl _, fun y z a h1 h2 => ?_, fun y hy => ?_, fun y a z _ => ?_, fun _ => hd, Around.frames_deeper e0.frames, .inr ⟨rfl, rfl⟩, fun b z => absurd z (noA b), e0.bs, e0.bsz, fun b _ _ => noA b,
      fun b z => absurd z (noA b), e0.funs, e0.frf⟩,
    rfl, e0.bare, Un.kept kp, ⟨_, hns, fun i y v e1 e2 e3 => ?_⟩, fun y a e => ?_, e0.hok.fresh (Nat.le_refl _), fun y a e => ?_, fun p hp => absurd (show p ∈ ([] : List (Addr × Obj)) ++ [] from hp) (by simp), e0.hok.kept kp, rfl⟩
  · rcases look2 h1 with ⟨r1, r2⟩ | ⟨r1, r2⟩ <;> rcases look2 h2 with ⟨r3, r4⟩ | ⟨r3, r4⟩
    · rw [r1, r3]
    · exact absurd (Nat.lt_of_lt_of_le hlt (Nat.le_succ _)) (by rw [← r4, r2]; exact Nat.lt_irrefl _)
    · exact absurd (Nat.lt_of_lt_of_le hlt (Nat.le_succ _)) (by rw [← r2, r4]; exact Nat.lt_irrefl _)
    · rw [r1, r3]
  · have hy : lamS.names.lookup y = some .cell ∨ lamS.names.lookup y = some .free := hy
    have : y = xL ∨ y = yW := by
      rw [lamS_names] at hy
      rcases hy with hy | hy
      · have q := PySem.mem_of_lookup hy
        simp only [List.mem_cons, Prod.mk.injEq, List.not_mem_nil, or_false, reduceCtorEq, and_false, and_true, false_or] at q
        exact .inl q
      · have q := PySem.mem_of_lookup hy
        simp only [List.mem_cons, Prod.mk.injEq, List.not_mem_nil, or_false, reduceCtorEq, and_false, and_true, false_or] at q
        exact .inr q
    rcases this with rfl | rfl
    · exact ⟨_, look2x⟩
    · exact ⟨_, look2y⟩
  · have z : false = true := z
    cases z
  · have e1 : NK[i]? = some y := e1
    match i, e1, e2 with
    | 0, e1, e2 =>
      obtain rfl : xL = y := Option.some.inj e1
      obtain rfl : xv = v := Option.some.inj (Option.some.inj e2)
      exact ⟨xu, rx, .inr ⟨.inl kx, _, look2x, hcell⟩⟩
    | 1, e1, e2 =>
      obtain rfl : yW = y := Option.some.inj e1
      obtain rfl : yv = v := Option.some.inj (Option.some.inj e2)
      exact ⟨yu, ry, .inr ⟨.inr ky, _, look2y, hc.keeps kp⟩⟩
    | 2, e1, e2 => cases Option.some.inj e2
    | i + 3, e1, e2 => cases e2
  · rcases look2 e with ⟨_, r⟩ | ⟨_, r⟩
    · rw [r]; exact ⟨_, hcell⟩
    · rw [r]; exact ⟨_, hc.keeps kp⟩
  · rcases look2 e with ⟨_, r⟩ | ⟨_, r⟩
    · rw [r]; exact e0.hok.fresh (Nat.le_succ _)
    · rw [r]; exact hcH
theorem newEnvK {M : Model} {E : Value → Shared → Prop} {qual : Str} {func : Option Addr} {code : Value} {v : Value} {Q : Env → Shared → Prop}
    (hQ : ∀ h', h'.Ns s.heap.objs.size (fun _ => none) → h'.IsCell (s.heap.objs.size + 1) (some v) → (∀ b o, s.heap.get? b = some o → h'.get? b = some o) →
      Q (newEnv lamS s.heap.objs.size mainGlobals [(xL, s.heap.objs.size + 1), (yW, c)] qual func code none builtinsNs) { s with heap := h' }) :
    wpAny M A (newFunctionEnv lamS mainGlobals [(yW, c)] [(xL, v)] qual func code none builtinsNs) Q E s := by
  simp only [newFunctionEnv, Option.isSome_none, Bool.false_eq_true, if_false]
  refine wpAny_bind (wpAny_alloc ?_)
  refine wpAny_bind (wpAny_layCells _ (fun name kind cells => by cases hkc : kind == NameKind.cell <;> simp [hkc]) _ _ _ _ ?_)
  rw [lamS_names]
  show wpAny M A _ Q E { s with heap := (s.heap.push { cls := .type "frame", data := .dict #[] }).push { cls := .type "cell", data := .cell none } }
  have hsz : (s.heap.push { cls := .type "frame", data := .dict #[] }).objs.size = s.heap.objs.size + 1 := Heap.size_push ..
  have ecl : cellsFrom (s.heap.push { cls := .type "frame", data := .dict #[] }).objs.size [(xL, .cell), (yW, .free), ("range", .globalImplicit), ("len", .globalImplicit)] [(yW, c)] = [(xL, s.heap.objs.size + 1), (yW, c)] := by
    rw [hsz]; rfl
  rw [show ({ s with heap := s.heap.push { cls := .type "frame", data := .dict #[] } } : Shared).heap.objs.size = (s.heap.push { cls := .type "frame", data := .dict #[] }).objs.size from rfl, ecl]
  have hv : ((s.heap.push { cls := .type "frame", data := .dict #[] }).push { cls := .type "cell", data := .cell none }).IsCell (s.heap.objs.size + 1) none := ⟨_, by rw [← hsz]; exact Heap.get?_push_size _ rfl, rfl⟩
  have hns : ((s.heap.push { cls := .type "frame", data := .dict #[] }).push { cls := .type "cell", data := .cell none }).Ns s.heap.objs.size (fun _ => none) := (Heap.Ns.new s.heap (.type "frame")).keeps fun b o e => Heap.get?_push_of_some _ e
  rw [List.forIn_cons]
  refine wpAny_bind (wpAny_bind (wpAny_bind (wpAny_storeName_cell (c := s.heap.objs.size + 1) lamS_kind (by rfl) look2x hv fun h' hc' hs' => ?_)))
  refine wpAny_pure ?_
  dsimp only
  rw [List.forIn_nil]
  refine wpAny_pure (wpAny_pure (hQ h' (hns.sameBut hs' (Nat.ne_of_lt (Nat.lt_succ_self _))) hc' fun b o e => ?_))
  have hb : b ≠ s.heap.objs.size + 1 := Nat.ne_of_lt (Nat.lt_succ_of_lt (Heap.lt_size e))
  exact (hs'.2 b hb).trans (Heap.get?_push_of_some _ (Heap.get?_push_of_some _ e))
end
theorem lam_binds (q : Str) (cl : List (Str × Addr)) (pm cv ctv v : Value) : bindArgs (PySem.W.kla_fn "<lambda>" q lamP lamB lamS cl pm cv ctv) ⟨[v], []⟩ = pure [(xL, v)] := by rfl
end Wk
set_option Elab.async false
set_option linter.all false
set_option maxRecDepth 100000
set_option maxHeartbeats 4000000
/-! W17: the lambda called. -/
namespace Wk
open PySem PySem.Spec PySem.Calls PyProof.Rows L2 Evl SSort
section
variable {P : Program} {w : World} {K : PySem.W.Frag} {mg : Str → Option Value} {base : Heap} {A : Around} {outer : List Env} {s : Shared} {H : Hp} {q : Str} {f c' c : Addr}
/-- the lambda's body: the lot as a row of 0 and 1 -/
theorem lam_body (C : Ctx K mg) {L : List Nat} {wd : List Nat} (hlen : wd.length ≤ 100) : ∃ t, PE (kCx P w K mg base q A outer s H f c' c) lamB t ∧
    ∀ {a b : V}, (ti (iv L)).h a H → (ti (iv wd)).h b H → EvR t [some a, some b, none] H (ls ((List.range wd.length).map fun k => ii (if has L k then 1 else 0))) := by
  refine ⟨_, (pe_lc (own := [("_law_place", 2)]) (g := gName 2) (tt := tYes) rfl ndNK (pi_range1 rfl C.g_range (pa_cons (pe_callB (kcall_len K) (by rfl) C.g_len PySem.boot_len (pa_cons (pv 1) pa_nil)) pa_nil)) (blkOk_by (own := [("_law_place", 2)]) (N := NK) (sc := lamS) (by decide +kernel)) (fun _ _ _ _ _ => pg_name (i := 2) ndNK rfl (Or.inl rfl)) (fun _ _ _ _ _ => pts_nil) (fun _ _ _ _ _ => (pe_callTy call_int1 (by rfl) C.g_int (by decide +kernel) (pa_cons (pe_cmpR (kin_seq K) (pv 2) (pv 0) (by rfl)) pa_nil)))), ?_⟩
  intro a b ha hb
  refine EvR.to (ev_lcR wd.length (fun k => ii (if has L k then 1 else 0)) (fun _ => true) (es1 ((ev_lenTi (ev_n rfl hb)).to (by rw [iv_len]))) (fun _ => im_ii) (by omega) fun k hk H1 e => body_n (fun _ => rfl) t_yes fun _ => ?_) (by rw [filter_yes])
  exact ev_intB (ev_inT (ev_n (R := nn k) rfl rfl) (ev_n rfl ((ti _).up e ha)))
end
theorem keyL_ii (m : Nat) (L : List Nat) : ((List.range m).map fun k => ii (if has L k then 1 else 0)) = (keyL m L).map ii := by
  unfold keyL
  rw [List.map_map]
  rfl
theorem lam_call {X : Cx} {pins : List (Addr × Obj)} {σ : L2.St} {H : Hp} {s : Shared} {f c' c : Addr} {k : Nat} {pm ctv : Value} {a b : V} {v yu : Value} {L wd : List Nat} (C : Ctx X.K X.mg) (I : Inv X pins σ H s) (hr : Room (k + 3) X.A)
    (of : s.heap.get? f = some (PySem.W.kla_obj "<lambda>" (X.env.qual ++ "<lambda>") lamP lamB lamS [(yW, c)] pm c' ctv)) (hco : H c' = some (LamX.CodeO c' (X.env.qual ++ "<lambda>")))
    (hcell : s.heap.IsCell c (some yu)) (hcH : H c = none) (rx : RelV a v) (ry : RelV b yu) (ha : (ti (iv L)).h a H) (hb : (ti (iv wd)).h b H) (hlen : wd.length ≤ 100) :
    wpAny (model X.prog X.w) X.A.in1.in1 (call (.ref f) [v]) (fun u s2 => CE X.stack X.prog X.w H s (fun r H2 => (∀ b o, H b = some o → H2 b = some o) ∧ ∃ p, r = .ref p ∧ SqL X.K H2 p ((keyL wd.length L).map V.int)) u s2) (fun _ _ => False) s := by
  have hr2 : Room (k + 1) X.A.in1.in1 := hr.in1.in1
  have e0 : Env0 X.prog X.w X.K X.mg X.base X.A.in1.in1 X.stack s H := I.env0.in1.in1
  have rc : codeAny (model X.prog X.w) X.A.in1.in1 (.call (.ref f) ⟨[v], []⟩) (CR (fun _ _ _ _ _ _ => False) X.stack X.prog X.w H s (fun r H2 => (∀ b o, H b = some o → H2 b = some o) ∧ ∃ p, r = .ref p ∧ SqL X.K H2 p ((keyL wd.length L).map V.int)) (fun _ _ _ => False)) s := by
    obtain ⟨⟨oc, vs, t, hoc, hdc, hvc⟩, _, _⟩ := I.hok c' _ hco
    refine PySem.W.kla_callFunE hr2.depth of rfl rfl rfl rfl ⟨c', oc, vs, t, rfl, hoc, hdc, hvc⟩ ?_
    rw [lam_binds]
    refine wpAny_pure (newEnvK fun h₁ hns hc1 kp => ⟨I.nolimit.keeps kp, ?_⟩)
    have J := inv_startK (q := X.env.qual) (f := f) (c' := c') hr2.hd e0 rx ry hcell hcH hns hc1 kp
    obtain ⟨t, ht, hv⟩ := lam_body (P := X.prog) (w := X.w) (K := X.K) (mg := X.mg) (base := X.base) (A := X.A.in1.in1) (outer := X.stack) (s := s) (H := H) (q := X.env.qual) (f := f) (c' := c') (c := c) C (L := L) (wd := wd) hlen
    have hq := hv ha hb H (Ex.refl H) (fun r H2 => (∀ b o, H b = some o → H2 b = some o) ∧ ∃ p, r = .ref p ∧ SqL X.K H2 p ((keyL wd.length L).map V.int)) fun r H2 e hr => by
      rw [keyL_ii] at hr
      obtain ⟨p, rfl, hp⟩ := ls_ii.mp hr
      exact ⟨e, p, rfl, SqL.of hp⟩
    refine PySem.W.kla_codeExpr (wpAny_mono (ht.run [] _ _ H _ J hq) (fun v s' hq => ?_) fun e s' hq => hq)
    obtain ⟨w', H', J', rv, q⟩ := hq
    exact ⟨w', H', J'.os, J'.bare, J'.base, J'.hok, rv, q⟩
  refine wpAny_call (codeAny_mono rc fun r s' hq => ?_)
  cases r with
  | error e => exact False.elim hq
  | ok fl =>
    cases fl with
    | ret u => exact hq
    | next => exact False.elim hq
    | brk => exact False.elim hq
    | cont => exact False.elim hq
end Wk
set_option Elab.async false
set_option linter.all false
set_option maxRecDepth 100000
set_option maxHeartbeats 4000000
/-! W18: sorted(found, key=lambda ..). -/
namespace Wk
open PySem PySem.Spec PySem.Calls PyProof.Rows PySem.W L2 Evl SSort
theorem toks_lex : ∀ ns ms : List Int, PyProof.Rows.lexLt itemOrd (keyToksAll (ns.map PyData.int)) (keyToksAll (ms.map PyData.int)) = lexL ns ms
  | [], [] => by simp [keyToksAll, PyProof.Rows.lexLt, lexL, itemLt]
  | [], m :: ms => by simp [keyToksAll, PyProof.Rows.lexLt, lexL, itemLt]
  | n :: ns, [] => by simp [keyToksAll, PyProof.Rows.lexLt, lexL, itemLt]
  | n :: ns, m :: ms => by
    have ih := toks_lex ns ms
    simp only [List.map_cons, keyToksAll, keyToks, List.cons_append, List.nil_append, PyProof.Rows.lexLt, lexL, ih, itemLt]
    by_cases h : n = m
    · subst h; simp
    · rw [if_neg h]
      by_cases h2 : n < m
      · simp [h2]
      · have : m < n := by omega
        simp [h2, this]
theorem dataLt_key (ns ms : List Int) : dataLt (keyD ns) (keyD ms) = lexL ns ms := by
  unfold dataLt keyD
  simp only [keyToks]
  exact toks_lex ns ms
theorem dataLe_key {β : Type} (k : β → List Int) (a b : β) : dataLe false (fun x => keyD (k x)) a b = !lexL (k b) (k a) := by
  show (!dataLt (keyD (k b)) (keyD (k a))) = _
  rw [dataLt_key]
theorem sort_keys {β : Type} (k : β → List Int) (xs : List β) : (xs.mergeSort (dataLe false fun x => keyD (k x))).Pairwise fun x y => lexL (k y) (k x) = false := by
  have T := sortLe_total (listOrd itemOrd) false fun x : β => keyToks (keyD (k x))
  refine List.Pairwise.imp (fun {a b} h => ?_) (List.pairwise_mergeSort (le := dataLe false fun x => keyD (k x)) T.trans (fun a b => by rw [Bool.or_eq_true]; exact T.total a b) xs)
  rw [dataLe_key] at h
  simpa using h
theorem ti_inj {L L' : List Nat} {v : V} {H : Hp} (h : (ti (iv L)).h v H) (h' : (ti (iv L')).h v H) : L = L' := by
  obtain ⟨a, rfl, h1⟩ := h
  obtain ⟨b, e, h2⟩ := h'
  cases e
  rw [h1] at h2
  have e : (iv L).map V.int = (iv L').map V.int := HO.tup.inj (Option.some.inj h2)
  exact iv_inj.mp ((List.map_inj_right (fun a b e => by cases e; rfl)).mp e)
theorem rels_lots : ∀ {Ls : List (List Nat)} {vs : List V} {H : Hp} {lo : V → List Nat}, (∀ v ∈ vs, ∀ L, (ti (iv L)).h v H → lo v = L) → Rels (Ls.map fun L => ti (iv L)) vs H → vs.map lo = Ls ∧ ∀ v ∈ vs, (ti (iv (lo v))).h v H
  | [], [], _, _, _, _ => ⟨rfl, fun _ h => nomatch h⟩
  | [], _ :: _, _, _, _, r => r.elim
  | _ :: _, [], _, _, _, r => r.elim
  | L :: Ls, v :: vs, H, lo, hu, ⟨h, r⟩ => by
    have e := hu v (.head _) L h
    obtain ⟨h1, h2⟩ := rels_lots (fun v hv => hu v (.tail _ hv)) r
    refine ⟨by rw [List.map_cons, e, h1], fun u hm => ?_⟩
    rcases List.mem_cons.mp hm with rfl | hm
    · rw [e]; exact h
    · exact h2 u hm
theorem lots_rels : ∀ {vs : List V} {H : Hp} {lo : V → List Nat}, (∀ v ∈ vs, (ti (iv (lo v))).h v H) → Rels ((vs.map lo).map fun L => ti (iv L)) vs H
  | [], _, _, _ => True.intro
  | v :: vs, _, _, h => ⟨h v (.head _), lots_rels fun u hu => h u (.tail _ hu)⟩
def tSK (T : List (Addr × Str)) (te : TE) : TE := fun σ H Q => te σ H fun v H1 => ∃ (b : V) (wd : List Nat) (Ls : List (List Nat)), σ[1]? = some (some b) ∧ wd.length ≤ 100 ∧ (ti (iv wd)).h b H1 ∧ (ls (Ls.map fun L => ti (iv L))).h v H1 ∧ LamX.Tabs T H1 ∧
  ∀ v' H2 out, LamX.ExtN H1 H2 → LamX.Tabs T H2 → List.Perm out Ls → out.Pairwise (fun x y => lexL (keyL wd.length y) (keyL wd.length x) = false) → (ls (out.map fun L => ti (iv L))).h v' H2 → Q v' H2
theorem pe_sortedKey {X : Cx} {T : List (Addr × Str)} {c P : Addr} {k : Nat} {x1 : Str} {p1 : Pos} {te : TE} {p pos lpos kpos : Pos} (C : Ctx X.K X.mg) (hr : Room (k + 3) X.A) (hg : Gl X "sorted") (hm : X.mg "sorted" = none) (ha : PE X (.Name x1 p1) te)
    (TB : LamX.TabB X.base X.mg c P) (hcode : X.env.code = .ref c) (hmT : (P, X.env.qual ++ "<lambda>") ∈ T) (hu : ∀ p ∈ T, p.1 = P → p.2 = X.env.qual ++ "<lambda>") (hN : X.N[1]? = some yW) (hyc : X.env.scope.names.lookup yW = some .cell)
    (hdef : defaultsOf lamP X.env = ([], []) := by rfl) (hb : bootBuiltins "sorted" = some (.builtin "sorted") := by decide +kernel) :
    PE X (.Call (.Name "sorted" p) [.Name x1 p1] [⟨some "key", .Lambda lamP lamB lamS lpos, kpos⟩] pos) (tSK T te) := by
  refine ⟨fun pins s σ H Q I h => ?_⟩
  refine wpAny_Call_Name_kw (ld_blt I hg hm hb ?_ (by decide) (by decide +kernel))
  let G : VK := fun v H1 => ∃ (b : V) (wd : List Nat) (Ls : List (List Nat)), σ[1]? = some (some b) ∧ wd.length ≤ 100 ∧ (ti (iv wd)).h b H1 ∧ (ls (Ls.map fun L => ti (iv L))).h v H1 ∧ LamX.Tabs T H1 ∧
    ∀ v' H2 out, LamX.ExtN H1 H2 → LamX.Tabs T H2 → List.Perm out Ls → out.Pairwise (fun x y => lexL (keyL wd.length y) (keyL wd.length x) = false) → (ls (out.map fun L => ti (iv L))).h v' H2 → Q v' H2
  refine PyProof.Rows.callWith_kw (thn ((pa_cons ha pa_nil).run pos pins s σ H (fun vs H1 => match vs with | [v] => G v H1 | _ => False) I h) fun us s1 ⟨vs, H1, I1, r1, q1⟩ => ?_) rfl rfl rfl rfl
  obtain ⟨v, rfl, b, wd, Ls, hs, hlen, hbw, hv, hT, hk⟩ : ∃ v, vs = [v] ∧ G v H1 := by
    match vs, q1 with
    | [v], q => exact ⟨v, rfl, q⟩
  obtain ⟨l, xs, rfl, hl, hx⟩ := hv
  obtain rfl : us = [Value.ref l] := by
    cases r1 with
    | cons r t => cases t; cases r; rfl
  obtain ⟨c0, hc0⟩ := I1.ok.has yW (.inl hyc)
  have ecl : cloFrom X.env.cells lamS.names [] = [(yW, c0)] := by
    rw [lamS_names]
    show [(yW, (X.env.cells.lookup yW).getD 0)] = _
    rw [hc0]; rfl
  show wpAny _ _ (evalAll ((do let v ← eval (.Lambda lamP lamB lamS lpos) X.env; standAt pos; pure v) :: [])) _ _ s1
  refine wpAny_evalAll_cons (wpAny_bind (LamX.lam_make2 I1 TB hcode hmT hu hT hdef (fun y hy e => ?_) fun f c' pm ctv H2 s2 I2 eN T2 hf hfn hfr hco => wpAny_bind (wpAny_standAt (wpAny_pure (wpAny_evalAll_nil ?_)))))
  · rw [lamS_names] at hy
    obtain ⟨y1, y2⟩ := y
    have e : y2 = .free := e
    subst e
    have : y1 = yW := by simpa using hy
    rw [this]
    exact ⟨c0, hc0⟩
  rw [ecl] at hf
  show wpAny _ _ (call (.builtin "sorted") [.ref l] [(Str.ofString "key", .ref f)]) _ _ s2
  have lup : ∀ {xs : List V}, H1 l = some (.lst xs) → H2 l = some (.lst xs) := fun h => eN _ _ h (fun ps z => by cases z)
  have tup : ∀ {ns : List Int} {v : V}, (ti ns).h v H1 → (ti ns).h v H2 := fun ⟨a, e, h⟩ => ⟨a, e, eN _ _ h (fun ps z => by cases z)⟩
  let lo : V → List Nat := fun v => open Classical in if q : ∃ L, (ti (iv L)).h v H1 then q.choose else []
  have hlo : ∀ v L, (ti (iv L)).h v H1 → lo v = L := fun v L h => by
    have q : ∃ L, (ti (iv L)).h v H1 := ⟨L, h⟩
    have e : lo v = q.choose := by
      show (open Classical in if q : ∃ L, (ti (iv L)).h v H1 then q.choose else []) = _
      rw [dif_pos q]
    rw [e]
    exact ti_inj q.choose_spec h
  obtain ⟨hmap, hel⟩ := rels_lots (lo := lo) (fun v _ L => hlo v L) hx
  refine sorted_by_lists (k := fun v => keyL wd.length (lo v)) I2 (SqL.of (lup hl)) (by have := hr.units; omega) hf hfn hfr (fun x v H3 s3 hx3 rx I3 e3 hf3 hfn3 => ?_) fun p H3 e3 hp => ?_
  · obtain ⟨m, _, hloc⟩ := I3.loc
    obtain ⟨u, ru, look⟩ := hloc 1 yW b hN hs (.inr (.inl hyc))
    rcases look with ⟨z, _⟩ | ⟨_, c1, h1, h2⟩
    · have z : X.env.scope.names.lookup yW = some .local := z
      rw [hyc] at z
      cases z
    · rw [hc0] at h1
      obtain rfl : c0 = c1 := Option.some.inj h1
      exact lam_call C I3 hr hf3 (e3 _ _ hco) h2 (I3.freeC _ _ hc0) rx ru ((ti _).up e3 (tup (hel x hx3))) ((ti _).up e3 (tup hbw)) hlen
  · have hperm : ((xs.mergeSort (dataLe false fun x => keyD (keyL wd.length (lo x)))).map lo).Perm Ls := by
      rw [← hmap]
      exact (List.mergeSort_perm xs _).map lo
    refine hk (.ref p) H3 ((xs.mergeSort (dataLe false fun x => keyD (keyL wd.length (lo x)))).map lo) (eN.trans (.of e3)) (T2.ext e3) hperm ?_ ⟨p, _, rfl, hp, lots_rels fun v hv => ?_⟩
    · rw [List.pairwise_map]
      exact sort_keys (fun x => keyL wd.length (lo x)) xs
    · exact (ti _).up e3 (tup (hel v ((List.mergeSort_perm xs _).mem_iff.mp hv)))
end Wk
set_option Elab.async false
set_option linter.all false
set_option maxRecDepth 100000
set_option maxHeartbeats 8000000
/-! W19: _law_greatest. -/
namespace Wk
open PySem PySem.Spec PyProof.Rows L2 Evl SSort
variable {P : Program} {w : World} {K : PySem.W.Frag} {mg : Str → Option Value} {base : Heap}
section
variable {σ : L2.St} {H : Hp} {ta tb te : TE}
theorem ev_catL {As Bs : List Rel} (ha : EvR ta σ H (ls As)) (hb : EvR tb σ H (ls Bs)) (hl : As.length + Bs.length ≤ 100000) : EvR (tOp rCat ta tb) σ H (ls (As ++ Bs)) :=
  ev_o ha hb fun x y H1 _ ⟨a, xs, hx, h1, r1⟩ ⟨b, ys, hy, h2, r2⟩ Q q => ⟨a, b, xs, ys, hx, hy, h1, h2, sz_of (by rw [← rels_len r1, ← rels_len r2]; exact hl), fun p hp => q _ _ (Ex.new hp) ⟨p, _, rfl, upd_same, (rels_app r1 r2).up (Ex.new hp)⟩⟩
theorem ev_max {ns : List Int} {m : Int} (h : EvR te σ H (ls (ns.map ii))) (hm : m ∈ ns) (hle : ∀ y ∈ ns, y ≤ m) : EvR (tCB (rMax K) (tCons te tNil)) σ H (ii m) := ev_cb (es1 h) fun vs H1 e hv Q q => by
  obtain ⟨v, rfl, hv2⟩ := rels1 hv
  obtain ⟨a, rfl, ha⟩ := ls_ii.mp hv2
  refine ⟨a, ns, rfl, SqL.of ha, List.length_pos_of_mem hm, fun m' hm' hle' => ?_⟩
  have e : m' = m := Int.le_antisymm (hle m' hm') (hle' m hm)
  rw [e]
  exact q _ H1 (Ex.refl _) rfl
end
theorem foldl_max : ∀ (l : List Nat) (a : Nat), (l.foldl max a = a ∨ l.foldl max a ∈ l) ∧ a ≤ l.foldl max a ∧ ∀ x ∈ l, x ≤ l.foldl max a
  | [], a => ⟨.inl rfl, Nat.le_refl _, fun _ h => nomatch h⟩
  | x :: l, a => by
    obtain ⟨h1, h2, h3⟩ := foldl_max l (max a x)
    rw [List.foldl_cons]
    refine ⟨?_, by omega, fun y hy => ?_⟩
    · rcases h1 with h | h
      · rw [h]
        by_cases q : a ≤ x
        · exact .inr (by rw [Nat.max_eq_right q]; exact .head _)
        · exact .inl (by omega)
      · exact .inr (.tail _ h)
    · rcases List.mem_cons.mp hy with rfl | hy
      · omega
      · exact h3 y hy
/-- the table of _law_greatest's code -/
abbrev tabT (K : PySem.W.Frag) : List (Addr × Str) := [((He.cT K d__law_greatest.at_).2, d__law_greatest.qual ++ ".<locals>." ++ "<lambda>")]
theorem tabT_u : ∀ p ∈ tabT K, p.1 = (He.cT K d__law_greatest.at_).2 → p.2 = d__law_greatest.qual ++ ".<locals>." ++ "<lambda>" := fun p hp _ => by
  rw [List.mem_singleton.mp hp]
theorem ok__law_greatest (C : Ctx K mg) (TB : LamX.TabB base mg (He.cT K d__law_greatest.at_).1 (He.cT K d__law_greatest.at_).2) : Ok P w K mg base 7 "_law_greatest" (He.fAd K d__law_greatest.at_) P__law_greatest [] (spGreat K (tabT K)) := by
  have O__law_subsets := ok__law_subsets (P := P) (w := w) (base := base) C
  have O__law_fine := ok__law_fine (P := P) (w := w) (base := base) C
  obtain ⟨fd, F⟩ := C.f__law_greatest
  refine ⟨C.a__law_greatest, fd, [], ?_, F.bindsN (fun _ _ _ _ _ _ us hl => match us, hl with | [_, _, _], _ => rfl), .nil, F.kp⟩
  obtain ⟨oc, od, dV, kV, doc, pm, an, cdv, ct, osl, rfl, lk, hcd, _, _⟩ := F.ex
  obtain ⟨c, rfl⟩ := He.codeIn_ref hcd
  have ec : (He.cT K d__law_greatest.at_).1 = c := He.codeOf_eq lk rfl
  rw [ec] at TB
  refine fn_of lk hcd sc__law_greatest (fun vs H Q E ⟨d, _, h, _⟩ => (rels_len h).symm) fun A outer s H vs Q E hr ⟨d, hd, hv, hT, hk⟩ => ?_
  obtain ⟨_, wv, gv, rfl, rfl, hwv, hgv⟩ := rels3 hv
  have hd' := hd
  obtain ⟨n1, n5, hW, hl, hg⟩ := hd'
  refine ⟨_, PSs.nox (pss_cons (ps_setLc (i := 3) (own := [("_law_lot_here", 4)]) (g := gName 4)  rfl sc__law_greatest.nd rfl rfl (sw_true rfl rfl rfl (by decide +kernel)) (kpi_list K (pcall O__law_subsets (hr.mono (by decide)) (pa_cons (pe_callB (kcall_len K) (by rfl) C.g_len PySem.boot_len (pa_cons (pv 1) pa_nil)) pa_nil))) (blkOk_by (own := [("_law_lot_here", 4)]) (N := N__law_greatest) (sc := defScope s__law_greatest) (by decide +kernel)) (fun _ _ _ _ _ => pg_name (i := 4) sc__law_greatest.nd rfl (Or.inl rfl)) (fun _ _ _ _ _ => (pts_one (pt_val (pcall O__law_fine (hr.mono (by decide)) (pa_cons (pv 0) (pa_cons (pv 1) (pa_cons (pv 2) (pa_cons (pv 4) pa_nil)))))))) (fun _ _ _ _ _ => (pv 4)))
    (pss_cons (ps_set (i := 5) sc__law_greatest.nd rfl (Or.inr rfl) (pe_callB (kcr_max K rfl) (by rfl) C.g_max (by decide +kernel) (pa_cons (pe_op op_cat (pe_lc (own := [("_law_lot_here", 4)]) (g := gName 4) (tt := tYes) rfl sc__law_greatest.nd (kpi_list K (pv 3)) (blkOk_by (own := [("_law_lot_here", 4)]) (N := N__law_greatest) (sc := defScope s__law_greatest) (by decide +kernel)) (fun _ _ _ _ _ => pg_name (i := 4) sc__law_greatest.nd rfl (Or.inl rfl)) (fun _ _ _ _ _ => pts_nil) (fun _ _ _ _ _ => (pe_callB (kcall_len K) (by rfl) C.g_len PySem.boot_len (pa_cons (pv 4) pa_nil)))) (pe_lst (pa_cons pe_int pa_nil))) pa_nil)))
    (pss_cons (ps_setLc (i := 6) (own := [("_law_lot_here", 4)]) (g := gName 4)  rfl sc__law_greatest.nd rfl rfl (sw_true rfl rfl rfl (by decide +kernel)) (kpi_list K (pv 3)) (blkOk_by (own := [("_law_lot_here", 4)]) (N := N__law_greatest) (sc := defScope s__law_greatest) (by decide +kernel)) (fun _ _ _ _ _ => pg_name (i := 4) sc__law_greatest.nd rfl (Or.inl rfl)) (fun _ _ _ _ _ => (pts_one (pt_cmpR op_eq (pe_callB (kcall_len K) (by rfl) C.g_len PySem.boot_len (pa_cons (pv 4) pa_nil)) (pv 5) (nomark _)))) (fun _ _ _ _ _ => (pv 4)))
    (pss_one (ps_ret (pe_sortedKey (T := tabT K) C hr (by rfl) C.g_sorted (pv 6) TB (by rfl) (List.mem_singleton.mpr rfl) tabT_u rfl rfl)))))), ?_⟩
  refine q_set (R := ls ((fineL d).map fun L => ti (iv L))) (ev_lcL (subs d.wd.length) (fun L => ti (iv L)) (fun L => ti (iv L)) (fineB d) (ev_call0 d.wd.length (es1 ((ev_lenTi (ev_n rfl hwv)).to (by rw [iv_len]))) rfl hl) (fun _ => im_ti) ?_ fun L hL xv H' e hxv => body_n (fun _ => rfl) (t_B (ev_call0 (d.n, d.wd, d.g, L) (es_cons (ev_n (R := nn d.n) rfl rfl) (es_cons (ev_n rfl ((ti _).up e hwv)) (es_cons (ev_n rfl ((ti _).up e hgv)) (es1 (ev_n rfl hxv))))) rfl ⟨hW, by show d.n ≤ 7; omega, hg.len⟩)) fun _ => ev_n rfl hxv) fun fv H1 e1 hfv => ?_
  · rw [subs_len]; exact Nat.le_trans (Nat.pow_le_pow_right (by decide) hl) (by decide)
  have hfl2 : (fineL d).length ≤ 512 := Nat.le_trans (List.length_filter_le _ _) (by rw [subs_len]; exact Nat.le_trans (Nat.pow_le_pow_right (by decide) hl) (by decide))
  obtain ⟨m1, m2, m3⟩ := foldl_max ((fineL d).map fun L => L.length) 0
  refine q_set (R := nn (mostL d)) (ev_max (ns := ((fineL d).map fun L => (L.length : Int)) ++ [0]) (EvR.to (ev_catL (EvR.to (ev_lcL (fineL d) (fun L => ti (iv L)) (fun L => nn L.length) (fun _ => true) (ev_n rfl hfv) (fun _ => im_nn) (by omega) fun L hL xv H' e hxv => body_n (fun _ => rfl) t_yes fun _ => (ev_lenTi (ev_n rfl hxv)).to (by rw [iv_len])) (by rw [filter_yes])) (ev_lst (es1 (ev_k (v := .int 0))) (by show 1 ≤ 100000; decide)) (by simp only [List.length_map, List.length_cons, List.length_nil]; omega)) (by simp only [List.map_append, List.map_map]; rfl)) (by
      rcases m1 with h | h
      · exact List.mem_append_right _ (by unfold mostL; rw [h]; exact .head _)
      · obtain ⟨L, hL, e⟩ := List.mem_map.mp h
        exact List.mem_append_left _ (List.mem_map.mpr ⟨L, hL, by unfold mostL; rw [← e]⟩)) (fun y hy => by
      rcases List.mem_append.mp hy with h | h
      · obtain ⟨L, hL, rfl⟩ := List.mem_map.mp h
        have := m3 L.length (List.mem_map.mpr ⟨L, hL, rfl⟩)
        unfold mostL; omega
      · rw [List.mem_singleton.mp h]; omega)) fun mv H2 e2 hmv => ?_
  have hfv2 := (ls _).up e2 hfv
  have hmv : mv = .int (mostL d : Int) := hmv
  subst hmv
  refine q_set (R := ls ((foundL d).map fun L => ti (iv L))) (ev_lcL (fineL d) (fun L => ti (iv L)) (fun L => ti (iv L)) (fun L => decide (L.length = mostL d)) (ev_n rfl hfv2) (fun _ => im_ti) (by omega) fun L hL xv H' e hxv => body_n (fun _ => rfl) (t_is (t_test (ev_eqI (a := (L.length : Int)) (b := (mostL d : Int)) ((ev_lenTi (ev_n rfl hxv)).to (by rw [iv_len]; rfl)) (ev_n (R := ii (mostL d : Int)) rfl rfl))) (by rw [decide_eq_decide]; exact Int.ofNat_inj)) fun _ => ev_n rfl hxv) fun uv H3 e3 huv => ?_
  have e13 : Ex H H3 := (e1.trans e2).trans e3
  refine ⟨uv, rfl, wv, d.wd, foundL d, rfl, by omega, (ti _).up e13 hwv, huv, hT.ext e13, fun v' H4 out eN T4 hp hs hr4 => ?_⟩
  rw [sorted_fcs hd hp hs] at hr4
  exact hk v' H4 ((LamX.ExtN.of e13).trans eN) T4 hr4
end Wk
set_option Elab.async false
set_option linter.all false
set_option maxRecDepth 100000
set_option maxHeartbeats 0
namespace Wk
open PySem PySem.Spec PyProof.Rows L2
def nm0 : List Str := [("__name__" : Str), ("SortError" : Str), ("BadCards" : Str), ("BadWord" : Str), ("BadLot" : Str), ("TooLong" : Str), ("BadGoal" : Str), ("TooMany" : Str), ("NotGreatest" : Str), ("Harms" : Str), ("MOST_CARDS" : Str), ("MOST_DEEDS" : Str), ("is_integer" : Str), ("is_from" : Str), ("need_cards" : Str), ("is_row_of" : Str), ("need_word" : Str), ("is_lot_of" : Str), ("need_lot" : Str), ("turned_row" : Str), ("exchanged" : Str), ("done" : Str), ("run_left" : Str), ("counts_below" : Str), ("lacks" : Str), ("need_goal" : Str), ("MOST_SHORT" : Str), ("MOST_LOTS" : Str), ("need_short" : Str), ("need_case" : Str), ("harmless" : Str), ("is_within" : Str), ("Table" : Str), ("table_of" : Str), ("need_few" : Str)]
def nm1 : List Str := [("need_greatest" : Str), ("need_harmless" : Str), ("pairs_met" : Str), ("partners" : Str), ("rising" : Str), ("fixed" : Str), ("stretch_of" : Str), ("above" : Str), ("_law_taken" : Str), ("_law_pick" : Str), ("_law_alike" : Str), ("_law_row" : Str), ("_law_word" : Str), ("_law_lot" : Str), ("_law_turned" : Str), ("_law_swap" : Str), ("_law_run" : Str), ("_law_end" : Str), ("_law_far" : Str), ("_law_subsets" : Str), ("_law_fine" : Str), ("_law_greatest" : Str), ("_law_goal" : Str), ("_law_case" : Str), ("_law_sorter" : Str), ("_law_partner" : Str)]
def nms : List Str := nm0 ++ nm1
abbrev hdR : PySem.W.OpenRow := PySem.W.OpenLaw.row PySem.Challenge.rw_sturdysort_k17_whole_stretches
def hdT : List He.Defn := [d__law_greatest.at_]
def hdX (_ : PySem.W.Frag) : Bool := true
abbrev hdK : PySem.W.Hook := He.hookX 5 fa fn [] hdT hdX
def hdO (s : PySem.W.SharedT) : He.AlX := He.obsX 5 fa fn [] hdT hdX (HandSHeadRun.getT s)
theorem hdO_eq (s : PySem.W.SharedT) : hdO s = hdK.obs s.abs := He.obsX_eq (HandSHeadRun.getT_eq s)
theorem hd_run (w : World) : HandSHeadRun.RunEq hdR (PySem.W.view hdR.prog [67]) hdK hdO 4000 nms w := by
  intro os
  kernel_rfl
theorem hd_ctx {w : World} {K : PySem.W.Frag} {h : Heap} {mg : Str → Option Value} (X : K.In h) (G : h.Ns mainGlobals mg) (c : He.SaysX fa fn [] hdT hdX w h K) : Ctx K mg :=
  ⟨c.t.d, fun {x} e => He.glo_ok X G e, fun {x} e => He.free_ok X G e, fun {x i} e => He.int_ok X G e⟩
theorem hd_law {l : PySem.W.OpenLaw} {w : World} {K : PySem.W.Frag} {h : Heap} {mg : Str → Option Value} {f : Addr} (X : K.In h) (G : h.Ns mainGlobals mg) (c : He.SaysX fa fn [] hdT hdX w h K) (hf : mg ("law" : Str) = some (.ref f)) :
    LamX.LawAtS l w K CX0 9 63 (P_law.getD 0 "") mg f h := by
  have C := hd_ctx X G c
  have ef := hf.symm.trans C.a_law
  cases ef
  obtain ⟨fd, FD⟩ := C.f_law
  have b := FunD.bindsA (ps := P_law) FD fun _ _ _ _ _ _ us hl => match us, hl with | [_], _ => rfl
  have one : ∀ p ∈ [He.cT K d__law_greatest.at_], p = He.cT K d__law_greatest.at_ := fun p hp => List.mem_singleton.mp hp
  refine ⟨fd, [He.cT K d__law_greatest.at_], spLaw K (tabT K), fun p hp => ?_, fun p hp => ?_, fun p hp => ?_, fun s v => b s [v] rfl, fun H a ns _ _ hT hS => ?_, fun base KB GB TB => ?_⟩
  · rw [one p hp]
    exact c.empty _ (.head _)
  · rw [one p hp]
    exact c.out _ (.head _)
  · rw [one p hp]
    exact PySem.W.codeHd_of_K X (c.hd _ (.head _))
  · exact ⟨a, ns, rfl, hS, fun p hp => by
      rw [List.mem_singleton.mp hp]
      exact LamX.TabS.nil (hT _ (.head _)), fun _ => rfl⟩
  · obtain ⟨fd', FD', hF⟩ := ok_law (P := l.prog) (w := w) (base := base) (fun d hd => facts d hd) C (ok__law_greatest C (TB _ (.head _)))
    obtain ⟨_, _, _, _, _, _, _, _, _, _, _, lk1, _⟩ := FD.ex
    obtain ⟨_, _, _, _, _, _, _, _, _, _, _, lk2, _⟩ := FD'.ex
    rw [lk1] at lk2
    have e : fd = fd' := by
      injection lk2 with q
      injection q with _ _ q3
      injection q3
    rw [e]
    exact hF
end Wk
set_option Elab.async false
set_option linter.all false
set_option maxRecDepth 100000
set_option maxHeartbeats 0
open PySem PySem.W PySem.Calls PyProof.Rows
theorem PySem.Challenge.cw_sturdysort_k17_whole_stretches_holds : PySem.Challenge.rw_sturdysort_k17_whole_stretches.Holds := by
  w_on; o_law
  refine HandSHeadRun.head_any (r := Wk.hdR) (q := view Wk.hdR.prog [67]) (H := Wk.hdK) (ob := Wk.hdO) (M := 4000) (loose := Wk.nms)
    (d := HandSHeadRun.topDef Wk.hdR.prog 67) (kwd := []) Wk.hdO_eq
    (by kernel_rfl) (fun s => by kernel_rfl) Wk.hd_run (by kernel_rfl) (by kernel_rfl) (by kernel_rfl) (by rfl) (by first | assumption | decide +kernel)
    (by decide +kernel) ⟨rfl, rfl, rfl, rfl, rfl, by decide +kernel⟩ ?hw ?hc
  case hw => w_witness2
  case hc =>
    refine LamX.walk_ofTsE (l := PySem.Challenge.rw_sturdysort_k17_whole_stretches) (n := 63) (k := 9) (x := Wk.P_law.getD 0 "") (CX := fun _ => L2.CX0)
      rfl (by decide) (by kernel_rfl) ⟨rfl, by decide, by decide⟩ ?F (fun _ _ _ _ _ z => z)
    intro w mg fA h Y G hmg0
    obtain ⟨K, KX, c⟩ := Y
    have hmg : mg ("law" : PySem.Str) = some (.ref fA) := by
      have e : (HandSHeadRun.topDef Wk.hdR.prog 67).name = ("law" : PySem.Str) := by kernel_rfl
      rw [← e]
      exact hmg0
    exact ⟨K, KX, Wk.hd_law KX G c hmg⟩
