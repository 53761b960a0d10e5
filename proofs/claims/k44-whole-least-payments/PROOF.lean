import PyProof.Rows.All
import Wide.All
import OpenK.AllK
import Wide.FinOn
import HandS.ForMost
import HandS.IsInst
import PySem.Challenge.RW_fairbourse_k44_whole_least_payments
set_option Elab.async false
set_option linter.all false
set_option maxRecDepth 100000
/-! Plain mathematics for the law k44: tables of debts, net amounts, the greedy payments. No Python here. -/
namespace K44

/-! ### lists of whole numbers by their places -/
theorem getD_set (l : List Int) (i j : Nat) (x : Int) (h : i < l.length) : (l.set i x).getD j 0 = if i = j then x else l.getD j 0 := by
  by_cases e : i = j
  · subst e
    rw [if_pos rfl, List.getD_eq_getElem?_getD, List.getElem?_set_self h]
    rfl
  · rw [if_neg e, List.getD_eq_getElem?_getD, List.getElem?_set_ne e, List.getD_eq_getElem?_getD]
theorem sum_set : ∀ (l : List Int) (i : Nat) (x : Int), i < l.length → (l.set i x).sum = l.sum - l.getD i 0 + x
  | [], i, x, h => absurd h (Nat.not_lt_zero _)
  | y :: l, 0, x, _ => by
    simp only [List.set_cons_zero, List.sum_cons, List.getD_cons_zero]
    omega
  | y :: l, i + 1, x, h => by
    have ih := sum_set l i x (Nat.lt_of_succ_lt_succ h)
    simp only [List.set_cons_succ, List.sum_cons, List.getD_cons_succ, ih]
    omega
/-- how many are not zero -/
def nz (l : List Int) : Nat := (l.map fun x => if x = 0 then 0 else 1).sum
theorem nz_set : ∀ (l : List Int) (i : Nat) (x : Int), i < l.length → nz (l.set i x) + (if l.getD i 0 = 0 then 0 else 1) = nz l + (if x = 0 then 0 else 1)
  | [], i, x, h => absurd h (Nat.not_lt_zero _)
  | y :: l, 0, x, _ => by
    simp only [nz, List.set_cons_zero, List.map_cons, List.sum_cons, List.getD_cons_zero]
    omega
  | y :: l, i + 1, x, h => by
    have ih := nz_set l i x (Nat.lt_of_succ_lt_succ h)
    simp only [nz, List.set_cons_succ, List.map_cons, List.sum_cons, List.getD_cons_succ] at ih ⊢
    omega
theorem nz_le : ∀ l : List Int, nz l ≤ l.length
  | [] => Nat.le_refl _
  | y :: l => by
    have ih := nz_le l
    simp only [nz, List.map_cons, List.sum_cons, List.length_cons] at ih ⊢
    split <;> omega
/-- the positive ones' sum -/
def posS (l : List Int) : Int := (l.map fun x => if x < 0 then 0 else x).sum
theorem posS_set : ∀ (l : List Int) (i : Nat) (x : Int), i < l.length → posS (l.set i x) = posS l - (if l.getD i 0 < 0 then 0 else l.getD i 0) + (if x < 0 then 0 else x)
  | [], i, x, h => absurd h (Nat.not_lt_zero _)
  | y :: l, 0, x, _ => by
    simp only [posS, List.set_cons_zero, List.map_cons, List.sum_cons, List.getD_cons_zero]
    omega
  | y :: l, i + 1, x, h => by
    have ih := posS_set l i x (Nat.lt_of_succ_lt_succ h)
    simp only [posS, List.set_cons_succ, List.map_cons, List.sum_cons, List.getD_cons_succ] at ih ⊢
    omega
theorem zero_of_nn : ∀ (l : List Int), (∀ i, i < l.length → 0 ≤ l.getD i 0) → l.sum = 0 → (∀ i, l.getD i 0 = 0) ∧ posS l = 0
  | [], _, _ => ⟨fun i => by simp, rfl⟩
  | y :: l, h, hs => by
    have hy : 0 ≤ y := h 0 (by simp)
    have hl : ∀ i, i < l.length → 0 ≤ l.getD i 0 := fun i hi => by
      have := h (i + 1) (by simp only [List.length_cons]; omega)
      rwa [List.getD_cons_succ] at this
    have hp : 0 ≤ l.sum := by
      clear h hs hy
      induction l with
      | nil => exact Int.le_refl _
      | cons z l ih =>
        have hz : 0 ≤ z := hl 0 (by simp)
        have := ih fun i hi => by
          have := hl (i + 1) (by simp only [List.length_cons]; omega)
          rwa [List.getD_cons_succ] at this
        rw [List.sum_cons]
        omega
    rw [List.sum_cons] at hs
    have y0 : y = 0 := by omega
    obtain ⟨a, b⟩ := zero_of_nn l hl (by omega)
    refine ⟨fun i => ?_, ?_⟩
    · cases i with
      | zero => rw [List.getD_cons_zero]; exact y0
      | succ i => rw [List.getD_cons_succ]; exact a i
    · unfold posS at b ⊢
      rw [List.map_cons, List.sum_cons, b, y0]
      rfl
theorem zero_of_np : ∀ (l : List Int), (∀ i, i < l.length → l.getD i 0 ≤ 0) → l.sum = 0 → (∀ i, l.getD i 0 = 0) ∧ posS l = 0
  | [], _, _ => ⟨fun i => by simp, rfl⟩
  | y :: l, h, hs => by
    have hy : y ≤ 0 := h 0 (by simp)
    have hl : ∀ i, i < l.length → l.getD i 0 ≤ 0 := fun i hi => by
      have := h (i + 1) (by simp only [List.length_cons]; omega)
      rwa [List.getD_cons_succ] at this
    have hp : l.sum ≤ 0 := by
      clear h hs hy
      induction l with
      | nil => exact Int.le_refl _
      | cons z l ih =>
        have hz : z ≤ 0 := hl 0 (by simp)
        have := ih fun i hi => by
          have := hl (i + 1) (by simp only [List.length_cons]; omega)
          rwa [List.getD_cons_succ] at this
        rw [List.sum_cons]
        omega
    rw [List.sum_cons] at hs
    have y0 : y = 0 := by omega
    obtain ⟨a, b⟩ := zero_of_np l hl (by omega)
    refine ⟨fun i => ?_, ?_⟩
    · cases i with
      | zero => rw [List.getD_cons_zero]; exact y0
      | succ i => rw [List.getD_cons_succ]; exact a i
    · unfold posS at b ⊢
      rw [List.map_cons, List.sum_cons, b, y0]
      rfl

/-! ### the greedy payments -/
abbrev Pay := Nat × Nat × Int
/-- the lesser of what the payer has to pay and what the receiver has to receive -/
def amt (o : List Int) (p r : Nat) : Int := if o.getD r 0 < -(o.getD p 0) then o.getD r 0 else -(o.getD p 0)
/-- the open amounts behind a payment -/
def paid (o : List Int) (p r : Nat) : List Int := (o.set p (o.getD p 0 + amt o p r)).set r ((o.set p (o.getD p 0 + amt o p r)).getD r 0 - amt o p r)
def go : Nat → List Int → Nat → Nat → List Pay
  | 0, _, _, _ => []
  | f + 1, o, p, r =>
    if p < o.length ∧ r < o.length then
      if 0 ≤ o.getD p 0 then go f o (p + 1) r
      else if o.getD r 0 ≤ 0 then go f o p (r + 1)
      else (p, r, amt o p r) :: go f (paid o p r) p r
    else []
def meas (o : List Int) (p r : Nat) : Nat := (o.length - p) + (o.length - r) + nz o
def compressL (o : List Int) : List Pay := go (3 * o.length) o 0 0
theorem meas0 (o : List Int) : meas o 0 0 ≤ 3 * o.length := by
  have := nz_le o
  unfold meas
  omega
theorem paid_len (o : List Int) (p r : Nat) : (paid o p r).length = o.length := by
  unfold paid
  rw [List.length_set, List.length_set]
theorem go_out {f : Nat} {o : List Int} {p r : Nat} (h : ¬ (p < o.length ∧ r < o.length)) : go f o p r = [] := by
  cases f with
  | zero => rfl
  | succ f =>
    unfold go
    rw [if_neg h]
theorem meas_pos {o : List Int} {p r m : Nat} (h : meas o p r ≤ m) (hp : p < o.length) : ∃ f, m = f + 1 := by
  cases m with
  | zero =>
    unfold meas at h
    omega
  | succ f => exact ⟨f, rfl⟩
theorem go_payer {f : Nat} {o : List Int} {p r : Nat} (hp : p < o.length) (hr : r < o.length) (h : 0 ≤ o.getD p 0) : go (f + 1) o p r = go f o (p + 1) r := by
  conv => lhs; unfold go
  rw [if_pos ⟨hp, hr⟩, if_pos h]
theorem go_receiver {f : Nat} {o : List Int} {p r : Nat} (hp : p < o.length) (hr : r < o.length) (h : ¬ 0 ≤ o.getD p 0) (h2 : o.getD r 0 ≤ 0) : go (f + 1) o p r = go f o p (r + 1) := by
  conv => lhs; unfold go
  rw [if_pos ⟨hp, hr⟩, if_neg h, if_pos h2]
theorem go_pay {f : Nat} {o : List Int} {p r : Nat} (hp : p < o.length) (hr : r < o.length) (h : ¬ 0 ≤ o.getD p 0) (h2 : ¬ o.getD r 0 ≤ 0) : go (f + 1) o p r = (p, r, amt o p r) :: go f (paid o p r) p r := by
  conv => lhs; unfold go
  rw [if_pos ⟨hp, hr⟩, if_neg h, if_neg h2]
theorem meas_payer {o : List Int} {p r f : Nat} (hp : p < o.length) (h : meas o p r ≤ f + 1) : meas o (p + 1) r ≤ f := by
  unfold meas at h ⊢
  omega
theorem meas_receiver {o : List Int} {p r f : Nat} (hr : r < o.length) (h : meas o p r ≤ f + 1) : meas o p (r + 1) ≤ f := by
  unfold meas at h ⊢
  omega
theorem pr_ne {o : List Int} {p r : Nat} (h : ¬ 0 ≤ o.getD p 0) (h2 : ¬ o.getD r 0 ≤ 0) : p ≠ r := fun e => by
  subst e
  omega
theorem paid_get {o : List Int} {p r : Nat} (hp : p < o.length) (hr : r < o.length) (hn : p ≠ r) (i : Nat) :
    (paid o p r).getD i 0 = o.getD i 0 + (if p = i then amt o p r else 0) - (if r = i then amt o p r else 0) := by
  unfold paid
  rw [getD_set _ _ _ _ (by rw [List.length_set]; exact hr), getD_set _ _ _ _ hp, getD_set _ _ _ _ hp, if_neg hn]
  by_cases h1 : r = i
  · subst h1
    rw [if_pos rfl, if_neg hn, if_pos rfl]
    omega
  · rw [if_neg h1, if_neg h1]
    by_cases h2 : p = i
    · subst h2
      rw [if_pos rfl, if_pos rfl]
      omega
    · rw [if_neg h2, if_neg h2]
      omega
theorem paid_nz {o : List Int} {p r : Nat} (hp : p < o.length) (hr : r < o.length) (h : ¬ 0 ≤ o.getD p 0) (h2 : ¬ o.getD r 0 ≤ 0) : nz (paid o p r) < nz o := by
  have hn := pr_ne h h2
  have a := nz_set o p (o.getD p 0 + amt o p r) hp
  have b := nz_set (o.set p (o.getD p 0 + amt o p r)) r ((o.set p (o.getD p 0 + amt o p r)).getD r 0 - amt o p r) (by rw [List.length_set]; exact hr)
  have e : (o.set p (o.getD p 0 + amt o p r)).getD r 0 = o.getD r 0 := by
    rw [getD_set _ _ _ _ hp, if_neg hn]
  rw [e] at b
  have e2 : nz (paid o p r) = nz ((o.set p (o.getD p 0 + amt o p r)).set r (o.getD r 0 - amt o p r)) := by
    unfold paid
    rw [e]
  rw [e2]
  have c : o.getD p 0 + amt o p r = 0 ∨ o.getD r 0 - amt o p r = 0 := by
    unfold amt
    split <;> omega
  rw [if_neg (show ¬ o.getD p 0 = 0 by omega)] at a
  rw [if_neg (show ¬ o.getD r 0 = 0 by omega)] at b
  rcases c with c | c
  · rw [if_pos c] at a
    split at b <;> omega
  · rw [if_pos c] at b
    split at a <;> omega
theorem meas_pay {o : List Int} {p r f : Nat} (hp : p < o.length) (hr : r < o.length) (h : ¬ 0 ≤ o.getD p 0) (h2 : ¬ o.getD r 0 ≤ 0) (hm : meas o p r ≤ f + 1) : meas (paid o p r) p r ≤ f := by
  have := paid_nz hp hr h h2
  unfold meas at hm ⊢
  rw [paid_len]
  omega

/-! ### what payments do to a house -/
def eff : List Pay → Nat → Int
  | [], _ => 0
  | q :: qs, i => (if q.2.1 = i then q.2.2 else 0) - (if q.1 = i then q.2.2 else 0) + eff qs i
def amounts (ps : List Pay) : Int := (ps.map fun q => q.2.2).sum
structure PayOk (n : Nat) (q : Pay) : Prop where
  p : q.1 < n
  r : q.2.1 < n
  ne : q.1 ≠ q.2.1
  nn : 0 ≤ q.2.2
theorem go_spec (n : Nat) : ∀ (f : Nat) (o : List Int) (p r : Nat), o.length = n → meas o p r ≤ f → p ≤ n → r ≤ n → (∀ i, i < p → 0 ≤ o.getD i 0) → (∀ i, i < r → o.getD i 0 ≤ 0) → o.sum = 0 →
    (∀ i, i < n → eff (go f o p r) i = o.getD i 0) ∧ amounts (go f o p r) = posS o ∧ ∀ q ∈ go f o p r, PayOk n q := by
  have last : ∀ (f : Nat) (o : List Int) (p r : Nat), o.length = n → ¬ (p < n ∧ r < n) → p ≤ n → r ≤ n → (∀ i, i < p → 0 ≤ o.getD i 0) → (∀ i, i < r → o.getD i 0 ≤ 0) → o.sum = 0 →
      (∀ i, i < n → eff (go f o p r) i = o.getD i 0) ∧ amounts (go f o p r) = posS o ∧ ∀ q ∈ go f o p r, PayOk n q := by
    intro f o p r hl hc hp hr h1 h2 h3
    rw [go_out (by rw [hl]; exact hc)]
    have z : (∀ i, o.getD i 0 = 0) ∧ posS o = 0 := by
      by_cases e : p < n
      · have er : r = n := by omega
        exact zero_of_np o (fun i hi => h2 i (by omega)) h3
      · exact zero_of_nn o (fun i hi => h1 i (by omega)) h3
    exact ⟨fun i _ => (z.1 i).symm, z.2.symm, fun q hq => nomatch hq⟩
  intro f
  induction f with
  | zero =>
    intro o p r hl hm hp hr h1 h2 h3
    refine last 0 o p r hl (fun hc => ?_) hp hr h1 h2 h3
    unfold meas at hm
    omega
  | succ f ih =>
    intro o p r hl hm hp hr h1 h2 h3
    by_cases hc : p < n ∧ r < n
    · obtain ⟨cp, cr⟩ := hc
      rw [← hl] at cp cr
      by_cases a : 0 ≤ o.getD p 0
      · rw [go_payer cp cr a]
        refine ih o (p + 1) r hl (meas_payer cp hm) (by omega) hr (fun i hi => ?_) h2 h3
        by_cases e : i = p
        · rw [e]; exact a
        · exact h1 i (by omega)
      · by_cases b : o.getD r 0 ≤ 0
        · rw [go_receiver cp cr a b]
          refine ih o p (r + 1) hl (meas_receiver cr hm) hp (by omega) h1 (fun i hi => ?_) h3
          by_cases e : i = r
          · rw [e]; exact b
          · exact h2 i (by omega)
        · rw [go_pay cp cr a b]
          have hn := pr_ne a b
          have g := paid_get cp cr hn
          have am0 : 0 ≤ amt o p r := by
            unfold amt
            split <;> omega
          have am1 : amt o p r ≤ -(o.getD p 0) := by
            unfold amt
            split <;> omega
          have am2 : amt o p r ≤ o.getD r 0 := by
            unfold amt
            split <;> omega
          have e1 : (o.set p (o.getD p 0 + amt o p r)).getD r 0 = o.getD r 0 := by
            rw [getD_set _ _ _ _ cp, if_neg hn]
          have s3 : (paid o p r).sum = 0 := by
            unfold paid
            rw [sum_set _ _ _ (by rw [List.length_set]; exact cr), sum_set _ _ _ cp, h3]
            omega
          have w1 : ∀ i, i < p → 0 ≤ (paid o p r).getD i 0 := fun i hi => by
            rw [g i]
            have := h1 i hi
            rw [if_neg (show ¬ p = i by omega)]
            by_cases e : r = i
            · subst e
              rw [if_pos rfl]
              omega
            · rw [if_neg e]
              omega
          have w2 : ∀ i, i < r → (paid o p r).getD i 0 ≤ 0 := fun i hi => by
            rw [g i]
            have := h2 i hi
            rw [if_neg (show ¬ r = i by omega)]
            by_cases e : p = i
            · subst e
              rw [if_pos rfl]
              omega
            · rw [if_neg e]
              omega
          obtain ⟨q1, q2, q3⟩ := ih (paid o p r) p r (by rw [paid_len]; exact hl) (meas_pay cp cr a b hm) hp hr w1 w2 s3
          refine ⟨fun i hi => ?_, ?_, fun q hq => ?_⟩
          · show (if r = i then amt o p r else 0) - (if p = i then amt o p r else 0) + eff (go f (paid o p r) p r) i = _
            rw [q1 i hi, g i]
            omega
          · show ((p, r, amt o p r).2.2 :: (go f (paid o p r) p r).map fun q => q.2.2).sum = _
            rw [List.sum_cons]
            have q2' : ((go f (paid o p r) p r).map fun q => q.2.2).sum = posS (paid o p r) := q2
            rw [q2']
            unfold paid
            rw [posS_set _ _ _ (by rw [List.length_set]; exact cr), posS_set _ _ _ cp, e1]
            rw [if_pos (show o.getD p 0 < 0 by omega), if_neg (show ¬ o.getD r 0 < 0 by omega), if_neg (show ¬ o.getD r 0 - amt o p r < 0 by omega)]
            show amt o p r + _ = _
            split <;> omega
          · rcases List.mem_cons.mp hq with e | hq
            · subst e
              exact ⟨by show p < n; omega, by show r < n; omega, hn, am0⟩
            · exact q3 q hq
    · exact last (f + 1) o p r hl hc hp hr h1 h2 h3
theorem compress_spec (o : List Int) (h : o.sum = 0) : (∀ i, i < o.length → eff (compressL o) i = o.getD i 0) ∧ amounts (compressL o) = posS o ∧ ∀ q ∈ compressL o, PayOk o.length q :=
  go_spec o.length (3 * o.length) o 0 0 rfl (meas0 o) (Nat.zero_le _) (Nat.zero_le _) (fun i hi => absurd hi (Nat.not_lt_zero _)) (fun i hi => absurd hi (Nat.not_lt_zero _)) h

/-! ### tables -/
abbrev Tbl := List (List Int)
def colS (t : Tbl) (j : Nat) : Int := (t.map fun r => r.getD j 0).sum
def rowS (t : Tbl) (i : Nat) : Int := (t.getD i []).sum
def net (t : Tbl) (i : Nat) : Int := colS t i - rowS t i
def netsL (t : Tbl) : List Int := (List.range t.length).map (net t)
def tot (t : Tbl) : Int := (t.map List.sum).sum
structure Tab (n : Nat) (t : Tbl) : Prop where
  len : t.length = n
  row : ∀ r ∈ t, r.length = n
  nn : ∀ r ∈ t, ∀ x ∈ r, 0 ≤ x
  dia : ∀ i, i < n → (t.getD i []).getD i 0 = 0
def Most (m : Int) (t : Tbl) : Prop := ∀ r ∈ t, ∀ x ∈ r, x ≤ m
theorem netsL_len (t : Tbl) : (netsL t).length = t.length := by
  unfold netsL
  rw [List.length_map, List.length_range]
theorem netsL_get (t : Tbl) (i : Nat) (h : i < t.length) : (netsL t).getD i 0 = net t i := by
  unfold netsL
  rw [List.getD_eq_getElem?_getD, List.getElem?_map, List.getElem?_range h]
  rfl
theorem netsL_ext {t u : Tbl} (hl : t.length = u.length) (h : ∀ i, i < t.length → net t i = net u i) : netsL t = netsL u := by
  unfold netsL
  rw [← hl]
  refine List.map_congr_left fun i hi => h i (List.mem_range.mp hi)
/-- a row's places add up to it -/
theorem sum_places : ∀ (r : List Int), ((List.range r.length).map fun j => r.getD j 0).sum = r.sum
  | [] => rfl
  | x :: r => by
    rw [List.length_cons, List.range_succ_eq_map, List.map_cons, List.sum_cons, List.map_map, List.sum_cons, ← sum_places r]
    rfl
theorem sum_add (l : List Nat) (f g : Nat → Int) : (l.map fun j => f j + g j).sum = (l.map f).sum + (l.map g).sum := by
  induction l with
  | nil => rfl
  | cons a l ih =>
    simp only [List.map_cons, List.sum_cons, ih]
    omega
theorem sum_sub (l : List Nat) (f g : Nat → Int) : (l.map fun j => f j - g j).sum = (l.map f).sum - (l.map g).sum := by
  induction l with
  | nil => rfl
  | cons a l ih =>
    simp only [List.map_cons, List.sum_cons, ih]
    omega
theorem sum_zero (l : List Nat) : (l.map fun _ => (0 : Int)).sum = 0 := by
  induction l with
  | nil => rfl
  | cons a l ih =>
    simp only [List.map_cons, List.sum_cons, ih]
    rfl
theorem sum_cols (n : Nat) : ∀ (t : Tbl), (∀ r ∈ t, r.length = n) → ((List.range n).map (colS t)).sum = tot t
  | [], _ => sum_zero _
  | r :: t, h => by
    have ih := sum_cols n t fun q hq => h q (List.mem_cons_of_mem _ hq)
    have hr : r.length = n := h r List.mem_cons_self
    have e : (fun j => colS (r :: t) j) = fun j => r.getD j 0 + colS t j := by
      funext j
      unfold colS
      rw [List.map_cons, List.sum_cons]
    show ((List.range n).map fun j => colS (r :: t) j).sum = _
    rw [e, sum_add, show ((List.range n).map (colS t)).sum = tot t from ih, ← hr, sum_places]
    unfold tot
    rw [List.map_cons, List.sum_cons]
theorem sum_rows : ∀ (t : Tbl), ((List.range t.length).map (rowS t)).sum = tot t
  | [] => rfl
  | r :: t => by
    have ih := sum_rows t
    rw [List.length_cons, List.range_succ_eq_map, List.map_cons, List.sum_cons, List.map_map]
    unfold tot at ih ⊢
    rw [List.map_cons, List.sum_cons, ← ih]
    rfl
theorem nets_zero {n : Nat} {t : Tbl} (T : Tab n t) : (netsL t).sum = 0 := by
  unfold netsL
  show ((List.range t.length).map fun i => colS t i - rowS t i).sum = 0
  rw [sum_sub, show ((List.range t.length).map fun i => rowS t i).sum = tot t from sum_rows t]
  have := sum_cols n t T.row
  rw [← T.len] at this
  rw [show ((List.range t.length).map fun i => colS t i).sum = tot t from this]
  omega
theorem sum_nn {l : List Int} (h : ∀ x ∈ l, 0 ≤ x) : 0 ≤ l.sum := by
  induction l with
  | nil => exact Int.le_refl _
  | cons a l ih =>
    have h1 := h a List.mem_cons_self
    have h2 := ih fun x hx => h x (List.mem_cons_of_mem _ hx)
    rw [List.sum_cons]
    omega
theorem getD_nn {l : List Int} (h : ∀ x ∈ l, 0 ≤ x) (j : Nat) : 0 ≤ l.getD j 0 := by
  rw [List.getD_eq_getElem?_getD]
  cases e : l[j]? with
  | none => exact Int.le_refl _
  | some x => exact h x (List.mem_of_getElem? e)
theorem row_mem {t : Tbl} {i : Nat} (h : i < t.length) : t.getD i [] ∈ t := by
  rw [List.getD_eq_getElem?_getD, List.getElem?_eq_getElem h]
  exact List.getElem_mem h
/-- no table pays less than the positive net amounts -/
theorem posS_le {n : Nat} {t : Tbl} (T : Tab n t) : posS (netsL t) ≤ tot t := by
  have e := sum_cols n t T.row
  rw [← e, ← T.len]
  unfold posS netsL
  rw [List.map_map]
  have : ∀ l : List Nat, (∀ i ∈ l, i < t.length) → (l.map ((fun x => if x < 0 then 0 else x) ∘ net t)).sum ≤ (l.map (colS t)).sum := by
    intro l
    induction l with
    | nil => intro _; exact Int.le_refl _
    | cons a l ih =>
      intro hl
      have h1 := ih fun i hi => hl i (List.mem_cons_of_mem _ hi)
      have ha : a < t.length := hl a List.mem_cons_self
      have c0 : 0 ≤ colS t a := by
        unfold colS
        refine sum_nn fun x hx => ?_
        obtain ⟨r, hr, rfl⟩ := List.mem_map.mp hx
        exact getD_nn (T.nn r hr) a
      have r0 : 0 ≤ rowS t a := sum_nn (T.nn _ (row_mem ha))
      simp only [List.map_cons, List.sum_cons, Function.comp]
      have : (if net t a < 0 then 0 else net t a) ≤ colS t a := by
        unfold net
        split <;> omega
      omega
  exact this _ fun i hi => List.mem_range.mp hi

/-! ### a debt more -/
def addT (t : Tbl) (a b : Nat) (x : Int) : Tbl := t.set a ((t.getD a []).set b ((t.getD a []).getD b 0 + x))
theorem addT_len (t : Tbl) (a b : Nat) (x : Int) : (addT t a b x).length = t.length := by
  unfold addT
  rw [List.length_set]
theorem getT_set (t : Tbl) (i j : Nat) (r : List Int) (h : i < t.length) : (t.set i r).getD j [] = if i = j then r else t.getD j [] := by
  by_cases e : i = j
  · subst e
    rw [if_pos rfl, List.getD_eq_getElem?_getD, List.getElem?_set_self h]
    rfl
  · rw [if_neg e, List.getD_eq_getElem?_getD, List.getElem?_set_ne e, List.getD_eq_getElem?_getD]
theorem colS_set : ∀ (t : Tbl) (a : Nat) (r : List Int) (j : Nat), a < t.length → colS (t.set a r) j = colS t j - (t.getD a []).getD j 0 + r.getD j 0
  | [], a, r, j, h => absurd h (Nat.not_lt_zero _)
  | q :: t, 0, r, j, _ => by
    simp only [colS, List.set_cons_zero, List.map_cons, List.sum_cons, List.getD_cons_zero]
    omega
  | q :: t, a + 1, r, j, h => by
    have ih := colS_set t a r j (Nat.lt_of_succ_lt_succ h)
    simp only [colS, List.set_cons_succ, List.map_cons, List.sum_cons, List.getD_cons_succ] at ih ⊢
    omega
theorem net_addT {n : Nat} {t : Tbl} (T : Tab n t) {a b : Nat} (ha : a < n) (hb : b < n) (x : Int) (i : Nat) :
    net (addT t a b x) i = net t i + (if b = i then x else 0) - (if a = i then x else 0) := by
  have la : a < t.length := by rw [T.len]; exact ha
  have lr : (t.getD a []).length = n := T.row _ (row_mem la)
  unfold net addT rowS
  rw [colS_set _ _ _ _ la, getD_set _ _ _ _ (by rw [lr]; exact hb), getT_set _ _ _ _ la]
  by_cases e : a = i
  · subst e
    rw [if_pos rfl, sum_set _ _ _ (by rw [lr]; exact hb), if_pos rfl]
    by_cases e2 : b = a
    · subst e2
      rw [if_pos rfl, if_pos rfl]
      omega
    · rw [if_neg e2, if_neg e2]
      omega
  · rw [if_neg e, if_neg e]
    by_cases e2 : b = i
    · subst e2
      rw [if_pos rfl, if_pos rfl]
      omega
    · rw [if_neg e2, if_neg e2]
      omega
theorem Tab.addT {n : Nat} {t : Tbl} (T : Tab n t) {a b : Nat} (ha : a < n) (hb : b < n) (hab : a ≠ b) {x : Int} (hx : 0 ≤ x) : Tab n (addT t a b x) := by
  have la : a < t.length := by rw [T.len]; exact ha
  have lr : (t.getD a []).length = n := T.row _ (row_mem la)
  refine ⟨by rw [addT_len]; exact T.len, fun r hr => ?_, fun r hr y hy => ?_, fun i hi => ?_⟩
  · unfold K44.addT at hr
    rcases List.mem_or_eq_of_mem_set hr with h | h
    · exact T.row r h
    · rw [h, List.length_set]
      exact lr
  · unfold K44.addT at hr
    rcases List.mem_or_eq_of_mem_set hr with h | h
    · exact T.nn r h y hy
    · rw [h] at hy
      rcases List.mem_or_eq_of_mem_set hy with h2 | h2
      · exact T.nn _ (row_mem la) y h2
      · rw [h2]
        have := getD_nn (T.nn _ (row_mem la)) b
        omega
  · unfold K44.addT
    rw [getT_set _ _ _ _ la]
    by_cases e : a = i
    · subst e
      rw [if_pos rfl, getD_set _ _ _ _ (by rw [lr]; exact hb), if_neg (Ne.symm hab)]
      exact T.dia a hi
    · rw [if_neg e]
      exact T.dia i hi
def addAll (t : Tbl) (ps : List Pay) : Tbl := ps.foldl (fun t q => addT t q.1 q.2.1 q.2.2) t
theorem addAll_snoc (t : Tbl) (ps : List Pay) (q : Pay) : addAll t (ps ++ [q]) = addT (addAll t ps) q.1 q.2.1 q.2.2 := by
  unfold addAll
  rw [List.foldl_append]
  rfl
theorem addAll_spec (n : Nat) : ∀ (ps : List Pay) (t : Tbl), Tab n t → (∀ q ∈ ps, PayOk n q) → Tab n (addAll t ps) ∧ ∀ i, net (addAll t ps) i = net t i + eff ps i
  | [], t, T, _ => ⟨T, fun i => by
    show net t i = net t i + 0
    omega⟩
  | q :: ps, t, T, h => by
    have hq := h q List.mem_cons_self
    have T1 := T.addT hq.p hq.r hq.ne hq.nn
    obtain ⟨a, b⟩ := addAll_spec n ps (addT t q.1 q.2.1 q.2.2) T1 fun z hz => h z (List.mem_cons_of_mem _ hz)
    refine ⟨a, fun i => ?_⟩
    show net (addAll (addT t q.1 q.2.1 q.2.2) ps) i = net t i + ((if q.2.1 = i then q.2.2 else 0) - (if q.1 = i then q.2.2 else 0) + eff ps i)
    rw [b i, net_addT T hq.p hq.r]
    omega
def zT (n : Nat) : Tbl := List.replicate n (List.replicate n 0)
theorem getD_rep (n j : Nat) : (List.replicate n (0 : Int)).getD j 0 = 0 := by
  rw [List.getD_eq_getElem?_getD, List.getElem?_replicate]
  split <;> rfl
theorem sum_rep : ∀ n : Nat, (List.replicate n (0 : Int)).sum = 0
  | 0 => rfl
  | n + 1 => by
    rw [List.replicate_succ, List.sum_cons, sum_rep n]
    rfl
theorem zT_tab (n : Nat) : Tab n (zT n) := by
  refine ⟨List.length_replicate, fun r hr => ?_, fun r hr x hx => ?_, fun i hi => ?_⟩
  · rw [(List.mem_replicate.mp hr).2, List.length_replicate]
  · rw [(List.mem_replicate.mp hr).2] at hx
    rw [(List.mem_replicate.mp hx).2]
    exact Int.le_refl _
  · have e : (zT n).getD i [] = List.replicate n 0 := by
      unfold zT
      rw [List.getD_eq_getElem?_getD, List.getElem?_replicate, if_pos hi]
      rfl
    rw [e]
    exact getD_rep n i
theorem zT_net (n i : Nat) : net (zT n) i = 0 := by
  have c : colS (zT n) i = 0 := by
    unfold colS zT
    rw [List.map_replicate, getD_rep, sum_rep]
  have r : rowS (zT n) i = 0 := by
    unfold rowS zT
    rw [List.getD_eq_getElem?_getD, List.getElem?_replicate]
    split
    · exact sum_rep n
    · rfl
  unfold net
  rw [c, r]
  rfl
/-- the payments as debts have the same net amounts -/
theorem nets_back {n : Nat} {t : Tbl} (T : Tab n t) : Tab n (addAll (zT n) (compressL (netsL t))) ∧ netsL (addAll (zT n) (compressL (netsL t))) = netsL t := by
  obtain ⟨a, b, c⟩ := compress_spec (netsL t) (nets_zero T)
  rw [netsL_len, T.len] at a c
  obtain ⟨T2, e⟩ := addAll_spec n (compressL (netsL t)) (zT n) (zT_tab n) c
  refine ⟨T2, netsL_ext (by rw [T2.len, T.len]) fun i hi => ?_⟩
  rw [T2.len] at hi
  rw [e i, zT_net, a i hi, netsL_get t i (by rw [T.len]; exact hi)]
  omega
theorem least {n : Nat} {t u : Tbl} (T : Tab n t) (U : Tab n u) (h : netsL u = netsL t) : amounts (compressL (netsL t)) ≤ tot u := by
  rw [(compress_spec (netsL t) (nets_zero T)).2.1, ← h]
  exact posS_le U

/-! ### rings -/
/-- one step of a ring -/
def ringStep (hs : List Nat) (s : Int) (k : Nat) (t : Tbl) : Tbl :=
  if hs.getD k 0 = hs.getD ((k + 1) % hs.length) 0 then t else addT t (hs.getD k 0) (hs.getD ((k + 1) % hs.length) 0) s
def ringN (hs : List Nat) (s : Int) : Nat → Tbl → Tbl
  | 0, t => t
  | k + 1, t => ringStep hs s k (ringN hs s k t)
theorem house_lt {n : Nat} {hs : List Nat} (h : ∀ x ∈ hs, x < n) {k : Nat} (hk : k < hs.length) : hs.getD k 0 < n := by
  rw [List.getD_eq_getElem?_getD, List.getElem?_eq_getElem hk]
  exact h _ (List.getElem_mem hk)
theorem ring_spec {n : Nat} {t : Tbl} (T : Tab n t) {hs : List Nat} (h : ∀ x ∈ hs, x < n) {s : Int} (hs0 : 0 ≤ s) : ∀ k, k ≤ hs.length → Tab n (ringN hs s k t) ∧
    ∀ i, net (ringN hs s k t) i = net t i + (if hs.getD (k % hs.length) 0 = i then s else 0) - (if hs.getD 0 0 = i then s else 0)
  | 0, _ => ⟨T, fun i => by
    rw [Nat.zero_mod]
    show net t i = _
    omega⟩
  | k + 1, hk => by
    obtain ⟨T1, e1⟩ := ring_spec T h hs0 k (Nat.le_of_succ_le hk)
    have hk' : k < hs.length := hk
    have ek : k % hs.length = k := Nat.mod_eq_of_lt hk'
    have hm : (k + 1) % hs.length < hs.length := Nat.mod_lt _ (by omega)
    rw [ek] at e1
    show Tab n (ringStep hs s k (ringN hs s k t)) ∧ ∀ i, net (ringStep hs s k (ringN hs s k t)) i = _
    unfold ringStep
    by_cases e : hs.getD k 0 = hs.getD ((k + 1) % hs.length) 0
    · rw [if_pos e, ← e]
      exact ⟨T1, e1⟩
    · rw [if_neg e]
      refine ⟨T1.addT (house_lt h hk') (house_lt h hm) e hs0, fun i => ?_⟩
      rw [net_addT T1 (house_lt h hk') (house_lt h hm), e1 i]
      omega
theorem ring_nets {n : Nat} {t : Tbl} (T : Tab n t) {hs : List Nat} (h : ∀ x ∈ hs, x < n) {s : Int} (hs0 : 0 ≤ s) : Tab n (ringN hs s hs.length t) ∧ netsL (ringN hs s hs.length t) = netsL t := by
  obtain ⟨T1, e1⟩ := ring_spec T h hs0 hs.length (Nat.le_refl _)
  refine ⟨T1, netsL_ext (by rw [T1.len, T.len]) fun i _ => ?_⟩
  rw [e1 i, Nat.mod_self]
  omega
end K44
namespace K44
open PySem PySem.Spec PyProof.Rows L2
/-! ### the text by its places -/
def topS (i : Nat) : Stmt := PySem.Challenge.pw_fairbourse_k44_whole_least_payments.main.body.getD i (.Pass ⟨0, 0, 0, 0⟩)
abbrev sCheck : Stmt := topS 6
abbrev sNets : Stmt := topS 7
abbrev sComp : Stmt := topS 8
abbrev sCell : Stmt := topS 10
abbrev sDraws : Stmt := topS 11
abbrev sIsInt : Stmt := topS 12
abbrev sSize : Stmt := topS 13
abbrev sRow : Stmt := topS 14
abbrev sMarket : Stmt := topS 15
abbrev sRing : Stmt := topS 16
abbrev sSum : Stmt := topS 17
abbrev sSmall : Stmt := topS 18
abbrev sLaw : Stmt := topS 19
theorem scCheck : FnScope ["owed", "count", "payer", "debt"] ["owed"] (defScope sCheck) := ⟨rfl, rfl, rfl, by decide +kernel, rfl, by decide +kernel, by decide +kernel⟩
theorem scNets : FnScope ["owed", "house", "row"] ["owed"] (defScope sNets) := ⟨rfl, rfl, rfl, by decide +kernel, rfl, by decide +kernel, by decide +kernel⟩
theorem scComp : FnScope ["owed", "open_amounts", "payments", "payer", "receiver", "count", "amount"] ["owed"] (defScope sComp) := ⟨rfl, rfl, rfl, by decide +kernel, rfl, by decide +kernel, by decide +kernel⟩
theorem scCell : FnScope ["_law_script", "_law_k"] ["_law_script", "_law_k"] (defScope sCell) := ⟨rfl, rfl, rfl, by decide +kernel, rfl, by decide +kernel, by decide +kernel⟩
theorem scDraws : FnScope ["_law_cell_here", "_law_count", "_law_size", "_law_draws_here", "_law_rest", "_law_k"] ["_law_cell_here", "_law_count", "_law_size"] (defScope sDraws) := ⟨rfl, rfl, rfl, by decide +kernel, rfl, by decide +kernel, by decide +kernel⟩
theorem scIsInt : FnScope ["_law_actual"] ["_law_actual"] (defScope sIsInt) := ⟨rfl, rfl, rfl, by decide +kernel, rfl, by decide +kernel, by decide +kernel⟩
theorem scSize : FnScope ["_law_shape", "_law_kind"] ["_law_shape"] (defScope sSize) := ⟨rfl, rfl, rfl, by decide +kernel, rfl, by decide +kernel, by decide +kernel⟩
theorem scRow : FnScope ["_law_cell_here", "_law_shape", "_law_payer", "_law_count", "_law_size", "_law_draws_here", "_law_draw"] ["_law_cell_here", "_law_shape", "_law_payer", "_law_count", "_law_size"] (defScope sRow) := ⟨rfl, rfl, rfl, by decide +kernel, rfl, by decide +kernel, by decide +kernel⟩
theorem scMarket : FnScope ["_law_script", "_law_shape", "_law_count", "_law_size", "_law_k"] ["_law_script"] (defScope sMarket) := ⟨rfl, rfl, rfl, by decide +kernel, rfl, by decide +kernel, by decide +kernel⟩
theorem scRing : FnScope ["_law_debts", "_law_cell_here", "_law_count", "_law_draws_here", "_law_size", "_law_houses", "_law_result", "_law_k", "_law_a", "_law_b", "_law_draw", "_law_row_here"] ["_law_debts", "_law_cell_here"] (defScope sRing) := ⟨rfl, rfl, rfl, by decide +kernel, rfl, by decide +kernel, by decide +kernel⟩
theorem scSum : FnScope ["_law_payments", "_law_payment"] ["_law_payments"] (defScope sSum) := ⟨rfl, rfl, rfl, by decide +kernel, rfl, by decide +kernel, by decide +kernel⟩
theorem scSmall : FnScope ["_law_debts", "_law_row_here", "_law_debt"] ["_law_debts"] (defScope sSmall) := ⟨rfl, rfl, rfl, by decide +kernel, rfl, by decide +kernel, by decide +kernel⟩
theorem scLaw : FnScope ["_law_script", "_law_owed", "_law_payments", "_law_least", "_law_others", "_law_payment", "_law_cell_here", "_law_ringed", "_law_row_here", "_law_house"] ["_law_script"] (defScope sLaw) := ⟨rfl, rfl, rfl, by decide +kernel, rfl, by decide +kernel, by decide +kernel⟩

/-! ### the abstract heap -/
theorem same_upd {H : Hp} {p : Addr} {o : HO} (h : H p = none) : Same H (upd H p o) := fun b x e => by
  rw [upd_ne (ne_of_none e h)]
  exact e
/-- the heap from H0 on: a new thing written again -/
theorem same_put {H0 H : Hp} {p : Addr} {o : HO} (s : Same H0 H) (h : H0 p = none) : Same H0 (upd H p o) := fun b x e => by
  rw [upd_ne (ne_of_none e h)]
  exact s b x e
theorem small64 {n : Nat} (h : n ≤ 1000) : n ≤ sizeLine := Nat.le_of_lt (small1000 h)
theorem int_at {ns : List Int} {i : Nat} (h : i < ns.length) : (ns.map V.int)[i]? = some (.int (ns.getD i 0)) := by
  rw [List.getElem?_map, List.getD_eq_getElem?_getD, List.getElem?_eq_getElem h]
  rfl
theorem int_of_at {ns : List Int} {i : Nat} {v : V} (h : (ns.map V.int)[i]? = some v) : i < ns.length ∧ v = .int (ns.getD i 0) := by
  have hi : i < ns.length := by
    have := (List.getElem?_eq_some_iff.mp h).1
    rwa [List.length_map] at this
  exact ⟨hi, Option.some.inj (h.symm.trans (int_at hi))⟩
theorem ref_at {as : List Addr} {i : Nat} (h : i < as.length) : ∃ b, as[i]? = some b ∧ (as.map V.ref)[i]? = some (.ref b) :=
  ⟨as[i], List.getElem?_eq_getElem h, by rw [List.getElem?_map, List.getElem?_eq_getElem h]; rfl⟩
theorem ref_of_at {as : List Addr} {i : Nat} {v : V} (h : (as.map V.ref)[i]? = some v) : ∃ b, as[i]? = some b ∧ v = .ref b := by
  rw [List.getElem?_map] at h
  cases e : as[i]? with
  | none =>
    rw [e] at h
    cases h
  | some b =>
    rw [e] at h
    exact ⟨b, rfl, (Option.some.inj h).symm⟩
theorem set_ints (ns : List Int) (i : Nat) (x : Int) : (ns.map V.int).set i (.int x) = (ns.set i x).map V.int := by
  rw [List.map_set]
/-- a table stands at a, its rows at as -/
structure TabA (H : Hp) (a : Addr) (as : List Addr) (t : Tbl) : Prop where
  top : H a = some (.lst (as.map V.ref))
  len : as.length = t.length
  nd : as.Nodup
  row : ∀ (j : Nat) (b : Addr), as[j]? = some b → H b = some (.lst ((t.getD j []).map V.int))
theorem TabA.same {H H' : Hp} {a : Addr} {as : List Addr} {t : Tbl} (h : TabA H a as t) (s : Same H H') : TabA H' a as t :=
  ⟨s _ _ h.top, h.len, h.nd, fun j b e => s _ _ (h.row j b e)⟩
theorem TabA.nin {H : Hp} {a : Addr} {as : List Addr} {t : Tbl} (h : TabA H a as t) {j : Nat} {b : Addr} (e : as[j]? = some b) : b ≠ a := by
  rintro rfl
  have q := (h.row j b e).symm.trans h.top
  have q2 : (t.getD j []).map V.int = as.map V.ref := HO.lst.inj (Option.some.inj q)
  have m : V.ref b ∈ as.map V.ref := List.mem_map.mpr ⟨b, List.mem_of_getElem? e, rfl⟩
  rw [← q2] at m
  obtain ⟨z, _, hz⟩ := List.mem_map.mp m
  cases hz
/-- a row is written -/
theorem TabA.put {H : Hp} {a : Addr} {as : List Addr} {t : Tbl} (h : TabA H a as t) {j : Nat} {b : Addr} (e : as[j]? = some b) (r : List Int) : TabA (upd H b (.lst (r.map V.int))) a as (t.set j r) := by
  have hj : j < t.length := by
    rw [← h.len]
    exact (List.getElem?_eq_some_iff.mp e).1
  refine ⟨by rw [upd_ne (Ne.symm (h.nin e))]; exact h.top, by rw [List.length_set]; exact h.len, h.nd, fun i c ec => ?_⟩
  rw [getT_set _ _ _ _ hj]
  by_cases hij : j = i
  · subst hij
    have : c = b := Option.some.inj (ec.symm.trans e)
    subst this
    rw [upd_same, if_pos rfl]
  · have : c ≠ b := fun z => hij (nd_ix h.nd e (by rw [← z]; exact ec))
    rw [upd_ne this, if_neg hij]
    exact h.row i c ec
/-- a row is added to a table that is being made -/
theorem TabA.add {H : Hp} {D : Addr} {as : List Addr} {t : Tbl} {b : Addr} {r : List Int} (h : TabA H D as t) (hb : H b = some (.lst (r.map V.int))) (nb : b ∉ as) (nD : b ≠ D) : TabA (upd H D (.lst (as.map V.ref ++ [.ref b]))) D (as ++ [b]) (t ++ [r]) := by
  refine ⟨by rw [upd_same, List.map_append]; rfl, by rw [List.length_append, List.length_append, h.len]; rfl, ?_, fun j c e => ?_⟩
  · rw [List.nodup_append]
    refine ⟨h.nd, List.nodup_cons.mpr ⟨List.not_mem_nil, List.nodup_nil⟩, fun x hx y hy z => ?_⟩
    rw [List.mem_singleton.mp hy] at z
    exact nb (z ▸ hx)
  · by_cases hj : j < as.length
    · rw [List.getElem?_append_left hj] at e
      rw [upd_ne (h.nin e), h.row j c e, List.getD_eq_getElem?_getD, List.getD_eq_getElem?_getD, List.getElem?_append_left (by rw [← h.len]; exact hj)]
    · have hl : j < (as ++ [b]).length := (List.getElem?_eq_some_iff.mp e).1
      rw [List.length_append, List.length_singleton] at hl
      have ej : j = as.length := by omega
      subst ej
      rw [List.getElem?_append_right (Nat.le_refl _), Nat.sub_self] at e
      have ec : b = c := Option.some.inj e
      subst ec
      rw [upd_ne nD, hb, List.getD_eq_getElem?_getD, h.len, List.getElem?_append_right (Nat.le_refl _), Nat.sub_self]
      rfl
theorem TabA.nil {H : Hp} {D : Addr} : TabA (upd H D (.lst [])) D [] [] :=
  ⟨upd_same, rfl, List.nodup_nil, fun j b e => by rw [List.getElem?_nil] at e; cases e⟩
/-- payments stand at p, the tuples at as -/
def payV (q : Pay) : List V := [.int (q.1 : Nat), .int (q.2.1 : Nat), .int q.2.2]
structure PayA (H : Hp) (p : Addr) (as : List Addr) (ps : List Pay) : Prop where
  top : H p = some (.lst (as.map V.ref))
  len : as.length = ps.length
  tup : ∀ (j : Nat) (b : Addr), as[j]? = some b → ∃ q, ps[j]? = some q ∧ H b = some (.tup (payV q))
theorem PayA.same {H H' : Hp} {a : Addr} {as : List Addr} {ps : List Pay} (h : PayA H a as ps) (s : Same H H') : PayA H' a as ps :=
  ⟨s _ _ h.top, h.len, fun j b e => let ⟨q, a, b⟩ := h.tup j b e; ⟨q, a, s _ _ b⟩⟩
theorem PayA.nin {H : Hp} {a : Addr} {as : List Addr} {ps : List Pay} (h : PayA H a as ps) {j : Nat} {b : Addr} (e : as[j]? = some b) : b ≠ a := by
  rintro rfl
  obtain ⟨q, _, z⟩ := h.tup j b e
  rw [h.top] at z
  cases z
theorem PayA.add {H : Hp} {D : Addr} {as : List Addr} {ps : List Pay} {b : Addr} {q : Pay} (h : PayA H D as ps) (hb : H b = some (.tup (payV q))) : PayA (upd H D (.lst (as.map V.ref ++ [.ref b]))) D (as ++ [b]) (ps ++ [q]) := by
  refine ⟨by rw [upd_same, List.map_append]; rfl, by rw [List.length_append, List.length_append, h.len]; rfl, fun j c e => ?_⟩
  by_cases hj : j < as.length
  · rw [List.getElem?_append_left hj] at e
    obtain ⟨q', h1, h2⟩ := h.tup j c e
    exact ⟨q', by rw [List.getElem?_append_left (by rw [← h.len]; exact hj)]; exact h1, by rw [upd_ne (h.nin e)]; exact h2⟩
  · have hl : j < (as ++ [b]).length := (List.getElem?_eq_some_iff.mp e).1
    rw [List.length_append, List.length_singleton] at hl
    have ej : j = as.length := by omega
    subst ej
    rw [List.getElem?_append_right (Nat.le_refl _), Nat.sub_self] at e
    have ec : b = c := Option.some.inj e
    subst ec
    refine ⟨q, by rw [h.len, List.getElem?_append_right (Nat.le_refl _), Nat.sub_self]; rfl, ?_⟩
    have : b ≠ D := by
      rintro rfl
      rw [h.top] at hb
      cases hb
    rw [upd_ne this]
    exact hb
/-- reading xs[j] for xs[j] op= e, j from 0 up -/
def rAtN (K : PySem.W.Frag) : V → V → Hp → VK → Prop := fun x y H Q => ∃ (p : Addr) (xs : List V) (j : Nat) (v : V), x = .ref p ∧ y = .int (j : Nat) ∧ SqL K H p xs ∧ xs.length ≤ 1000 ∧ xs[j]? = some v ∧ Q v H
theorem get_at {X : Cx} : PGet X (rAtN X.K) := fun pins s σ H x y ov iv Q I ro ri h => by
  obtain ⟨p, xs, j, v, rfl, rfl, hS, h1000, hj, hQ⟩ := h
  obtain ⟨its, rel, pl, _⟩ := I.list hS
  obtain ⟨u, hu, ru⟩ := rel.get hj
  have hlt : j < xs.length := (List.getElem?_eq_some_iff.mp hj).1
  have done : EP X pins σ Q u s := ⟨v, H, I, ru, hQ⟩
  cases ro
  cases ri with
  | intro t e =>
    subst e
    exact wpAny_getItem_list pl.isList (Int.natCast_nonneg j) (by omega) (by rw [Int.toNat_natCast]; simpa using hu) done
end K44
namespace K44
open PySem PySem.Spec PyProof.Rows L2
section
variable {P : Program} {w : World} {K : PySem.W.Frag} {mg : Str → Option Value} {base : Heap}
/-! ### _law_cell -/
def spCell (K : PySem.W.Frag) : Sp := fun vs H Q _ => ∃ (a : Addr) (ns : List Int) (k : Int), vs = [.ref a, .int k] ∧ SqL K H a (ns.map V.int) ∧ 0 ≤ k ∧ ∀ z : Int, Q (.int z) H
theorem ok_cell {f : Addr} {fd : FuncData} {k : Nat} (F : Fun K "_law_cell" "_law_cell" sCell f fd) (ml : mg "len" = none) : FnOk P w K mg base CX0 (k + 1) f fd ["_law_script", "_law_k"] (spCell K) := by
  refine F.ok scCell (fun vs H Q E h => ?_) (fun cdv A outer s H vs Q E hr h => ?_)
  · obtain ⟨a, ns, k, rfl, _⟩ := h
    rfl
  · obtain ⟨a, ns, k, rfl, hS, h0, q⟩ := h
    refine ⟨_, pss_cons (ps_if (pt_cmpR op_lt (pv 1) (pe_callB call_len_seq (by rfl) ml PySem.boot_len (pa_cons (pv 0) pa_nil)) (nomark _)) (pss_one (ps_ret (pe_ix ix_list (pv 0) (pv 1) (fun _ _ => rfl)))) pss_nil) (pss_one (ps_ret pe_int)), ?_⟩
    refine ⟨_, rfl, .ref a, rfl, a, ns.map V.int, rfl, .inl hS, _, _, rfl, rfl, _, rfl, ite2 (fun e => ?_) (fun e => ?_)⟩
    · have e1 := of_decide_eq_true e
      rw [List.length_map] at e1
      obtain ⟨j, rfl⟩ : ∃ j : Nat, k = (j : Int) := ⟨k.toNat, by omega⟩
      exact ⟨.ref a, rfl, _, rfl, a, _, _, _, rfl, rfl, hS, atI_nat (int_at (by omega)), q _⟩
    · exact q 0
/-! ### _law_is_integer -/
def spIsInt : Sp := fun vs H Q _ => ∃ z : Int, vs = [.int z] ∧ Q (.bl true) H
theorem ok_isint {f : Addr} {fd : FuncData} {k : Nat} (F : Fun K "_law_is_integer" "_law_is_integer" sIsInt f fd) (mi : mg "isinstance" = none) (mt : mg "int" = none) (mb : mg "bool" = none) :
    FnOk P w K mg base CX0 (k + 1) f fd ["_law_actual"] spIsInt := by
  refine F.ok scIsInt (fun vs H Q E h => ?_) (fun cdv A outer s H vs Q E hr h => ?_)
  · obtain ⟨z, rfl, _⟩ := h
    rfl
  · obtain ⟨z, rfl, q⟩ := h
    refine ⟨_, pss_one (ps_ret (pe_and (pe_callB call_isi (by rfl) mi (by decide +kernel) (pa_cons (pv 0) (pa_cons (pe_bltn (v := .ty "int") (by rfl) mt (by decide +kernel) rfl) pa_nil)))
      (pe_one (pe_not (pe_callB call_isi (by rfl) mi (by decide +kernel) (pa_cons (pv 0) (pa_cons (pe_bltn (v := .ty "bool") (by rfl) mb (by decide +kernel) rfl) pa_nil))))))), ?_⟩
    refine ⟨_, rfl, .int z, .ty "int", .type "int", .type "int", true, rfl, .ty "int", .base (.int z), kit_ty (by decide +kernel), true, rfl, ?_⟩
    rw [if_pos rfl]
    refine ⟨_, rfl, .int z, .ty "bool", .type "int", .type "bool", false, rfl, .ty "bool", .base (.int z), kit_ty (by decide +kernel), false, rfl, ?_⟩
    exact q
/-! ### _law_small -/
def spSmall : Sp := fun vs H Q _ => ∃ (a : Addr) (as : List Addr) (t : Tbl), vs = [.ref a] ∧ TabA H a as t ∧ ∀ b : Bool, (b = true → Most 1000000 t) → Q (.bl b) H
theorem ok_small {f : Addr} {fd : FuncData} {k : Nat} (F : Fun K "_law_small" "_law_small" sSmall f fd) : FnOk P w K mg base CX0 (k + 1) f fd ["_law_debts"] spSmall := by
  refine F.ok scSmall (fun vs H Q E h => ?_) (fun cdv A outer s H vs Q E hr h => ?_)
  · obtain ⟨a, as, t, rfl, _⟩ := h
    rfl
  · obtain ⟨a, as, t, rfl, hT, q⟩ := h
    refine ⟨_, pss_cons (ps_for PassesOwn.never rfl (pi_list (pv 0)) (pg_name (i := 1) scSmall.nd rfl (.inl rfl))
        (pss_one (ps_for PassesOwn.never rfl (pi_list (pv 1)) (pg_name (i := 2) scSmall.nd rfl (.inl rfl))
          (pss_one (ps_if (pt_cmpR op_gt (pv 2) pe_int (nomark _)) (pss_one (ps_ret pe_bl)) pss_nil)))))
      (pss_one (ps_ret pe_bl)), ?_⟩
    refine ⟨.ref a, rfl, a, rfl, ⟨_, SqL.of hT.top⟩, for_list (K := K) (a := a) (xs := as.map V.ref) (fun i σ H2 => ∃ y1 y2, σ = [some (.ref a), y1, y2] ∧ H2 = H ∧ ∀ j, j < i → ∀ x ∈ t.getD j [], x ≤ 1000000)
      ⟨none, none, rfl, rfl, fun j hj => absurd hj (Nat.not_lt_zero _)⟩ (fun i σ H2 _ ⟨_, _, _, e, _⟩ => by rw [e]; exact SqL.of hT.top) ?_ ?_⟩
    · rintro i x σ H2 hx ⟨y1, y2, rfl, rfl, hall⟩
      obtain ⟨b, hb, rfl⟩ := ref_of_at hx
      have hR := hT.row i b hb
      refine ⟨.ref b, rfl, b, rfl, ⟨_, SqL.of hR⟩, for_list (K := K) (a := b) (xs := (t.getD i []).map V.int) (fun l σ H3 => ∃ y2, σ = [some (.ref a), some (.ref b), y2] ∧ H3 = H2 ∧ ∀ x ∈ (t.getD i []).take l, x ≤ 1000000)
        ⟨y2, rfl, rfl, fun x hx => by rw [List.take_zero] at hx; cases hx⟩ (fun l σ H3 _ ⟨_, _, e, _⟩ => by rw [e]; exact SqL.of hR) ?_ ?_⟩
      · rintro l x σ H3 hx ⟨y2, rfl, rfl, hl⟩
        obtain ⟨hlt, rfl⟩ := int_of_at hx
        refine ⟨_, rfl, _, _, rfl, rfl, _, rfl, ite2 (fun e => ?_) (fun e => ?_)⟩
        · exact q false fun z => Bool.noConfusion z
        · have e1 : ¬ (1000000 : Int) < (t.getD i []).getD l 0 := fun z => e (decide_eq_true z)
          refine ⟨_, rfl, rfl, fun x hx => ?_⟩
          rw [List.take_add_one] at hx
          rcases List.mem_append.mp hx with h1 | h1
          · exact hl x h1
          · rw [List.getElem?_eq_getElem hlt] at h1
            have : x = (t.getD i [])[l] := by simpa using h1
            rw [this]
            rw [List.getD_eq_getElem?_getD, List.getElem?_eq_getElem hlt] at e1
            have e2 : ¬ (1000000 : Int) < (t.getD i [])[l] := e1
            omega
      · rintro σ H3 ⟨y2, rfl, rfl, hl⟩
        rw [List.length_map, List.take_length] at hl
        refine ⟨_, _, rfl, rfl, fun j hj => ?_⟩
        by_cases e : j = i
        · rw [e]
          exact hl
        · exact hall j (by omega)
    · rintro σ H2 ⟨y1, y2, rfl, rfl, hall⟩
      refine q true fun _ r hr x hx => ?_
      obtain ⟨j, hj⟩ := List.getElem?_of_mem hr
      have hj2 : j < t.length := (List.getElem?_eq_some_iff.mp hj).1
      refine hall j (by rw [List.length_map, hT.len]; exact hj2) x ?_
      rw [List.getD_eq_getElem?_getD, hj]
      exact hx
/-! ### check_debts -/
def spCheck : Sp := fun vs H Q _ => ∃ (a : Addr) (as : List Addr) (t : Tbl) (n : Nat), vs = [.ref a] ∧ TabA H a as t ∧ Tab n t ∧ 1 ≤ n ∧ n ≤ 13 ∧ Most 1000000000000000 t ∧ Q .non H
theorem ok_check {f : Addr} {fd : FuncData} {k : Nat} {t1 t2 : Tok} (F : Fun K "check_debts" "check_debts" sCheck f fd) (ml : mg "len" = none) (mr : mg "range" = none) (m1 : mg "MOST_HOUSES" = some (.int 13 t1)) (m2 : mg "LARGEST_DEBT" = some (.int 1000000000000000 t2)) :
    FnOk P w K mg base CX0 (k + 1) f fd ["owed"] spCheck := by
  refine F.ok scCheck (fun vs H Q E h => ?_) (fun cdv A outer s H vs Q E hr h => ?_)
  · obtain ⟨a, as, t, n, rfl, _⟩ := h
    rfl
  · obtain ⟨a, as, t, n, rfl, hT, T, n1, n2, hM, q⟩ := h
    refine ⟨_, pss_cons (ps_set (i := 1) scCheck.nd rfl (.inl rfl) (pe_callB call_len_seq (by rfl) ml PySem.boot_len (pa_cons (pv 0) pa_nil)))
      (pss_cons (ps_if (pt_not (pt_chain op_le op_le pe_int (pv 1) (pe_glob (v := .int 13) (by rfl) m1 ⟨_, rfl⟩))) pss_never pss_nil)
      (pss_one (ps_for PassesOwn.never rfl (pi_range1 (by rfl) mr (pa_cons (pv 1) pa_nil)) (pg_name (i := 2) scCheck.nd rfl (.inl rfl))
        (pss_cons (ps_if (PW.pt (pw_or (pt_cmpR op_ne (pe_callB call_len_seq (by rfl) ml PySem.boot_len (pa_cons (pe_ix ix_list (pv 0) (pv 2) (fun _ _ => rfl)) pa_nil)) (pv 1) (nomark _))
            (pw_or1 (pt_cmpR op_ne (pe_ix ix_list (pe_ix ix_list (pv 0) (pv 2) (fun _ _ => rfl)) (pv 2) (fun _ _ => rfl)) pe_int (nomark _))))) pss_never pss_nil)
          (pss_one (ps_for PassesOwn.never rfl (pi_list (pe_ix ix_list (pv 0) (pv 2) (fun _ _ => rfl))) (pg_name (i := 3) scCheck.nd rfl (.inl rfl))
            (pss_one (ps_if (pt_not (pt_chain op_le op_le pe_int (pv 3) (pe_glob (v := .int 1000000000000000) (by rfl) m2 ⟨_, rfl⟩))) pss_never pss_nil)))))))), ?_⟩
    have el : (as.map V.ref).length = n := by rw [List.length_map, hT.len, T.len]
    -- count = len(owed)
    refine ⟨.ref a, rfl, a, as.map V.ref, rfl, .inl (SqL.of hT.top), ?_⟩
    rw [el]
    -- 1 <= count <= MOST_HOUSES
    refine ⟨_, rfl, _, _, rfl, rfl, _, rfl, ?_⟩
    rw [decide_eq_true (show (1 : Int) ≤ (n : Int) by omega), if_pos rfl]
    refine ⟨_, _, rfl, rfl, _, rfl, ?_⟩
    rw [decide_eq_true (show (n : Int) ≤ 13 by omega)]
    refine iteF ?_
    -- for payer in range(count)
    refine ⟨_, rfl, (n : Int), rfl, by omega, by omega, for_range (lo := 0) (n := ((n : Nat) : Int).toNat) (fun i σ H2 => ∃ y2 y3, σ = [some (.ref a), some (.int (n : Nat)), y2, y3] ∧ H2 = H) ⟨none, none, rfl, rfl⟩ ?_ ?_⟩
    · rintro i σ H2 hi ⟨y2, y3, rfl, rfl⟩
      have hin : i < n := by omega
      obtain ⟨b, hb, hb2⟩ := ref_at (as := as) (i := i) (by rw [hT.len, T.len]; exact hin)
      have hR := hT.row i b hb
      have ez : (0 : Int) + (i : Int) = ((i : Nat) : Int) := Int.zero_add _
      have hmem : t.getD i [] ∈ t := row_mem (by rw [T.len]; exact hin)
      have er : ((t.getD i []).map V.int).length = n := by rw [List.length_map]; exact T.row _ hmem
      have hix : ∀ {R : Prop}, (∃ (p : Addr) (xs : List V) (j : Int) (v : V), V.ref a = .ref p ∧ V.int (0 + (i : Int)) = .int j ∧ SqL K H2 p xs ∧ atI xs j = some v ∧ R) → True := fun _ => trivial
      -- len(owed[payer]) != count
      refine ⟨.ref a, rfl, _, rfl, a, _, _, .ref b, rfl, rfl, SqL.of hT.top, at_of ez hb2, b, _, rfl, .inl (SqL.of hR), _, rfl, rfl, _, rfl, ?_⟩
      rw [er, decide_eq_true (rfl : V.int ((n : Nat) : Int) = V.int ((n : Nat) : Int))]
      refine iteF ?_
      -- owed[payer][payer] != 0
      refine ⟨.ref a, rfl, _, rfl, a, _, _, .ref b, rfl, rfl, SqL.of hT.top, at_of ez hb2, _, rfl, b, _, _, .int ((t.getD i []).getD i 0), rfl, rfl, SqL.of hR, at_of ez (int_at (by rw [T.row _ hmem]; exact hin)), rfl, _, rfl, ?_⟩
      rw [T.dia i hin, decide_eq_true (rfl : V.int 0 = V.int 0)]
      refine iteF ?_
      -- for debt in owed[payer]
      refine ⟨.ref a, rfl, _, rfl, a, _, _, .ref b, rfl, rfl, SqL.of hT.top, at_of ez hb2, b, rfl, ⟨_, SqL.of hR⟩,
        for_list (K := K) (a := b) (xs := (t.getD i []).map V.int) (fun l σ H3 => ∃ y3, σ = [some (.ref a), some (.int (n : Nat)), some (.int (0 + (i : Int))), y3] ∧ H3 = H2) ⟨y3, rfl, rfl⟩ (fun l σ H3 _ ⟨_, _, e⟩ => by rw [e]; exact SqL.of hR) ?_ ?_⟩
      · rintro l x σ H3 hx ⟨y3, rfl, rfl⟩
        obtain ⟨hlt, rfl⟩ := int_of_at hx
        have hm : (t.getD i []).getD l 0 ∈ t.getD i [] := by
          rw [List.getD_eq_getElem?_getD (l := t.getD i []), List.getElem?_eq_getElem hlt]
          exact List.getElem_mem hlt
        have b0 := T.nn _ hmem _ hm
        have b1 := hM _ hmem _ hm
        refine ⟨_, rfl, _, _, rfl, rfl, _, rfl, ?_⟩
        rw [decide_eq_true b0, if_pos rfl]
        refine ⟨_, _, rfl, rfl, _, rfl, ?_⟩
        rw [decide_eq_true b1]
        refine iteF ?_
        exact ⟨_, rfl, rfl⟩
      · rintro σ H3 ⟨y3, rfl, rfl⟩
        exact ⟨_, _, rfl, rfl⟩
    · rintro σ H2 ⟨y2, y3, rfl, rfl⟩
      exact q
end
end K44
namespace K44
open PySem PySem.Spec PyProof.Rows L2
/-- whole numbers within [0, m) -/
def Below (m : Int) (ds : List Int) : Prop := ∀ d ∈ ds, 0 ≤ d ∧ d < m
theorem Below.nil {m : Int} : Below m [] := fun _ h => nomatch h
theorem Below.snoc {m d : Int} {ds : List Int} (h : Below m ds) (h0 : 0 ≤ d) (h1 : d < m) : Below m (ds ++ [d]) := fun x hx => by
  rcases List.mem_append.mp hx with hx | hx
  · exact h x hx
  · rw [List.mem_singleton.mp hx]
    exact ⟨h0, h1⟩
theorem snoc_ints (ds : List Int) (d : Int) : ds.map V.int ++ [.int d] = (ds ++ [d]).map V.int := by
  rw [List.map_append]
  rfl
section
variable {P : Program} {w : World} {K : PySem.W.Frag} {mg : Str → Option Value} {base : Heap}
/-! ### _law_draws -/
def spDraws : Sp := fun vs H Q _ => ∃ (c : Int) (n : Nat) (m : Int), vs = [.int c, .int (n : Nat), .int m] ∧ n ≤ 100 ∧ 0 < m ∧ m < 1000000 ∧
  ∀ (ds : List Int) (H' : Hp) (p : Addr), ds.length = n → Below m ds → Same H H' → H p = none → H' p = some (.lst (ds.map V.int)) → Q (.ref p) H'
theorem ok_draws {f : Addr} {fd : FuncData} {k : Nat} (F : Fun K "_law_draws" "_law_draws" sDraws f fd) (ma : mg "abs" = none) (mr : mg "range" = none) (mi : mg "int" = none) :
    FnOk P w K mg base CX0 (k + 1) f fd ["_law_cell_here", "_law_count", "_law_size"] spDraws := by
  refine F.ok scDraws (fun vs H Q E h => ?_) (fun cdv A outer s H vs Q E hr h => ?_)
  · obtain ⟨c, n, m, rfl, _⟩ := h
    rfl
  · obtain ⟨c, n, m, rfl, hn, m0, m1, q⟩ := h
    refine ⟨_, pss_cons (ps_set (i := 3) scDraws.nd rfl (.inl rfl) (pe_lst pa_nil))
      (pss_cons (ps_set (i := 4) scDraws.nd rfl (.inl rfl) (pe_callB call_abs (by rfl) ma (by decide +kernel) (pa_cons (pv 0) pa_nil)))
      (pss_cons (ps_if (pt_cmpR op_ge (pv 4) pe_int (nomark _))
        (pss_cons (ps_for PassesOwn.never rfl (pi_range1 (by rfl) mr (pa_cons (pv 1) pa_nil)) (pg_name (i := 5) scDraws.nd rfl (.inl rfl))
          (pss_cons (ps_expr (pe_bm PySem.F.plainAttrs_list PySem.F.slot_list_append PySem.F.type_list_append mt_append (pv 3) (pa_cons (pe_op op_mod (pe_callTy call_int1 (by rfl) mi (by decide +kernel) (pa_cons (pv 4) pa_nil)) (pv 2)) pa_nil)))
            (pss_one (ps_set (i := 4) scDraws.nd rfl (.inl rfl) (pe_op op_fdiv (pv 4) (pv 2))))))
          (pss_one (ps_ret (pv 3)))) pss_nil)
      (pss_cons (ps_for PassesOwn.never rfl (pi_range1 (by rfl) mr (pa_cons (pv 1) pa_nil)) (pg_name (i := 5) scDraws.nd rfl (.inl rfl))
        (pss_cons (ps_set (i := 4) scDraws.nd rfl (.inl rfl) (pe_op op_mod (pe_callTy call_int1 (by rfl) mi (by decide +kernel) (pa_cons (pe_op op_add (pe_op op_add (pe_op op_mul (pv 4) pe_int) (pe_op op_mul (pv 5) pe_int)) pe_int) pa_nil)) pe_int))
          (pss_one (ps_expr (pe_bm PySem.F.plainAttrs_list PySem.F.slot_list_append PySem.F.type_list_append mt_append (pv 3)
            (pa_cons (pe_op op_mod (pe_op op_mod (pe_callTy call_int1 (by rfl) mi (by decide +kernel) (pa_cons (pe_op op_add (pe_op op_mul (pv 4) pe_int) (pv 5)) pa_nil)) pe_int) (pv 2)) pa_nil))))))
      (pss_one (ps_ret (pv 3)))))), ?_⟩
    -- draws = []; rest = abs(cell)
    refine ⟨Nat.zero_le _, fun o no => ?_⟩
    have s1 : Same H (upd H o (.lst [])) := same_upd no
    refine ⟨_, rfl, c, rfl, ?_⟩
    generalize (if c < 0 then -c else c) = r0
    have start : ∀ y5 : Option V, ∃ (ds : List Int) (rest : Int) (y5' : Option V), [some (V.int c), some (.int (n : Nat)), some (.int m), some (.ref o), some (.int r0), y5] = [some (.int c), some (.int (n : Nat)), some (.int m), some (.ref o), some (.int rest), y5'] ∧ Same H (upd H o (.lst [])) ∧ (upd H o (.lst [])) o = some (.lst (ds.map V.int)) ∧ ds.length = 0 ∧ Below m ds :=
      fun y5 => ⟨[], r0, y5, rfl, s1, upd_same, rfl, Below.nil⟩
    have lm : ∀ {i : Nat} {ds : List Int}, i < ((n : Nat) : Int).toNat → ds.length = i → (ds.map V.int).length < sizeLine := fun {i ds} hi hl => by
      rw [List.length_map]
      exact small1000 (by omega)
    -- if rest >= 10 ** 18
    refine ⟨_, rfl, _, _, rfl, rfl, _, rfl, ite2 (fun _ => ?_) (fun _ => ?_)⟩
    · refine ⟨_, rfl, (n : Int), rfl, by omega, by omega, for_range (lo := 0) (n := ((n : Nat) : Int).toNat)
        (fun i σ H2 => ∃ (ds : List Int) (rest : Int) (y5 : Option V), σ = [some (.int c), some (.int (n : Nat)), some (.int m), some (.ref o), some (.int rest), y5] ∧ Same H H2 ∧ H2 o = some (.lst (ds.map V.int)) ∧ ds.length = i ∧ Below m ds)
        (start none) ?_ ?_⟩
      · rintro i σ H2 hi ⟨ds, rest, y5, rfl, sm, ho, hl, hb⟩
        refine ⟨_, rfl, .inl ⟨rfl, _, SqL.of ho⟩, _, rfl, .inl ⟨rest, rfl, _, rfl, rest, m, rfl, rfl, m0, o, _, _, rfl, rfl, ho, lm hi hl, ?_⟩⟩
        refine ⟨_, rfl, _, rfl, rest, m, rfl, rfl, ⟨m0, by omega⟩, ?_⟩
        refine ⟨ds ++ [rest % m], rest / m, _, rfl, same_put sm no, ?_, by rw [List.length_append, hl]; rfl, hb.snoc (Int.emod_nonneg _ (by omega)) (Int.emod_lt_of_pos _ m0)⟩
        rw [upd_same, snoc_ints]
      · rintro σ H2 ⟨ds, rest, y5, rfl, sm, ho, hl, hb⟩
        exact ⟨_, rfl, q ds H2 o (by omega) hb sm no ho⟩
    · refine ⟨_, rfl, (n : Int), rfl, by omega, by omega, for_range (lo := 0) (n := ((n : Nat) : Int).toNat)
        (fun i σ H2 => ∃ (ds : List Int) (rest : Int) (y5 : Option V), σ = [some (.int c), some (.int (n : Nat)), some (.int m), some (.ref o), some (.int rest), y5] ∧ Same H H2 ∧ H2 o = some (.lst (ds.map V.int)) ∧ ds.length = i ∧ Below m ds)
        (start none) ?_ ?_⟩
      · rintro i σ H2 hi ⟨ds, rest, y5, rfl, sm, ho, hl, hb⟩
        refine ⟨_, rfl, _, _, rfl, rfl, .inr ⟨by decide, by decide⟩, _, rfl, _, _, rfl, rfl, .inr ⟨by decide, by decide⟩, _, _, rfl, rfl, _, _, rfl, rfl, .inl ⟨_, rfl, _, _, rfl, rfl, (by show (0 : Int) < 2147483647; decide), ?_⟩⟩
        refine ⟨_, rfl, .inl ⟨rfl, _, SqL.of ho⟩, _, rfl, _, _, rfl, rfl, .inr ⟨by decide, by decide⟩, _, rfl, _, _, rfl, rfl, .inl ⟨_, rfl, _, _, rfl, rfl, (by show (0 : Int) < 2147483629; decide), _, rfl, _, m, rfl, rfl, m0, o, _, _, rfl, rfl, ho, lm hi hl, ?_⟩⟩
        refine ⟨ds ++ [((rest * 48271 + (0 + (i : Int)) * 69621 + 11) % 2147483647 * 16807 + (0 + (i : Int))) % 2147483629 % m], (rest * 48271 + (0 + (i : Int)) * 69621 + 11) % 2147483647, _, rfl, same_put sm no, ?_, by rw [List.length_append, hl]; rfl, hb.snoc (Int.emod_nonneg _ (by omega)) (Int.emod_lt_of_pos _ m0)⟩
        rw [upd_same, snoc_ints]
      · rintro σ H2 ⟨ds, rest, y5, rfl, sm, ho, hl, hb⟩
        exact ⟨_, rfl, q ds H2 o (by omega) hb sm no ho⟩
/-! ### _law_market_size -/
def spSize : Sp := fun vs H Q _ => ∃ s : Int, vs = [.int s] ∧
  ∀ (n : Nat) (m : Int) (H' : Hp) (p : Addr), 1 ≤ n → n ≤ 12 → 0 ≤ m → m ≤ 9999 → Same H H' → H p = none → H' p = some (.tup [.int (n : Nat), .int m]) → Q (.ref p) H'
theorem ok_size {f : Addr} {fd : FuncData} {k : Nat} (F : Fun K "_law_market_size" "_law_market_size" sSize f fd) (ma : mg "abs" = none) : FnOk P w K mg base CX0 (k + 1) f fd ["_law_shape"] spSize := by
  refine F.ok scSize (fun vs H Q E h => ?_) (fun cdv A outer s H vs Q E hr h => ?_)
  · obtain ⟨z, rfl, _⟩ := h
    rfl
  · obtain ⟨z, rfl, q⟩ := h
    refine ⟨_, pss_cons (ps_set (i := 1) scSize.nd rfl (.inl rfl) (pe_op op_mod (pe_callB call_abs (by rfl) ma (by decide +kernel) (pa_cons (pv 0) pa_nil)) pe_int))
      (pss_cons (ps_if (pt_cmpR op_eq (pv 1) pe_int (nomark _))
        (pss_one (ps_ret (pe_tup (pa_cons (pe_op op_add pe_int (pe_op op_mod (pe_op op_fdiv (pe_callB call_abs (by rfl) ma (by decide +kernel) (pa_cons (pv 0) pa_nil)) pe_int) pe_int)) (pa_cons pe_int pa_nil))))) pss_nil)
      (pss_cons (ps_if (pt_cmpR op_eq (pv 1) pe_int (nomark _)) (pss_one (ps_ret (pe_tup (pa_cons pe_int (pa_cons pe_int pa_nil))))) pss_nil)
      (pss_one (ps_ret (pe_tup (pa_cons (pe_op op_add pe_int (pe_op op_mod (pe_op op_fdiv (pe_callB call_abs (by rfl) ma (by decide +kernel) (pa_cons (pv 0) pa_nil)) pe_int) pe_int))
        (pa_cons (pe_ix ix_list (pe_lst (pa_cons pe_int (pa_cons pe_int (pa_cons pe_int pa_nil)))) (pe_op op_mod (pe_op op_fdiv (pe_callB call_abs (by rfl) ma (by decide +kernel) (pa_cons (pv 0) pa_nil)) pe_int) pe_int) (fun _ _ => rfl)) pa_nil))))))), ?_⟩
    -- kind = abs(shape) % 5
    refine ⟨_, rfl, z, rfl, _, _, rfl, rfl, (by show (0 : Int) < 5; decide), ?_⟩
    -- if kind == 1
    refine ⟨_, rfl, rfl, _, rfl, ite2 (fun _ => ?_) (fun _ => ?_)⟩
    · refine ⟨_, rfl, z, rfl, _, _, rfl, rfl, ⟨by decide, by decide⟩, _, _, rfl, rfl, (by show (0 : Int) < 2; decide), _, _, rfl, rfl, (by show 2 ≤ sizeLine; decide), fun p np => ?_⟩
      generalize (if z < 0 then -z else z) / 5 = v
      have v0 := Int.emod_nonneg v (show (2 : Int) ≠ 0 by decide)
      have v1 := Int.emod_lt_of_pos v (show (0 : Int) < 2 by decide)
      refine q (2 + v % 2).toNat 9999 _ p (by omega) (by omega) (by decide) (by decide) (same_upd np) np ?_
      rw [upd_same, Int.toNat_of_nonneg (by omega)]
    · -- if kind == 2
      refine ⟨_, rfl, rfl, _, rfl, ite2 (fun _ => ?_) (fun _ => ?_)⟩
      · refine ⟨(by show 2 ≤ sizeLine; decide), fun p np => ?_⟩
        exact q 12 30 _ p (by decide) (by decide) (by decide) (by decide) (same_upd np) np upd_same
      · refine ⟨_, rfl, z, rfl, _, _, rfl, rfl, ⟨by decide, by decide⟩, _, _, rfl, rfl, (by show (0 : Int) < 6; decide), _, _, rfl, rfl, (by show 3 ≤ sizeLine; decide), fun l nl => ?_⟩
        generalize (if z < 0 then -z else z) / 5 = v
        have v0 := Int.emod_nonneg v (show (6 : Int) ≠ 0 by decide)
        have v1 := Int.emod_lt_of_pos v (show (0 : Int) < 6 by decide)
        refine ⟨_, rfl, z, rfl, _, _, rfl, rfl, ⟨by decide, by decide⟩, _, _, rfl, rfl, (by show (0 : Int) < 3; decide), ?_⟩
        generalize (if z < 0 then -z else z) / 30 = x
        have x0 := Int.emod_nonneg x (show (3 : Int) ≠ 0 by decide)
        have x1 := Int.emod_lt_of_pos x (show (0 : Int) < 3 by decide)
        obtain ⟨j, hj⟩ : ∃ j : Nat, x % 3 = (j : Int) := ⟨(x % 3).toNat, by omega⟩
        have hj3 : j < 3 := by omega
        have e3 : [V.int 400, .int 3, .int 40] = ([400, 3, 40] : List Int).map V.int := rfl
        refine ⟨l, ([400, 3, 40] : List Int).map V.int, _, _, rfl, rfl, SqL.of upd_same, at_of hj (int_at hj3), (by show 2 ≤ sizeLine; decide), fun p np => ?_⟩
        have s1 : Same H (upd H l (.lst (([400, 3, 40] : List Int).map V.int))) := same_upd nl
        refine q (1 + v % 6).toNat (([400, 3, 40] : List Int).getD j 0) _ p (by omega) (by omega) ?_ ?_ (s1.trans (same_upd np)) (s1.free np) ?_
        · match j, hj3 with
          | 0, _ => decide
          | 1, _ => decide
          | 2, _ => decide
        · match j, hj3 with
          | 0, _ => decide
          | 1, _ => decide
          | 2, _ => decide
        · rw [upd_same, Int.toNat_of_nonneg (by omega)]
end
end K44
namespace K44
open PySem PySem.Spec PyProof.Rows L2
/-- a middle: what the first part reaches, whatever is wanted behind it -/
theorem seq_of {t u : TS} {D : Ends} {σ : L2.St} {H : Hp} (M : L2.St → Hp → Prop) (h2 : ∀ σ H, M σ H → u D σ H) (h1 : ∀ N : L2.St → Hp → Prop, (∀ σ H, M σ H → N σ H) → t { D with nx := N } σ H) : tSeq t u D σ H := h1 (u D) h2
/-- a comprehension without a test, over a list, its own name in slot j -/
theorem lcL {K : PySem.W.Frag} {a : Addr} {xs : List V} {j : Nat} {te : TE} {vs : List Nat} {σ : L2.St} {H1 : Hp} {D : Addr} {Qd : Hp → Prop} (Pv : Nat → Hp → Prop) (h0 : Pv 0 (upd H1 D (.lst []))) (hl : ∀ i H, Pv i H → SqL K H a xs)
    (hs : ∀ i x H, xs[i]? = some x → Pv i H → te ((wipe σ vs).set j (some x)) H fun y H4 => ∃ acc, H4 D = some (.lst acc) ∧ acc.length < sizeLine ∧ Pv (i + 1) (upd H4 D (.lst (acc ++ [y]))))
    (hd : ∀ H, Pv xs.length H → Qd H) (hw : ∀ x : V, wipe ((wipe σ vs).set j (some x)) vs = wipe σ vs := by intro _; rfl) :
    ∃ W : Nat → Nat → Hp → Prop, (∃ m, W 0 m (upd H1 D (.lst []))) ∧ ∀ i m H, W i m H →
      ((Itl K a).stop i H ∧ Qd H) ∨ ((Itl K a).go i H ∧ ∃ Nx : Hp → Prop, (∀ H', Nx H' → ∃ m', m' < m ∧ W (i + 1) m' H') ∧ ∀ x H', (Itl K a).yld i H x H' → gName j x (wipe σ vs) H' fun σ2 H2 => wipe σ2 vs = wipe σ vs ∧ tYes σ2 H2 fun b H3 =>
        if b = true then te σ2 H3 fun y H4 => ∃ acc, H4 D = some (.lst acc) ∧ acc.length < sizeLine ∧ Nx (upd H4 D (.lst (acc ++ [y]))) else Nx H3) := by
  refine lc_list Pv h0 (fun i H _ h => hl i H h) (fun i x H hx hp => ?_) hd
  refine ⟨hw x, ?_⟩
  unfold tYes
  dsimp only
  rw [if_pos rfl]
  exact hs i x H hx hp
theorem lcR {lo : Int} {n : Nat} {j : Nat} {te : TE} {vs : List Nat} {σ : L2.St} {H1 : Hp} {D : Addr} {Qd : Hp → Prop} (Pv : Nat → Hp → Prop) (h0 : Pv 0 (upd H1 D (.lst [])))
    (hs : ∀ i H, i < n → Pv i H → te ((wipe σ vs).set j (some (.int (lo + i)))) H fun y H4 => ∃ acc, H4 D = some (.lst acc) ∧ acc.length < sizeLine ∧ Pv (i + 1) (upd H4 D (.lst (acc ++ [y]))))
    (hd : ∀ H, Pv n H → Qd H) (hw : ∀ x : V, wipe ((wipe σ vs).set j (some x)) vs = wipe σ vs := by intro _; rfl) :
    ∃ W : Nat → Nat → Hp → Prop, (∃ m, W 0 m (upd H1 D (.lst []))) ∧ ∀ i m H, W i m H →
      ((Itr lo n).stop i H ∧ Qd H) ∨ ((Itr lo n).go i H ∧ ∃ Nx : Hp → Prop, (∀ H', Nx H' → ∃ m', m' < m ∧ W (i + 1) m' H') ∧ ∀ x H', (Itr lo n).yld i H x H' → gName j x (wipe σ vs) H' fun σ2 H2 => wipe σ2 vs = wipe σ vs ∧ tYes σ2 H2 fun b H3 =>
        if b = true then te σ2 H3 fun y H4 => ∃ acc, H4 D = some (.lst acc) ∧ acc.length < sizeLine ∧ Nx (upd H4 D (.lst (acc ++ [y]))) else Nx H3) := by
  refine lc_range Pv h0 (fun i H hx hp => ?_) hd
  refine ⟨hw _, ?_⟩
  unfold tYes
  dsimp only
  rw [if_pos rfl]
  exact hs i H hx hp
theorem Below.set {m d : Int} {ds : List Int} (h : Below m ds) (i : Nat) (h0 : 0 ≤ d) (h1 : d < m) : Below m (ds.set i d) := fun x hx => by
  rcases List.mem_or_eq_of_mem_set hx with hx | hx
  · exact h x hx
  · rw [hx]
    exact ⟨h0, h1⟩
theorem Below.mono {m m' : Int} {ds : List Int} (h : Below m ds) (hm : m ≤ m') : Below m' ds := fun x hx => ⟨(h x hx).1, Int.lt_of_lt_of_le (h x hx).2 hm⟩
theorem Below.get {m : Int} {ds : List Int} (h : Below m ds) {i : Nat} (hi : i < ds.length) : 0 ≤ ds.getD i 0 ∧ ds.getD i 0 < m := by
  rw [List.getD_eq_getElem?_getD, List.getElem?_eq_getElem hi]
  exact h _ (List.getElem_mem hi)
theorem ixN_of {n : Nat} {z : Int} {j : Nat} (e : z = (j : Int)) (h : j < n) : ixN n z = some j := by
  subst e
  have h0 : (0 : Int) ≤ (j : Int) := Int.natCast_nonneg j
  have h1 : (j : Int) < (n : Int) := Int.ofNat_lt.mpr h
  simp only [ixN, h0, h1, if_true, Int.toNat_natCast]
section
variable {P : Program} {w : World} {K : PySem.W.Frag} {mg : Str → Option Value} {base : Heap}
/-! ### _law_row -/
def spRow : Sp := fun vs H Q _ => ∃ (c s : Int) (i n : Nat) (m : Int), vs = [.int c, .int s, .int (i : Nat), .int (n : Nat), .int m] ∧ i < n ∧ n ≤ 12 ∧ 0 ≤ m ∧ m ≤ 9999 ∧
  ∀ (r : List Int) (H' : Hp) (p : Addr), r.length = n → Below 10000 r → r.getD i 0 = 0 → Same H H' → H p = none → H' p = some (.lst (r.map V.int)) → Q (.ref p) H'
theorem ok_row {f fD : Addr} {fd fdD : FuncData} (F : Fun K "_law_row" "_law_row" sRow f fd) (FD : Fun K "_law_draws" "_law_draws" sDraws fD fdD) (bD : Binds K fdD ["_law_cell_here", "_law_count", "_law_size"] []) (gD : mg "_law_draws" = some (.ref fD))
    (ma : mg "abs" = none) (mr : mg "range" = none) (mi : mg "int" = none) :
    FnOk P w K mg base CX0 2 f fd ["_law_cell_here", "_law_shape", "_law_payer", "_law_count", "_law_size"] spRow := by
  have GD : FnOk P w K mg base CX0 1 fD fdD ["_law_cell_here", "_law_count", "_law_size"] spDraws := ok_draws FD ma mr mi
  refine F.ok scRow (fun vs H Q E h => ?_) (fun cdv A outer s H vs Q E hr h => ?_)
  · obtain ⟨c, z, i, n, m, rfl, _⟩ := h
    rfl
  · obtain ⟨c, z, i, n, m, rfl, hi, hn, m0, m1, q⟩ := h
    refine ⟨_, pss_cons (ps_set (i := 5) scRow.nd rfl (.inl rfl) (pe_call GD hr (by rfl) gD FD.kp bD .nil pass0 (pa_cons (pv 0) (pa_cons (pv 3) (pa_cons (pe_op op_add (pv 4) pe_int) pa_nil)))))
      (pss_cons (ps_if (pt_cmpR op_eq (pe_op op_mod (pe_callB call_abs (by rfl) ma (by decide +kernel) (pa_cons (pv 1) pa_nil)) pe_int) pe_int (nomark _))
        (pss_cons (ps_setLc (i := 5) (own := [("_law_draw", 6)]) (g := gName 6) (tt := tYes) rfl scRow.nd rfl rfl (sw_true rfl rfl rfl (by decide +kernel)) (pi_list (pv 5))
            (blkOk_by (N := ["_law_cell_here", "_law_shape", "_law_payer", "_law_count", "_law_size", "_law_draws_here", "_law_draw"]) (sc := defScope sRow) (by decide +kernel))
            (fun _ _ _ _ _ => pg_name (i := 6) scRow.nd rfl (Or.inl rfl)) (fun _ _ _ _ _ => pts_nil)
            (fun _ _ _ _ _ => pe_op op_mod (pe_callTy call_int1 (by rfl) mi (by decide +kernel) (pa_cons (pv 6) pa_nil)) pe_int))
          (pss_one (ps_asg (pv 4) (pg_sub (pv 5) (pe_op op_mod (pe_callTy call_int1 (by rfl) mi (by decide +kernel) (pa_cons (pe_op op_add (pv 2) pe_int) pa_nil)) (pv 3)) set_list)))) pss_nil)
      (pss_cons (ps_if (pt_cmpR op_eq (pe_op op_mod (pe_callB call_abs (by rfl) ma (by decide +kernel) (pa_cons (pv 1) pa_nil)) pe_int) pe_int (nomark _))
        (pss_one (ps_setLc (i := 5) (own := [("_law_draw", 6)]) (g := gName 6) (tt := tYes) rfl scRow.nd rfl rfl (sw_true rfl rfl rfl (by decide +kernel)) (pi_list (pv 5))
            (blkOk_by (N := ["_law_cell_here", "_law_shape", "_law_payer", "_law_count", "_law_size", "_law_draws_here", "_law_draw"]) (sc := defScope sRow) (by decide +kernel))
            (fun _ _ _ _ _ => pg_name (i := 6) scRow.nd rfl (Or.inl rfl)) (fun _ _ _ _ _ => pts_nil)
            (fun _ _ _ _ _ => pe_op op_mul (pv 6) (pe_callTy call_int1 (by rfl) mi (by decide +kernel) (pa_cons (pe_cmpR op_eq (pe_op op_mod (pv 6) pe_int) pe_int (nomark _)) pa_nil))))) pss_nil)
      (pss_cons (ps_asg pe_int (pg_sub (pv 5) (pv 2) set_list)) (pss_one (ps_ret (pv 5)))))), ?_⟩
    -- draws
    refine ⟨_, rfl, _, rfl, _, rfl, _, _, rfl, rfl, c, n, m + 1, rfl, by omega, by omega, by omega, fun ds H1 p hl hb s1 np hp => ?_⟩
    dsimp only [gName]
    refine seq_of (fun σ H2 => ∃ (ds : List Int) (p : Addr) (y6 : Option V), σ = [some (.int c), some (.int z), some (.int (i : Nat)), some (.int (n : Nat)), some (.int m), some (.ref p), y6] ∧ Same H H2 ∧ H p = none ∧ H2 p = some (.lst (ds.map V.int)) ∧ ds.length = n ∧ Below 10000 ds) ?_ ?_
    · -- the second test
      rintro σ H2 ⟨ds, p, y6, rfl, s2, np, hp, hl, hb⟩
      refine seq_of (fun σ H2 => ∃ (ds : List Int) (p : Addr) (y6 : Option V), σ = [some (.int c), some (.int z), some (.int (i : Nat)), some (.int (n : Nat)), some (.int m), some (.ref p), y6] ∧ Same H H2 ∧ H p = none ∧ H2 p = some (.lst (ds.map V.int)) ∧ ds.length = n ∧ Below 10000 ds) ?_ ?_
      · -- draws[payer] = 0; return
        rintro σ H3 ⟨ds, p, y6, rfl, s3, np, hp, hl, hb⟩
        refine ⟨_, rfl, _, rfl, p, _, _, i, rfl, rfl, hp, ixN_of rfl (by rw [List.length_map, hl]; exact hi), ?_⟩
        refine ⟨_, rfl, q (ds.set i 0) _ p (by rw [List.length_set]; exact hl) (hb.set i (by decide) (by decide)) ?_ (same_put s3 np) np ?_⟩
        · rw [getD_set _ _ _ _ (by rw [hl]; exact hi), if_pos rfl]
        · rw [upd_same, set_ints]
      · intro N hN
        refine ⟨_, rfl, _, rfl, _, _, rfl, rfl, (by show (0 : Int) < 5; decide), rfl, _, rfl, ite2 (fun _ => ?_) (fun _ => hN _ _ ⟨ds, p, y6, rfl, s2, np, hp, hl, hb⟩)⟩
        refine ⟨.ref p, rfl, p, rfl, ⟨_, SqL.of hp⟩, fun D nD => lcL (K := K) (a := p) (xs := ds.map V.int)
          (fun l H3 => Same H2 H3 ∧ ∃ es : List Int, H3 D = some (.lst (es.map V.int)) ∧ es.length = l ∧ Below 10000 es) ⟨same_upd nD, [], upd_same, rfl, Below.nil⟩ (fun l H3 h => h.1.seq (SqL.of hp)) ?_ ?_⟩
        · rintro l x H3 hx ⟨s3, es, hD, hel, heb⟩
          obtain ⟨hlt, rfl⟩ := int_of_at hx
          obtain ⟨g0, g1⟩ := hb.get hlt
          refine ⟨_, rfl, _, rfl, _, _, rfl, rfl, (by show (0 : Int) < 3; decide), rfl, .inr ⟨_, rfl, _, _, rfl, rfl, .inl ⟨by omega, by omega⟩, es.map V.int, hD, (by rw [List.length_map]; exact small1000 (by omega)), ?_⟩⟩
          refine ⟨fun b o e => ?_, es ++ [_], by rw [upd_same, ← snoc_ints], by rw [List.length_append, hel]; rfl, heb.snoc ?_ ?_⟩
          · rw [upd_ne (ne_of_none e nD)]
            exact s3 b o e
          · split
            · omega
            · omega
          · split
            · omega
            · omega
        · rintro H3 ⟨s3, es, hD, hel, heb⟩
          rw [List.length_map, hl] at hel
          exact hN _ _ ⟨es, D, y6, rfl, s2.trans s3, s2.free nD, hD, hel, heb⟩
    · intro N hN
      have hb' : Below 10000 ds := hb.mono (by omega)
      refine ⟨_, rfl, _, rfl, _, _, rfl, rfl, (by show (0 : Int) < 5; decide), rfl, _, rfl, ite2 (fun _ => ?_) (fun _ => hN _ _ ⟨ds, p, none, rfl, s1, np, hp, hl, hb'⟩)⟩
      refine ⟨.ref p, rfl, p, rfl, ⟨_, SqL.of hp⟩, fun D nD => lcL (K := K) (a := p) (xs := ds.map V.int)
        (fun l H3 => Same H1 H3 ∧ ∃ es : List Int, H3 D = some (.lst (es.map V.int)) ∧ es.length = l ∧ Below 10000 es) ⟨same_upd nD, [], upd_same, rfl, Below.nil⟩ (fun l H3 h => h.1.seq (SqL.of hp)) ?_ ?_⟩
      · rintro l x H3 hx ⟨s3, es, hD, hel, heb⟩
        obtain ⟨hlt, rfl⟩ := int_of_at hx
        refine ⟨_, rfl, .inl ⟨_, rfl, _, _, rfl, rfl, (by show (0 : Int) < 2; decide), es.map V.int, hD, (by rw [List.length_map]; exact small1000 (by omega)), ?_⟩⟩
        refine ⟨fun b o e => ?_, es ++ [ds.getD l 0 % 2], by rw [upd_same, ← snoc_ints], by rw [List.length_append, hel]; rfl, heb.snoc (Int.emod_nonneg _ (by decide)) ?_⟩
        · rw [upd_ne (ne_of_none e nD)]
          exact s3 b o e
        · have := Int.emod_lt_of_pos (ds.getD l 0) (show (0 : Int) < 2 by decide)
          omega
      · rintro H3 ⟨s3, es, hD, hel, heb⟩
        rw [List.length_map, hl] at hel
        -- draws[(payer + 1) % count] = size
        have j0 := Int.emod_nonneg ((i : Nat) + 1 : Int) (show ((n : Nat) : Int) ≠ 0 by omega)
        have j1 := Int.emod_lt_of_pos ((i : Nat) + 1 : Int) (show (0 : Int) < ((n : Nat) : Int) by omega)
        obtain ⟨j, hj⟩ : ∃ j : Nat, ((i : Nat) + 1 : Int) % ((n : Nat) : Int) = (j : Int) := ⟨(((i : Nat) + 1 : Int) % ((n : Nat) : Int)).toNat, by omega⟩
        refine ⟨_, rfl, _, rfl, _, rfl, _, _, rfl, rfl, .inl ⟨_, rfl, _, rfl, _, _, rfl, rfl, (by show (0 : Int) < ((n : Nat) : Int); omega), D, _, _, j, rfl, rfl, hD, ixN_of hj (by rw [List.length_map]; omega), ?_⟩⟩
        refine hN _ _ ⟨es.set j m, D, none, rfl, same_put (s1.trans s3) (s1.free nD), s1.free nD, ?_, by rw [List.length_set]; exact hel, heb.set j m0 (by omega)⟩
        rw [upd_same, set_ints]
/-! ### _law_sum -/
def spSum : Sp := fun vs H Q _ => ∃ (a : Addr) (as : List Addr) (ps : List Pay), vs = [.ref a] ∧ PayA H a as ps ∧ ps.length ≤ 100 ∧ ∀ H', Same H H' → Q (.int (amounts ps)) H'
theorem ok_sum {f fI : Addr} {fd fdI : FuncData} (F : Fun K "_law_sum" "_law_sum" sSum f fd) (FI : Fun K "_law_is_integer" "_law_is_integer" sIsInt fI fdI) (bI : Binds K fdI ["_law_actual"] []) (gI : mg "_law_is_integer" = some (.ref fI))
    (mi : mg "isinstance" = none) (mt : mg "int" = none) (mb : mg "bool" = none) (ml : mg "len" = none) (mli : mg "list" = none) (mtu : mg "tuple" = none) (ms : mg "sum" = none) :
    FnOk P w K mg base CX0 2 f fd ["_law_payments"] spSum := by
  have GI : FnOk P w K mg base CX0 1 fI fdI ["_law_actual"] spIsInt := ok_isint FI mi mt mb
  refine F.ok scSum (fun vs H Q E h => ?_) (fun cdv A outer s H vs Q E hr h => ?_)
  · obtain ⟨a, as, ps, rfl, _⟩ := h
    rfl
  · obtain ⟨a, as, ps, rfl, hP, hlen, q⟩ := h
    refine ⟨_, pss_cons (ps_if (pt_not (pt_val (pe_callB call_isi (by rfl) mi (by decide +kernel) (pa_cons (pv 0) (pa_cons (pe_bltn (v := .ty "list") (by rfl) mli (by decide +kernel) rfl) pa_nil))))) pss_never pss_nil)
      (pss_cons (ps_for PassesOwn.never rfl (pi_list (pv 0)) (pg_name (i := 1) scSum.nd rfl (.inl rfl))
        (pss_one (ps_if (PW.pt (pw_or (pt_not (pt_val (pe_callB call_isi (by rfl) mi (by decide +kernel) (pa_cons (pv 1) (pa_cons (pe_bltn (v := .ty "tuple") (by rfl) mtu (by decide +kernel) rfl) pa_nil)))))
          (pw_or (pt_cmpR op_ne (pe_callB call_len_seq (by rfl) ml PySem.boot_len (pa_cons (pv 1) pa_nil)) pe_int (nomark _))
          (pw_or1 (pt_not (pt_val (pe_call GI hr (by rfl) gI FI.kp bI .nil pass0 (pa_cons (pe_ix ix_tup (pv 1) pe_int (fun _ _ => rfl)) pa_nil)))))))) pss_never pss_nil)))
      (pss_one (ps_ret (pe_callB (cr_sum rfl) (by rfl) ms (by decide +kernel) (pa_cons (pe_lc (own := [("_law_payment", 1)]) (g := gName 1) (tt := tYes) (by rfl) scSum.nd (pi_list (pv 0))
          (blkOk_by (N := ["_law_payments", "_law_payment"]) (sc := defScope sSum) (by decide +kernel)) (fun _ _ _ _ _ => pg_name (i := 1) scSum.nd rfl (Or.inl rfl)) (fun _ _ _ _ _ => pts_nil)
          (fun _ _ _ _ _ => pe_ix (r := rIxT K) ix_tup (pv 1) pe_int (fun _ _ => rfl))) pa_nil))))), ?_⟩
    have el : (as.map V.ref).length = ps.length := by rw [List.length_map, hP.len]
    -- isinstance(payments, list)
    refine ⟨_, rfl, .ref a, .ty "list", .type "list", .type "list", true, rfl, .ty "list", .base (.lst hP.top), kit_ty (by decide +kernel), _, rfl, iteF ?_⟩
    -- the loop
    refine ⟨.ref a, rfl, a, rfl, ⟨_, SqL.of hP.top⟩, for_list (K := K) (a := a) (xs := as.map V.ref) (fun i σ H2 => ∃ y1, σ = [some (.ref a), y1] ∧ H2 = H) ⟨none, rfl, rfl⟩ (fun i σ H2 _ ⟨_, _, e⟩ => by rw [e]; exact SqL.of hP.top) ?_ ?_⟩
    · rintro i x σ H2 hx ⟨y1, rfl, rfl⟩
      obtain ⟨b, hb, rfl⟩ := ref_of_at hx
      obtain ⟨pq, hq, hbt⟩ := hP.tup i b hb
      refine ⟨_, rfl, .ref b, .ty "tuple", .type "tuple", .type "tuple", true, rfl, .ty "tuple", .base (.tup hbt), kit_ty (by decide +kernel), _, rfl, iteF ?_⟩
      refine ⟨.ref b, rfl, b, _, rfl, .inr (SqT.of hbt), rfl, _, rfl, ?_⟩
      rw [show decide (V.int ((payV pq).length : Nat) = V.int 3) = true from decide_eq_true rfl]
      refine iteF ?_
      refine ⟨.ref b, rfl, b, _, _, .int pq.2.2, rfl, rfl, SqT.of hbt, atI_nat (j := 2) rfl, pq.2.2, rfl, _, rfl, iteF ?_⟩
      exact ⟨_, rfl, rfl⟩
    · rintro σ H2 ⟨y1, rfl, rfl⟩
      -- sum([payment[2] ..])
      refine ⟨.ref a, rfl, a, rfl, ⟨_, SqL.of hP.top⟩, fun D nD => lcL (K := K) (a := a) (xs := as.map V.ref)
        (fun l H3 => Same H2 H3 ∧ H3 D = some (.lst (((ps.take l).map fun z => z.2.2).map V.int))) ⟨same_upd nD, upd_same⟩ (fun l H3 h => h.1.seq (SqL.of hP.top)) ?_ ?_⟩
      · rintro l x H3 hx ⟨s3, hD⟩
        obtain ⟨b, hb, rfl⟩ := ref_of_at hx
        obtain ⟨pq, hq, hbt⟩ := hP.tup l b hb
        have hl : l < ps.length := (List.getElem?_eq_some_iff.mp hq).1
        refine ⟨.ref b, rfl, b, _, _, .int pq.2.2, rfl, rfl, SqT.of (s3 _ _ hbt), atI_nat (j := 2) rfl, _, hD, ?_, ?_, ?_⟩
        · rw [List.length_map, List.length_map, List.length_take]
          exact small1000 (by omega)
        · exact fun c o e => by
            rw [upd_ne (ne_of_none e nD)]
            exact s3 c o e
        · rw [upd_same, List.take_add_one, hq, List.map_append, List.map_append]
          rfl
      · rintro H3 ⟨s3, hD⟩
        rw [el, List.take_length] at hD
        exact ⟨D, _, rfl, SqL.of hD, q H3 s3⟩
end
end K44
namespace K44
open PySem PySem.Spec PyProof.Rows L2
/-- a comprehension's scope -/
def compSc : Expr → Scope
  | .ListComp _ _ sc _ => sc
  | _ => default
def retE : Stmt → Expr
  | .Return (some e) _ => e
  | _ => default
abbrev netsE : Expr := retE ((defBody sNets).getD 1 (.Pass ⟨0, 0, 0, 0⟩))
theorem PayA.other {H : Hp} {L O : Addr} {as : List Addr} {ps : List Pay} {xs : List V} {u : HO} (h : PayA H L as ps) (e : H O = some (.lst xs)) (n : O ≠ L) : PayA (upd H O u) L as ps := by
  refine ⟨by rw [upd_ne (Ne.symm n)]; exact h.top, h.len, fun j b eb => ?_⟩
  obtain ⟨q, h1, h2⟩ := h.tup j b eb
  refine ⟨q, h1, ?_⟩
  rw [upd_ne (ne_of h2 e (by intro z; cases z))]
  exact h2
section
variable {P : Program} {w : World} {K : PySem.W.Frag} {mg : Str → Option Value} {base : Heap}
/-! ### net_amounts -/
def spNets : Sp := fun vs H Q _ => ∃ (a : Addr) (as : List Addr) (t : Tbl) (n : Nat), vs = [.ref a] ∧ TabA H a as t ∧ Tab n t ∧ 1 ≤ n ∧ n ≤ 13 ∧ Most 1000000000000000 t ∧
  ∀ (H' : Hp) (p : Addr), Same H H' → H p = none → H' p = some (.lst ((netsL t).map V.int)) → Q (.ref p) H'
theorem ok_nets {f fC : Addr} {fd fdC : FuncData} {t1 t2 : Tok} (F : Fun K "net_amounts" "net_amounts" sNets f fd) (FC : Fun K "check_debts" "check_debts" sCheck fC fdC) (bC : Binds K fdC ["owed"] []) (gC : mg "check_debts" = some (.ref fC))
    (ml : mg "len" = none) (mr : mg "range" = none) (ms : mg "sum" = none) (m1 : mg "MOST_HOUSES" = some (.int 13 t1)) (m2 : mg "LARGEST_DEBT" = some (.int 1000000000000000 t2)) :
    FnOk P w K mg base CX0 2 f fd ["owed"] spNets := by
  have GC : FnOk P w K mg base CX0 1 fC fdC ["owed"] spCheck := ok_check FC ml mr m1 m2
  refine F.ok scNets (fun vs H Q E h => ?_) (fun cdv A outer s H vs Q E hr h => ?_)
  · obtain ⟨a, as, t, n, rfl, _⟩ := h
    rfl
  · obtain ⟨a, as, t, n, rfl, hT, T, n1, n2, hM, q⟩ := h
    refine ⟨_, pss_cons (ps_expr (pe_call GC hr (by rfl) gC FC.kp bC .nil pass0 (pa_cons (pv 0) pa_nil)))
      (pss_one (ps_ret (pe_lc (own := [("house", 1)]) (g := gName 1) (tt := tYes) (by rfl) scNets.nd (pi_range1 (by rfl) mr (pa_cons (pe_callB call_len_seq (by rfl) ml PySem.boot_len (pa_cons (pv 0) pa_nil)) pa_nil))
        (blkOk_by (N := ["owed", "house", "row"]) (sc := defScope sNets) (by decide +kernel)) (fun _ _ _ _ _ => pg_name (i := 1) scNets.nd rfl (Or.inr rfl)) (fun _ _ _ _ _ => pts_nil)
        (fun _ _ _ _ _ => pe_op op_sub
          (pe_callB (r := rSum K) (cr_sum rfl) (by rfl) ms (by decide +kernel) (pa_cons (pe_lc (wi := iList K (tVar 0)) (own := [("row", 2)]) (g := gName 2) (tt := tYes) (by rfl) scNets.nd (pi_list (pv 0))
            (blkOk_by (N := ["owed", "house", "row"]) (sc := relS (compSc netsE) (defScope sNets)) (by decide +kernel)) (fun _ _ _ _ _ => pg_name (i := 2) scNets.nd rfl (Or.inl rfl)) (fun _ _ _ _ _ => pts_nil)
            (fun _ _ _ _ _ => pe_ix (r := rIxL K) ix_list (pv 2) (pv 1) (fun _ _ => rfl))) pa_nil))
          (pe_callB (r := rSum K) (cr_sum rfl) (by rfl) ms (by decide +kernel) (pa_cons (pe_ix (r := rIxL K) ix_list (pv 0) (pv 1) (fun _ _ => rfl)) pa_nil)))))), ?_⟩
    have el : (as.map V.ref).length = n := by rw [List.length_map, hT.len, T.len]
    -- check_debts(owed)
    refine ⟨.ref a, rfl, a, as, t, n, rfl, hT, T, n1, n2, hM, ?_⟩
    -- the comprehension
    refine ⟨.ref a, rfl, a, as.map V.ref, rfl, .inl (SqL.of hT.top), ((as.map V.ref).length : Int), rfl, by omega, by omega, fun D nD => ?_⟩
    refine lcR (lo := 0) (n := ((as.map V.ref).length : Int).toNat) (fun i H2 => Same H H2 ∧ H2 D = some (.lst (((List.range i).map (net t)).map V.int))) ⟨same_upd nD, upd_same⟩ ?_ ?_
    · rintro i H2 hi ⟨s2, hD⟩
      have hin : i < n := by omega
      have ez : (0 : Int) + (i : Int) = ((i : Nat) : Int) := Int.zero_add _
      obtain ⟨b, hb, hb2⟩ := ref_at (as := as) (i := i) (by rw [hT.len, T.len]; exact hin)
      have T2 := hT.same s2
      -- sum([row[house] for row in owed])
      refine ⟨.ref a, rfl, a, rfl, ⟨_, SqL.of T2.top⟩, fun C nC => lcL (K := K) (a := a) (xs := as.map V.ref)
        (fun l H3 => Same H2 H3 ∧ H3 C = some (.lst (((t.take l).map fun r => r.getD i 0).map V.int))) ⟨same_upd nC, upd_same⟩ (fun l H3 h => h.1.seq (SqL.of T2.top)) ?_ ?_⟩
      · rintro l x H3 hx ⟨s3, hC⟩
        obtain ⟨c, hc, rfl⟩ := ref_of_at hx
        have hR := s3 _ _ (T2.row l c hc)
        have hl : l < t.length := by
          rw [← hT.len]
          exact (List.getElem?_eq_some_iff.mp hc).1
        have hrl : (t.getD l []).length = n := T.row _ (row_mem hl)
        refine ⟨.ref c, rfl, _, rfl, c, _, _, _, rfl, rfl, SqL.of hR, at_of ez (int_at (by rw [hrl]; exact hin)), _, hC, ?_, ?_, ?_⟩
        · rw [List.length_map, List.length_map, List.length_take]
          exact small1000 (by have := T.len; omega)
        · exact fun d o e => by
            rw [upd_ne (ne_of_none e nC)]
            exact s3 d o e
        · rw [upd_same, List.take_add_one, List.getElem?_eq_getElem hl, List.map_append, List.map_append]
          rw [List.getD_eq_getElem?_getD (l := t), List.getElem?_eq_getElem hl]
          rfl
      · rintro H3 ⟨s3, hC⟩
        have s23 := s2.trans s3
        have hR := s23 _ _ (hT.row i b hb)
        have hRn : (t.getD i []).length = n := T.row _ (row_mem (by rw [T.len]; exact hin))
        refine ⟨C, _, rfl, SqL.of hC, .ref a, rfl, _, rfl, a, _, _, .ref b, rfl, rfl, s23.seq (SqL.of hT.top), at_of ez hb2, b, _, rfl, SqL.of hR, _, _, rfl, rfl, ((List.range i).map (net t)).map V.int, s3 _ _ hD, ?_, ?_, ?_⟩
        · rw [List.length_map, List.length_map, List.length_range]
          exact small1000 (by omega)
        · exact fun d o e => by
            rw [upd_ne (ne_of_none e nD)]
            exact s23 d o e
        · rw [upd_same, List.range_succ, List.map_append, List.map_append]
          have e1 : t.take (as.map V.ref).length = t := by
            rw [el, ← T.len, List.take_length]
          rw [e1]
          rfl
    · rintro H2 ⟨s2, hD⟩
      refine q H2 D s2 nD ?_
      rw [hD]
      unfold netsL
      rw [el, T.len]
      rfl
/-! ### compress -/
def spComp : Sp := fun vs H Q _ => ∃ (a : Addr) (as : List Addr) (t : Tbl) (n : Nat), vs = [.ref a] ∧ TabA H a as t ∧ Tab n t ∧ 1 ≤ n ∧ n ≤ 13 ∧ Most 1000000000000000 t ∧
  ∀ (H' : Hp) (p : Addr) (bs : List Addr), Same H H' → H p = none → PayA H' p bs (compressL (netsL t)) → (compressL (netsL t)).length ≤ 100 → Q (.ref p) H'
theorem ok_comp {f fN fC : Addr} {fd fdN fdC : FuncData} {t1 t2 : Tok} (F : Fun K "compress" "compress" sComp f fd) (FN : Fun K "net_amounts" "net_amounts" sNets fN fdN) (bN : Binds K fdN ["owed"] []) (gN : mg "net_amounts" = some (.ref fN))
    (FC : Fun K "check_debts" "check_debts" sCheck fC fdC) (bC : Binds K fdC ["owed"] []) (gC : mg "check_debts" = some (.ref fC))
    (ml : mg "len" = none) (mr : mg "range" = none) (ms : mg "sum" = none) (mm : mg "min" = none) (m1 : mg "MOST_HOUSES" = some (.int 13 t1)) (m2 : mg "LARGEST_DEBT" = some (.int 1000000000000000 t2)) :
    FnOk P w K mg base CX0 3 f fd ["owed"] spComp := by
  have GN : FnOk P w K mg base CX0 2 fN fdN ["owed"] spNets := ok_nets FN FC bC gC ml mr ms m1 m2
  refine F.ok scComp (fun vs H Q E h => ?_) (fun cdv A outer s H vs Q E hr h => ?_)
  · obtain ⟨a, as, t, n, rfl, _⟩ := h
    rfl
  · obtain ⟨a, as, t, n, rfl, hT, T, n1, n2, hM, q⟩ := h
    refine ⟨_, pss_cons (ps_set (i := 1) scComp.nd rfl (.inl rfl) (pe_call GN hr (by rfl) gN FN.kp bN .nil pass0 (pa_cons (pv 0) pa_nil)))
      (pss_cons (ps_set (i := 2) scComp.nd rfl (.inl rfl) (pe_lst pa_nil))
      (pss_cons (ps_set (i := 3) scComp.nd rfl (.inl rfl) pe_int)
      (pss_cons (ps_set (i := 4) scComp.nd rfl (.inl rfl) pe_int)
      (pss_cons (ps_set (i := 5) scComp.nd rfl (.inl rfl) (pe_callB call_len_seq (by rfl) ml PySem.boot_len (pa_cons (pv 0) pa_nil)))
      (pss_cons (ps_while PassesOwn.never (PW.pt (pw_and (pt_cmpR op_lt (pv 3) (pv 5) (nomark _)) (pw_and1 (pt_cmpR op_lt (pv 4) (pv 5) (nomark _)))))
        (pss_one (ps_if (pt_cmpR op_ge (pe_ix ix_list (pv 1) (pv 3) (fun _ _ => rfl)) pe_int (nomark _)) (pss_one (ps_aug (i := 3) scComp.nd rfl (.inl rfl) pe_int ip_add))
          (pss_one (ps_if (pt_cmpR op_le (pe_ix ix_list (pv 1) (pv 4) (fun _ _ => rfl)) pe_int (nomark _)) (pss_one (ps_aug (i := 4) scComp.nd rfl (.inl rfl) pe_int ip_add))
            (pss_cons (ps_set (i := 6) scComp.nd rfl (.inl rfl) (pe_callB (call_min2 rfl) (by rfl) mm (by decide +kernel) (pa_cons (pe_un un_neg (pe_ix ix_list (pv 1) (pv 3) (fun _ _ => rfl))) (pa_cons (pe_ix ix_list (pv 1) (pv 4) (fun _ _ => rfl)) pa_nil))))
            (pss_cons (ps_expr (pe_bm PySem.F.plainAttrs_list PySem.F.slot_list_append PySem.F.type_list_append mt_append (pv 2) (pa_cons (pe_tup (pa_cons (pv 3) (pa_cons (pv 4) (pa_cons (pv 6) pa_nil)))) pa_nil)))
            (pss_cons (ps_augS (pv 1) (pv 3) get_at (pv 6) ip_add set_list)
            (pss_one (ps_augS (pv 1) (pv 4) get_at (pv 6) ip_sub set_list))))))))))
      (pss_one (ps_ret (pv 2)))))))), ?_⟩
    have el : (as.map V.ref).length = n := by rw [List.length_map, hT.len, T.len]
    have eo : (netsL t).length = n := by rw [netsL_len, T.len]
    -- open_amounts = net_amounts(owed); payments = []
    refine ⟨.ref a, rfl, a, as, t, n, rfl, hT, T, n1, n2, hM, fun H1 O s1 nO hO => ?_⟩
    refine ⟨Nat.zero_le _, fun L nL => ?_⟩
    have nOL : O ≠ L := ne_of_none hO nL
    -- count = len(owed)
    refine ⟨.ref a, rfl, a, as.map V.ref, rfl, .inl (SqL.of ((s1.trans (same_upd nL)) _ _ hT.top)), ?_⟩
    dsimp only [gName]
    rw [el]
    -- while
    refine ⟨fun m σ H2 => ∃ (o : List Int) (p r : Nat) (ps : List Pay) (bs : List Addr) (y6 : Option V), σ = [some (.ref a), some (.ref O), some (.ref L), some (.int (p : Nat)), some (.int (r : Nat)), some (.int (n : Nat)), y6] ∧ Same H H2 ∧ H2 O = some (.lst (o.map V.int)) ∧ PayA H2 L bs ps ∧
        o.length = n ∧ p ≤ n ∧ r ≤ n ∧ meas o p r ≤ m ∧ ps ++ go m o p r = compressL (netsL t) ∧ ps.length + m ≤ 3 * n,
      ⟨3 * n, netsL t, 0, 0, [], [], none, rfl, s1.trans (same_upd nL), by rw [upd_ne nOL]; exact hO, ⟨upd_same, rfl, fun j b e => by rw [List.getElem?_nil] at e; cases e⟩, eo, Nat.zero_le _, Nat.zero_le _, by rw [← eo]; exact meas0 _, by unfold compressL; rw [eo]; rfl, by simp⟩, ?_⟩
    rintro m σ H2 ⟨o, p, r, ps, bs, y6, rfl, s2, hO2, hP, ho, hp, hr', hm, hgo, hlen⟩
    have fin : ¬ (p < n ∧ r < n) → Q (.ref L) H2 := fun hc => by
      rw [go_out (by rw [ho]; exact hc), List.append_nil] at hgo
      refine q H2 L bs s2 ?_ (by rw [← hgo]; exact hP) (by rw [← hgo]; omega)
      exact s1.free nL
    refine ⟨_, rfl, _, rfl, _, _, rfl, rfl, _, rfl, ite2 (fun e1 => ?_) (fun e1 => ?_)⟩
    · have cp : p < n := Int.ofNat_lt.mp (of_decide_eq_true e1)
      refine ⟨_, rfl, _, rfl, _, _, rfl, rfl, _, rfl, ite2 (fun e2 => ?_) (fun e2 => ?_)⟩
      · have cr : r < n := Int.ofNat_lt.mp (of_decide_eq_true e2)
        rw [← ho] at cp cr
        obtain ⟨m', rfl⟩ := meas_pos hm cp
        refine ⟨fun σ' H' => ∃ (o : List Int) (p r : Nat) (ps : List Pay) (bs : List Addr) (y6 : Option V), σ' = [some (.ref a), some (.ref O), some (.ref L), some (.int (p : Nat)), some (.int (r : Nat)), some (.int (n : Nat)), y6] ∧ Same H H' ∧ H' O = some (.lst (o.map V.int)) ∧ PayA H' L bs ps ∧
          o.length = n ∧ p ≤ n ∧ r ≤ n ∧ meas o p r ≤ m' ∧ ps ++ go m' o p r = compressL (netsL t) ∧ ps.length + m' ≤ 3 * n, fun σ' H' h => ⟨m', Nat.lt_succ_self _, h⟩, ?_⟩
        -- if open_amounts[payer] >= 0
        refine ⟨.ref O, rfl, _, rfl, O, _, _, _, rfl, rfl, SqL.of hO2, atI_nat (int_at cp), _, _, rfl, rfl, _, rfl, ite2 (fun e3 => ?_) (fun e3 => ?_)⟩
        · have a0 : 0 ≤ o.getD p 0 := of_decide_eq_true e3
          refine ⟨_, rfl, _, _, rfl, rfl, ?_⟩
          refine ⟨o, p + 1, r, ps, bs, y6, rfl, s2, hO2, hP, ho, by omega, hr', meas_payer cp hm, ?_, by omega⟩
          rw [← go_payer cp cr a0]
          exact hgo
        · have a0 : ¬ 0 ≤ o.getD p 0 := fun z => e3 (decide_eq_true z)
          refine ⟨.ref O, rfl, _, rfl, O, _, _, _, rfl, rfl, SqL.of hO2, atI_nat (int_at cr), _, _, rfl, rfl, _, rfl, ite2 (fun e4 => ?_) (fun e4 => ?_)⟩
          · have b0 : o.getD r 0 ≤ 0 := of_decide_eq_true e4
            refine ⟨_, rfl, _, _, rfl, rfl, ?_⟩
            refine ⟨o, p, r + 1, ps, bs, y6, rfl, s2, hO2, hP, ho, hp, by omega, meas_receiver cr hm, ?_, by omega⟩
            rw [← go_receiver cp cr a0 b0]
            exact hgo
          · have b0 : ¬ o.getD r 0 ≤ 0 := fun z => e4 (decide_eq_true z)
            -- amount = min(-open_amounts[payer], open_amounts[receiver])
            refine ⟨.ref O, rfl, _, rfl, O, _, _, _, rfl, rfl, SqL.of hO2, atI_nat (int_at cp), _, rfl, .ref O, rfl, _, rfl, O, _, _, _, rfl, rfl, SqL.of hO2, atI_nat (int_at cr), _, _, rfl, ?_⟩
            have eam : (if o.getD r 0 < -o.getD p 0 then o.getD r 0 else -o.getD p 0) = amt o p r := rfl
            dsimp only [gName]
            rw [eam]
            -- payments.append((payer, receiver, amount))
            refine ⟨_, rfl, .inl ⟨rfl, _, SqL.of hP.top⟩, _, rfl, _, rfl, _, rfl, (by show 3 ≤ sizeLine; decide), fun B nB => ?_⟩
            have hPB : PayA (upd H2 B (.tup (payV (p, r, amt o p r)))) L bs ps := hP.same (same_upd nB)
            have hB : (upd H2 B (.tup (payV (p, r, amt o p r)))) B = some (.tup (payV (p, r, amt o p r))) := upd_same
            refine ⟨L, _, _, rfl, rfl, hPB.top, ?_, ?_⟩
            · rw [List.length_map, hP.len]
              exact small1000 (by omega)
            · have hP3 := hPB.add hB
              have nLO : L ≠ O := Ne.symm nOL
              have nBO : O ≠ B := ne_of_none hO2 nB
              generalize eH : upd (upd H2 B (.tup (payV (p, r, amt o p r)))) L (.lst (bs.map V.ref ++ [.ref B])) = H3 at hP3
              have hO3 : H3 O = some (.lst (o.map V.int)) := by
                rw [← eH, upd_ne nOL, upd_ne nBO]
                exact hO2
              have s3 : Same H H3 := by
                rw [← eH]
                exact same_put (s2.trans (same_upd nB)) (s1.free nL)
              show tSeq _ _ _ _ (upd (upd H2 B (.tup (payV (p, r, amt o p r)))) L (.lst (bs.map V.ref ++ [.ref B])))
              rw [eH]
              -- open_amounts[payer] += amount
              refine ⟨.ref O, rfl, _, rfl, O, _, p, _, rfl, rfl, SqL.of hO3, by rw [List.length_map]; omega, int_at cp, _, rfl, _, _, rfl, rfl, O, _, _, p, rfl, rfl, hO3, ixN_of rfl (by rw [List.length_map]; exact cp), ?_⟩
              rw [set_ints]
              generalize eH4 : upd H3 O (.lst ((o.set p (o.getD p 0 + amt o p r)).map V.int)) = H4
              have hO4 : H4 O = some (.lst ((o.set p (o.getD p 0 + amt o p r)).map V.int)) := by
                rw [← eH4, upd_same]
              have hP4 : PayA H4 L (bs ++ [B]) (ps ++ [(p, r, amt o p r)]) := by
                rw [← eH4]
                exact hP3.other hO3 nOL
              have s4 : Same H H4 := by
                rw [← eH4]
                exact same_put s3 nO
              have cr1 : r < (o.set p (o.getD p 0 + amt o p r)).length := by
                rw [List.length_set]
                exact cr
              -- open_amounts[receiver] -= amount
              refine ⟨.ref O, rfl, _, rfl, O, _, r, _, rfl, rfl, SqL.of hO4, by rw [List.length_map, List.length_set]; omega, int_at cr1, _, rfl, _, _, rfl, rfl, O, _, _, r, rfl, rfl, hO4, ixN_of rfl (by rw [List.length_map]; exact cr1), ?_⟩
              rw [set_ints]
              refine ⟨paid o p r, p, r, ps ++ [(p, r, amt o p r)], bs ++ [B], _, rfl, same_put s4 nO, upd_same, hP4.other hO4 nOL, by rw [paid_len]; exact ho, hp, hr', meas_pay cp cr a0 b0 hm, ?_, by rw [List.length_append, List.length_singleton]; omega⟩
              rw [List.append_assoc]
              show ps ++ ((p, r, amt o p r) :: go m' (paid o p r) p r) = _
              rw [← go_pay cp cr a0 b0]
              exact hgo
      · exact ⟨_, rfl, fin fun hc => e2 (decide_eq_true (Int.ofNat_lt.mpr hc.2))⟩
    · exact iteF ⟨_, rfl, fin fun hc => e1 (decide_eq_true (Int.ofNat_lt.mpr hc.1))⟩
end
end K44
namespace K44
open PySem PySem.Spec PyProof.Rows L2
theorem TabA.fresh {H : Hp} {a p : Addr} {as : List Addr} {t : Tbl} (h : TabA H a as t) (n : H p = none) : p ∉ as ∧ p ≠ a := by
  refine ⟨fun hm => ?_, fun e => ?_⟩
  · obtain ⟨j, hj⟩ := List.getElem?_of_mem hm
    rw [h.row j p hj] at n
    cases n
  · rw [e, h.top] at n
    cases n
theorem take_snoc {t : Tbl} {l : Nat} (h : l < t.length) : t.take (l + 1) = t.take l ++ [t.getD l []] := by
  rw [List.take_add_one, List.getElem?_eq_getElem h, List.getD_eq_getElem?_getD, List.getElem?_eq_getElem h]
  rfl
/-- list(row) -/
def rListOf (K : PySem.W.Frag) : List V → Hp → VK → Prop := fun xs H Q => ∃ p ys, xs = [.ref p] ∧ (SqL K H p ys ∨ SqT K H p ys) ∧ ∀ l, H l = none → Q (.ref l) (upd H l (.lst ys))
theorem slot_set {σ : L2.St} {j : Nat} {x : V} (hj : j < σ.length) : ((wipe σ [j]).set j (some x))[j]? = some (some x) := by
  rw [List.getElem?_set_self (by rw [wipe_length]; exact hj)]
theorem wipe_set (σ : L2.St) (j : Nat) (x : V) : wipe ((wipe σ [j]).set j (some x)) [j] = wipe σ [j] := by
  show ((σ.set j none).set j (some x)).set j none = σ.set j none
  rw [List.set_set, List.set_set]
section
variable {P : Program} {w : World} {K : PySem.W.Frag} {mg : Str → Option Value} {base : Heap}
/-- [list(row) for row in table] -/
theorem copy_reads {i j : Nat} {σ : L2.St} {H : Hp} {a : Addr} {as : List Addr} {t : Tbl} {Q : VK} (hi : σ[i]? = some (some (.ref a))) (hj : j < σ.length) (hT : TabA H a as t) (ht : t.length ≤ 100)
    (q : ∀ (H' : Hp) (D : Addr) (bs : List Addr), Same H H' → H D = none → (∀ b, b ∈ bs → H b = none) → TabA H' D bs t → Q (.ref D) H') :
    tLc (iList K (tVar i)) (gName j) tYes (tCB (rListOf K) (tCons (tVar j) tNil)) [j] σ H Q := by
  refine ⟨.ref a, hi, a, rfl, ⟨_, SqL.of hT.top⟩, fun D nD => lcL (K := K) (a := a) (xs := as.map V.ref)
    (fun l H3 => Same H H3 ∧ ∃ bs : List Addr, TabA H3 D bs (t.take l) ∧ ∀ b, b ∈ bs → H b = none) ⟨same_upd nD, [], TabA.nil, fun b hb => nomatch hb⟩ (fun l H3 h => h.1.seq (SqL.of hT.top)) ?_ ?_ (wipe_set σ j)⟩
  · rintro l x H3 hx ⟨s3, bs, hB, hn⟩
    obtain ⟨c, hc, rfl⟩ := ref_of_at hx
    have hl : l < t.length := by
      rw [← hT.len]
      exact (List.getElem?_eq_some_iff.mp hc).1
    have hR := s3 _ _ (hT.row l c hc)
    refine ⟨.ref c, slot_set hj, c, _, rfl, .inl (SqL.of hR), fun p np => ?_⟩
    have hB2 := hB.same (same_upd (o := .lst ((t.getD l []).map V.int)) np)
    obtain ⟨f1, f2⟩ := hB.fresh np
    refine ⟨_, hB2.top, ?_, fun d o e => ?_, bs ++ [p], ?_, fun b hb => ?_⟩
    · rw [List.length_map, hB.len, List.length_take]
      exact small1000 (by omega)
    · rw [upd_ne (ne_of_none e nD), upd_ne (ne_of_none (s3 _ _ e) np)]
      exact s3 d o e
    · rw [take_snoc hl]
      exact hB2.add upd_same f1 f2
    · rcases List.mem_append.mp hb with hb | hb
      · exact hn b hb
      · rw [List.mem_singleton.mp hb]
        exact s3.free np
  · rintro H3 ⟨s3, bs, hB, hn⟩
    rw [List.length_map, hT.len, List.take_length] at hB
    exact q H3 D bs s3 nD hn hB
/-- sum([sum(row) for row in table]) -/
theorem tot_reads {i j : Nat} {σ : L2.St} {H : Hp} {a : Addr} {as : List Addr} {t : Tbl} {Q : VK} (hi : σ[i]? = some (some (.ref a))) (hj : j < σ.length) (hT : TabA H a as t) (ht : t.length ≤ 100)
    (q : ∀ H' : Hp, Same H H' → Q (.int (tot t)) H') :
    tCB (rSum K) (tCons (tLc (iList K (tVar i)) (gName j) tYes (tCB (rSum K) (tCons (tVar j) tNil)) [j]) tNil) σ H Q := by
  refine ⟨.ref a, hi, a, rfl, ⟨_, SqL.of hT.top⟩, fun D nD => lcL (K := K) (a := a) (xs := as.map V.ref)
    (fun l H3 => Same H H3 ∧ H3 D = some (.lst (((t.take l).map List.sum).map V.int))) ⟨same_upd nD, upd_same⟩ (fun l H3 h => h.1.seq (SqL.of hT.top)) ?_ ?_ (wipe_set σ j)⟩
  · rintro l x H3 hx ⟨s3, hD⟩
    obtain ⟨c, hc, rfl⟩ := ref_of_at hx
    have hl : l < t.length := by
      rw [← hT.len]
      exact (List.getElem?_eq_some_iff.mp hc).1
    have hR := s3 _ _ (hT.row l c hc)
    refine ⟨.ref c, slot_set hj, c, _, rfl, SqL.of hR, _, hD, ?_, fun d o e => ?_, ?_⟩
    · rw [List.length_map, List.length_map, List.length_take]
      exact small1000 (by omega)
    · rw [upd_ne (ne_of_none e nD)]
      exact s3 d o e
    · rw [upd_same, take_snoc hl, List.map_append, List.map_append]
      rfl
  · rintro H3 ⟨s3, hD⟩
    rw [List.length_map, hT.len, List.take_length] at hD
    exact ⟨D, _, rfl, SqL.of hD, q H3 s3⟩
/-! ### _law_market -/
def RowsOk (n : Nat) (t : Tbl) : Prop := ∀ j, j < t.length → (t.getD j []).length = n ∧ Below 10000 (t.getD j []) ∧ (t.getD j []).getD j 0 = 0
theorem RowsOk.snoc {n : Nat} {t : Tbl} {r : List Int} (h : RowsOk n t) (h1 : r.length = n) (h2 : Below 10000 r) (h3 : r.getD t.length 0 = 0) : RowsOk n (t ++ [r]) := fun j hj => by
  rw [List.length_append, List.length_singleton] at hj
  by_cases e : j < t.length
  · rw [List.getD_eq_getElem?_getD, List.getElem?_append_left e, ← List.getD_eq_getElem?_getD]
    exact h j e
  · have ej : j = t.length := by omega
    subst ej
    rw [List.getD_eq_getElem?_getD, List.getElem?_append_right (Nat.le_refl _), Nat.sub_self]
    exact ⟨h1, h2, h3⟩
theorem RowsOk.tab {n : Nat} {t : Tbl} (h : RowsOk n t) (hl : t.length = n) : Tab n t ∧ Most 10000 t := by
  have hm : ∀ r ∈ t, r.length = n ∧ Below 10000 r := fun r hr => by
    obtain ⟨j, hj⟩ := List.getElem?_of_mem hr
    have := h j (List.getElem?_eq_some_iff.mp hj).1
    rw [List.getD_eq_getElem?_getD, hj] at this
    exact ⟨this.1, this.2.1⟩
  exact ⟨⟨hl, fun r hr => (hm r hr).1, fun r hr x hx => ((hm r hr).2 x hx).1, fun i hi => (h i (by rw [hl]; exact hi)).2.2⟩, fun r hr x hx => Int.le_of_lt ((hm r hr).2 x hx).2⟩
def spMarket (K : PySem.W.Frag) : Sp := fun vs H Q _ => ∃ (a : Addr) (ns : List Int), vs = [.ref a] ∧ SqL K H a (ns.map V.int) ∧
  ∀ (n : Nat) (t : Tbl) (H' : Hp) (p : Addr) (as : List Addr), 1 ≤ n → n ≤ 12 → Tab n t → Most 10000 t → Same H H' → H p = none → TabA H' p as t → Q (.ref p) H'
theorem ok_market {f fC fS fR fD : Addr} {fd fdC fdS fdR fdD : FuncData} (F : Fun K "_law_market" "_law_market" sMarket f fd)
    (FC : Fun K "_law_cell" "_law_cell" sCell fC fdC) (bC : Binds K fdC ["_law_script", "_law_k"] []) (gC : mg "_law_cell" = some (.ref fC))
    (FS : Fun K "_law_market_size" "_law_market_size" sSize fS fdS) (bS : Binds K fdS ["_law_shape"] []) (gS : mg "_law_market_size" = some (.ref fS))
    (FR : Fun K "_law_row" "_law_row" sRow fR fdR) (bR : Binds K fdR ["_law_cell_here", "_law_shape", "_law_payer", "_law_count", "_law_size"] []) (gR : mg "_law_row" = some (.ref fR))
    (FD : Fun K "_law_draws" "_law_draws" sDraws fD fdD) (bD : Binds K fdD ["_law_cell_here", "_law_count", "_law_size"] []) (gD : mg "_law_draws" = some (.ref fD))
    (ml : mg "len" = none) (ma : mg "abs" = none) (mr : mg "range" = none) (mi : mg "int" = none) :
    FnOk P w K mg base CX0 3 f fd ["_law_script"] (spMarket K) := by
  have GC : FnOk P w K mg base CX0 2 fC fdC ["_law_script", "_law_k"] (spCell K) := ok_cell FC ml
  have GS : FnOk P w K mg base CX0 2 fS fdS ["_law_shape"] spSize := ok_size FS ma
  have GR : FnOk P w K mg base CX0 2 fR fdR ["_law_cell_here", "_law_shape", "_law_payer", "_law_count", "_law_size"] spRow := ok_row FR FD bD gD ma mr mi
  refine F.ok scMarket (fun vs H Q E h => ?_) (fun cdv A outer s H vs Q E hr h => ?_)
  · obtain ⟨a, ns, rfl, _⟩ := h
    rfl
  · obtain ⟨a, ns, rfl, hS, q⟩ := h
    refine ⟨_, pss_cons (ps_set (i := 1) scMarket.nd rfl (.inr rfl) (pe_call GC hr (by rfl) gC FC.kp bC .nil pass0 (pa_cons (pv 0) (pa_cons pe_int pa_nil))))
      (pss_cons (ps_asg (pe_call GS hr (by rfl) gS FS.kp bS .nil pass0 (pa_cons (pv 1) pa_nil)) (pg_tup (by rfl) (pgs_cons (pg_name (i := 2) scMarket.nd rfl (.inr rfl)) (pgs_cons (pg_name (i := 3) scMarket.nd rfl (.inr rfl)) pgs_nil))))
      (pss_one (ps_ret (pe_lc (own := [("_law_k", 4)]) (g := gName 4) (tt := tYes) (by rfl) scMarket.nd (pi_range1 (by rfl) mr (pa_cons (pv 2) pa_nil))
        (blkOk_by (N := ["_law_script", "_law_shape", "_law_count", "_law_size", "_law_k"]) (sc := defScope sMarket) (by decide +kernel)) (fun _ _ _ _ _ => pg_name (i := 4) scMarket.nd rfl (Or.inl rfl)) (fun _ _ _ _ _ => pts_nil)
        (fun _ _ _ _ _ => pe_call GR hr (by rfl) gR FR.kp bR .nil pass0 (pa_cons (pe_call GC hr (by rfl) gC FC.kp bC .nil pass0 (pa_cons (pv 0) (pa_cons (pe_op op_add pe_int (pv 4)) pa_nil)))
          (pa_cons (pv 1) (pa_cons (pv 4) (pa_cons (pv 2) (pa_cons (pv 3) pa_nil)))))))))), ?_⟩
    -- shape, count, size
    refine ⟨.ref a, rfl, a, ns, 0, rfl, hS, by decide, fun z => ?_⟩
    refine ⟨.int z, rfl, z, rfl, fun n m H1 T n1 n2 m0 m1 s1 nT hT => ?_⟩
    refine ⟨T, _, rfl, SqT.of hT, rfl, _, _, rfl, _, _, rfl, rfl, ?_⟩
    -- the rows
    refine ⟨_, rfl, (n : Int), rfl, by omega, by omega, fun D nD => ?_⟩
    refine lcR (lo := 0) (n := ((n : Nat) : Int).toNat) (fun i H2 => Same H1 H2 ∧ ∃ (as : List Addr) (t : Tbl), TabA H2 D as t ∧ t.length = i ∧ RowsOk n t) ⟨same_upd nD, [], [], TabA.nil, rfl, fun j hj => absurd hj (Nat.not_lt_zero _)⟩ ?_ ?_
    · rintro i H2 hi ⟨s2, as, t, hA, hl, hR⟩
      refine ⟨.ref a, rfl, _, rfl, _, _, rfl, rfl, a, ns, 3 + (0 + (i : Int)), rfl, (s1.trans s2).seq hS, by omega, fun c => ?_⟩
      refine ⟨_, rfl, _, rfl, _, rfl, _, rfl, c, z, i, n, m, by rw [Int.zero_add]; rfl, by omega, n2, m0, m1, fun r H3 p hrl hrb hrd s3 np hp => ?_⟩
      have hA3 := hA.same s3
      obtain ⟨f1, f2⟩ := hA.fresh np
      refine ⟨_, hA3.top, ?_, fun d o e => ?_, as ++ [p], t ++ [r], hA3.add hp f1 f2, by rw [List.length_append, hl]; rfl, hR.snoc hrl hrb (by rw [hl]; exact hrd)⟩
      · rw [List.length_map, hA.len, hl]
        exact small1000 (by omega)
      · rw [upd_ne (ne_of_none e nD)]
        exact s3 d o (s2 d o e)
    · rintro H2 ⟨s2, as, t, hA, hl, hR⟩
      obtain ⟨T1, T2⟩ := hR.tab (by rw [hl]; omega)
      exact q n t H2 D as n1 n2 T1 T2 (s1.trans s2) (s1.free nD) hA
end
end K44
namespace K44
open PySem PySem.Spec PyProof.Rows L2
/-- house numbers as values -/
def houV (hs : List Nat) : List V := hs.map fun h => .int (h : Nat)
theorem houV_at {hs : List Nat} {k : Nat} (h : k < hs.length) : (houV hs)[k]? = some (.int (hs.getD k 0 : Nat)) := by
  unfold houV
  rw [List.getElem?_map, List.getD_eq_getElem?_getD, List.getElem?_eq_getElem h]
  rfl
theorem houV_len (hs : List Nat) : (houV hs).length = hs.length := by
  unfold houV
  rw [List.length_map]
theorem seq1 {t u : TS} {D : Ends} {σ : L2.St} {H : Hp} (h : t { D with nx := u D } σ H) : tSeq t u D σ H := h
section
variable {P : Program} {w : World} {K : PySem.W.Frag} {mg : Str → Option Value} {base : Heap}
/-! ### _law_with_ring -/
def spRing : Sp := fun vs H Q _ => ∃ (a : Addr) (as : List Addr) (t : Tbl) (n : Nat) (c : Int), vs = [.ref a, .int c] ∧ TabA H a as t ∧ Tab n t ∧ 1 ≤ n ∧ n ≤ 12 ∧
  ∀ (u : Tbl) (H' : Hp) (p : Addr) (bs : List Addr), Tab n u → netsL u = netsL t → Same H H' → H p = none → TabA H' p bs u → Q (.ref p) H'
theorem ok_ring {f fD : Addr} {fd fdD : FuncData} (F : Fun K "_law_with_ring" "_law_with_ring" sRing f fd) (FD : Fun K "_law_draws" "_law_draws" sDraws fD fdD) (bD : Binds K fdD ["_law_cell_here", "_law_count", "_law_size"] []) (gD : mg "_law_draws" = some (.ref fD))
    (ml : mg "len" = none) (ma : mg "abs" = none) (mr : mg "range" = none) (mi : mg "int" = none) (mli : mg "list" = none) :
    FnOk P w K mg base CX0 2 f fd ["_law_debts", "_law_cell_here"] spRing := by
  have GD : FnOk P w K mg base CX0 1 fD fdD ["_law_cell_here", "_law_count", "_law_size"] spDraws := ok_draws FD ma mr mi
  refine F.ok scRing (fun vs H Q E h => ?_) (fun cdv A outer s H vs Q E hr h => ?_)
  · obtain ⟨a, as, t, n, c, rfl, _⟩ := h
    rfl
  · obtain ⟨a, as, t, n, c, rfl, hT, T, n1, n2, q⟩ := h
    refine ⟨_, pss_cons (ps_set (i := 2) scRing.nd rfl (.inr rfl) (pe_callB call_len_seq (by rfl) ml PySem.boot_len (pa_cons (pv 0) pa_nil)))
      (pss_cons (ps_set (i := 3) scRing.nd rfl (.inl rfl) (pe_call GD hr (by rfl) gD FD.kp bD .nil pass0 (pa_cons (pv 1) (pa_cons pe_int (pa_cons pe_int pa_nil)))))
      (pss_cons (ps_set (i := 4) scRing.nd rfl (.inl rfl) (pe_op op_add pe_int (pe_op op_mod (pe_ix ix_list (pv 3) pe_int (fun _ _ => rfl)) pe_int)))
      (pss_cons (ps_setLc (i := 5) (own := [("_law_draw", 10)]) (g := gName 10) (tt := tYes) rfl scRing.nd rfl rfl (sw_true rfl rfl rfl (by decide +kernel))
          (pi_list (pe_slice sl_list (pv 3) po_none (po_some (pe_op op_add pe_int (pe_op op_mod (pe_ix ix_list (pv 3) pe_int (fun _ _ => rfl)) pe_int)))))
          (blkOk_by (N := ["_law_debts", "_law_cell_here", "_law_count", "_law_draws_here", "_law_size", "_law_houses", "_law_result", "_law_k", "_law_a", "_law_b", "_law_draw", "_law_row_here"]) (sc := defScope sRing) (by decide +kernel))
          (fun _ _ _ _ _ => pg_name (i := 10) scRing.nd rfl (Or.inl rfl)) (fun _ _ _ _ _ => pts_nil)
          (fun _ _ _ _ _ => pe_op op_mod (pe_callTy call_int1 (by rfl) mi (by decide +kernel) (pa_cons (pv 10) pa_nil)) (pv 2)))
      (pss_cons (ps_setLc (i := 6) (own := [("_law_row_here", 11)]) (g := gName 11) (tt := tYes) rfl scRing.nd rfl rfl (sw_true rfl rfl rfl (by decide +kernel))
          (pi_list (pv 0))
          (blkOk_by (N := ["_law_debts", "_law_cell_here", "_law_count", "_law_draws_here", "_law_size", "_law_houses", "_law_result", "_law_k", "_law_a", "_law_b", "_law_draw", "_law_row_here"]) (sc := defScope sRing) (by decide +kernel))
          (fun _ _ _ _ _ => pg_name (i := 11) scRing.nd rfl (Or.inl rfl)) (fun _ _ _ _ _ => pts_nil)
          (fun _ _ _ _ _ => pe_callTy (r := rListOf K) call_list_of (by rfl) mli (by decide +kernel) (pa_cons (pv 11) pa_nil)))
      (pss_cons (ps_for PassesOwn.never rfl (pi_range1 (by rfl) mr (pa_cons (pe_callB call_len_seq (by rfl) ml PySem.boot_len (pa_cons (pv 5) pa_nil)) pa_nil)) (pg_name (i := 7) scRing.nd rfl (.inl rfl))
        (pss_cons (ps_set (i := 8) scRing.nd rfl (.inl rfl) (pe_ix ix_list (pv 5) (pv 7) (fun _ _ => rfl)))
        (pss_cons (ps_set (i := 9) scRing.nd rfl (.inl rfl) (pe_ix ix_list (pv 5) (pe_op op_mod (pe_callTy call_int1 (by rfl) mi (by decide +kernel) (pa_cons (pe_op op_add (pv 7) pe_int) pa_nil)) (pe_callB call_len_seq (by rfl) ml PySem.boot_len (pa_cons (pv 5) pa_nil))) (fun _ _ => rfl)))
        (pss_one (ps_if (pt_cmpR op_ne (pv 8) (pv 9) (nomark _))
          (pss_one (ps_asg (pe_op op_add (pe_ix ix_list (pe_ix ix_list (pv 6) (pv 8) (fun _ _ => rfl)) (pv 9) (fun _ _ => rfl)) (pv 4)) (pg_sub (pe_ix ix_list (pv 6) (pv 8) (fun _ _ => rfl)) (pv 9) set_list))) pss_nil)))))
      (pss_one (ps_ret (pv 6)))))))), ?_⟩
    have el : (as.map V.ref).length = n := by rw [List.length_map, hT.len, T.len]
    -- count = len(debts); draws
    refine ⟨.ref a, rfl, a, as.map V.ref, rfl, .inl (SqL.of hT.top), ?_⟩
    dsimp only [gName]
    rw [el]
    refine ⟨_, rfl, c, 8, 12, rfl, by decide, by decide, by decide, fun ds H1 d hdl hdb s1 nd hd => ?_⟩
    -- size = 1 + draws[7] % 9
    refine ⟨.ref d, rfl, d, _, _, _, rfl, rfl, SqL.of hd, at_of (j := 7) rfl (int_at (by omega)), _, _, rfl, rfl, (by show (0 : Int) < 9; decide), _, _, rfl, rfl, ?_⟩
    have z0 := Int.emod_nonneg (ds.getD 7 0) (show (9 : Int) ≠ 0 by decide)
    dsimp only [gName]
    generalize ez : (1 : Int) + ds.getD 7 0 % 9 = z
    have hz : 0 ≤ z := by omega
    -- houses
    have j0 := Int.emod_nonneg (ds.getD 6 0) (show (5 : Int) ≠ 0 by decide)
    have j1 := Int.emod_lt_of_pos (ds.getD 6 0) (show (0 : Int) < 5 by decide)
    obtain ⟨j, hj⟩ : ∃ j : Nat, (2 : Int) + ds.getD 6 0 % 5 = (j : Int) := ⟨((2 : Int) + ds.getD 6 0 % 5).toNat, by omega⟩
    have ecut : cutV (ds.map V.int) none (some ((2 : Int) + ds.getD 6 0 % 5)) = (ds.take j).map V.int := by
      unfold cutV
      rw [hj, show HT.sIx (ds.map V.int).length 0 none = 0 from HT.sIx_none _ _, show HT.sIx (ds.map V.int).length (ds.map V.int).length (some (j : Int)) = min j (ds.map V.int).length from HT.sIx_nat _ _ _]
      rw [List.length_map, hdl, Nat.min_eq_left (by omega), List.drop_zero, Nat.sub_zero, List.map_take]
    refine ⟨.ref d, rfl, .ref d, rfl, d, _, _, _, rfl, rfl, SqL.of hd, at_of (j := 6) rfl (int_at (by omega)), _, _, rfl, rfl, (by show (0 : Int) < 5; decide), _, _, rfl, rfl, _, rfl, d, _, rfl, SqL.of hd, fun C nC => ?_⟩
    dsimp only
    rw [ecut]
    have s2 : Same H1 (upd H1 C (.lst ((ds.take j).map V.int))) := same_upd nC
    refine ⟨C, rfl, ⟨_, SqL.of upd_same⟩, fun D nD => lcL (K := K) (a := C) (xs := (ds.take j).map V.int)
      (fun l H3 => Same (upd H1 C (.lst ((ds.take j).map V.int))) H3 ∧ ∃ hs : List Nat, H3 D = some (.lst (houV hs)) ∧ hs.length = l ∧ ∀ x, x ∈ hs → x < n) ⟨same_upd nD, [], upd_same, rfl, fun x hx => nomatch hx⟩ (fun l H3 h => h.1.seq (SqL.of upd_same)) ?_ ?_⟩
    · rintro l x H3 hx ⟨s3, hs, hD, hl, hn⟩
      obtain ⟨hlt, rfl⟩ := int_of_at hx
      rw [List.length_take] at hlt
      refine ⟨_, rfl, .inl ⟨_, rfl, _, rfl, _, _, rfl, rfl, (by show (0 : Int) < ((n : Nat) : Int); omega), houV hs, hD, (by rw [houV_len]; exact small1000 (by omega)), ?_⟩⟩
      have k0 := Int.emod_nonneg ((ds.take j).getD l 0) (show ((n : Nat) : Int) ≠ 0 by omega)
      have k1 := Int.emod_lt_of_pos ((ds.take j).getD l 0) (show (0 : Int) < ((n : Nat) : Int) by omega)
      obtain ⟨g, hg⟩ : ∃ g : Nat, (ds.take j).getD l 0 % ((n : Nat) : Int) = (g : Int) := ⟨((ds.take j).getD l 0 % ((n : Nat) : Int)).toNat, by omega⟩
      dsimp only
      rw [hg]
      refine ⟨fun b o e => ?_, hs ++ [g], ?_, by rw [List.length_append, hl]; rfl, fun x hx => ?_⟩
      · rw [upd_ne (ne_of_none e nD)]
        exact s3 b o e
      · rw [upd_same]
        unfold houV
        rw [List.map_append]
        rfl
      · rcases List.mem_append.mp hx with hx | hx
        · exact hn x hx
        · rw [List.mem_singleton.mp hx]
          omega
    · rintro H3 ⟨s3, hs, hD, hl, hn⟩
      rw [List.length_map, List.length_take, hdl, Nat.min_eq_left (by omega)] at hl
      have hl2 : 2 ≤ hs.length ∧ hs.length ≤ 8 := by omega
      have s03 : Same H H3 := (s1.trans s2).trans s3
      -- result = [list(row) ..]
      dsimp only [gName]
      refine seq1 ?_
      refine copy_reads (K := K) (i := 0) (j := 11) (t := t) (as := as) (a := a) rfl (by show 11 < 12; decide) (hT.same s03) (by rw [T.len]; omega) fun H4 R bs s4 nR nbs hR => ?_
      -- for k in range(len(houses))
      have nRH : H R = none := s03.free nR
      refine ⟨.ref D, rfl, D, houV hs, rfl, .inl (SqL.of (s4 _ _ hD)), ((houV hs).length : Int), rfl, by omega, by rw [houV_len]; omega,
        for_range (lo := 0) (n := ((houV hs).length : Int).toNat) (fun i σ H5 => ∃ (y7 y8 y9 : Option V), σ = [some (.ref a), some (.int c), some (.int (n : Nat)), some (.ref d), some (.int z), some (.ref D), some (.ref R), y7, y8, y9, none, none] ∧ Same H3 H5 ∧ TabA H5 R bs (ringN hs z i t))
        ⟨none, none, none, rfl, s4, hR⟩ ?_ ?_⟩
      · rintro k σ H5 hk ⟨y7, y8, y9, rfl, s5, hR5⟩
        have hk' : k < hs.length := by
          rw [Int.toNat_natCast, houV_len] at hk
          exact hk
        have ek : (0 : Int) + (k : Int) = ((k : Nat) : Int) := Int.zero_add _
        have ek1 : (0 : Int) + (k : Int) + 1 = ((k + 1 : Nat) : Int) := by omega
        have hD5 := s5 _ _ hD
        have hm : (k + 1) % hs.length < hs.length := Nat.mod_lt _ (by omega)
        have e2 : ((0 : Int) + (k : Int) + 1) % (((houV hs).length : Nat) : Int) = (((k + 1) % hs.length : Nat) : Int) := by
          rw [ek1, houV_len, Int.natCast_emod]
        have ha : hs.getD k 0 < n := house_lt hn hk'
        have hb : hs.getD ((k + 1) % hs.length) 0 < n := house_lt hn hm
        have T5 : Tab n (ringN hs z k t) := (ring_spec T hn hz k (Nat.le_of_lt hk')).1
        -- a, b
        refine ⟨.ref D, rfl, _, rfl, D, _, _, _, rfl, rfl, SqL.of hD5, at_of ek (houV_at hk'), ?_⟩
        refine ⟨.ref D, rfl, _, rfl, _, _, rfl, rfl, .inl ⟨_, rfl, .ref D, rfl, D, houV hs, rfl, .inl (SqL.of hD5), _, _, rfl, rfl, (by show (0 : Int) < (((houV hs).length : Nat) : Int); rw [houV_len]; omega), D, _, _, _, rfl, rfl, SqL.of hD5, at_of e2 (houV_at hm), ?_⟩⟩
        -- if a != b
        refine ⟨_, rfl, _, rfl, rfl, _, rfl, ?_⟩
        by_cases e : hs.getD k 0 = hs.getD ((k + 1) % hs.length) 0
        · refine iteNS (by rw [e]) ?_
          refine ⟨_, _, _, rfl, s5, ?_⟩
          show TabA H5 R bs (ringStep hs z k (ringN hs z k t))
          unfold ringStep
          rw [if_pos e]
          exact hR5
        · have ene : decide (V.int ((hs.getD k 0 : Nat) : Int) = V.int ((hs.getD ((k + 1) % hs.length) 0 : Nat) : Int)) = false := decide_eq_false fun q => e (Int.ofNat.inj (V.int.inj q))
          rw [ene]
          refine iteT ?_
          have hbl : hs.getD k 0 < bs.length := by rw [hR5.len, T5.len]; exact ha
          obtain ⟨b, hb1, hb2⟩ := ref_at hbl
          have hrow := hR5.row _ b hb1
          have hrl : ((ringN hs z k t).getD (hs.getD k 0) []).length = n := T5.row _ (row_mem (by rw [T5.len]; exact ha))
          refine ⟨.ref R, rfl, _, rfl, R, _, _, _, rfl, rfl, SqL.of hR5.top, atI_nat hb2, _, rfl, b, _, _, _, rfl, rfl, SqL.of hrow, atI_nat (int_at (by rw [hrl]; exact hb)), _, rfl, _, _, rfl, rfl, ?_⟩
          refine ⟨.ref R, rfl, _, rfl, R, _, _, _, rfl, rfl, SqL.of hR5.top, atI_nat hb2, _, rfl, b, _, _, hs.getD ((k + 1) % hs.length) 0, rfl, rfl, hrow, ixN_of rfl (by rw [List.length_map, hrl]; exact hb), ?_⟩
          rw [set_ints]
          refine ⟨_, _, _, rfl, same_put s5 (nbs b (List.mem_of_getElem? hb1)), ?_⟩
          show TabA _ R bs (ringStep hs z k (ringN hs z k t))
          unfold ringStep
          rw [if_neg e]
          exact hR5.put hb1 _
      · rintro σ H5 ⟨y7, y8, y9, rfl, s5, hR5⟩
        rw [Int.toNat_natCast, houV_len] at hR5
        obtain ⟨T5, e5⟩ := ring_nets T hn hz
        exact ⟨_, rfl, q _ H5 R bs T5 e5 (s03.trans s5) nRH hR5⟩
end
end K44
namespace K44
open PySem PySem.Spec PyProof.Rows L2
/-! ### payments as data -/
def payD (q : Pay) : PyData := .tuple [.int (q.1 : Nat), .int (q.2.1 : Nat), .int q.2.2]
theorem payD_lay (ps : List Pay) : PyData.canLayAll0 (ps.map payD) = true ∧ PyData.depthAll (ps.map payD) ≤ 1 := by
  induction ps with
  | nil =>
    refine ⟨?_, ?_⟩
    · rw [List.map_nil]
      simp only [PyData.canLayAll0]
    · rw [List.map_nil]
      simp only [PyData.depthAll]
      omega
  | cons q ps ih =>
    rw [List.map_cons]
    refine ⟨?_, ?_⟩
    · simp only [PyData.canLayAll0, payD, PyData.canLay0, ih.1, Bool.and_self]
    · have := ih.2
      simp only [PyData.depthAll, payD, PyData.depth]
      omega
theorem pays_shaped (ps : List Pay) : SeqAt.shaped (.list (ps.map payD)) = true := by
  obtain ⟨a, b⟩ := payD_lay ps
  unfold SeqAt.shaped
  rw [Bool.and_eq_true, decide_eq_true_eq]
  refine ⟨?_, ?_⟩
  · simp only [PyData.canLay0]
    exact a
  · simp only [PyData.depth]
    omega
theorem pays_dp {K : PySem.W.Frag} {H : Hp} : ∀ (as : List Addr) (ps : List Pay), as.length = ps.length → (∀ (j : Nat) (b : Addr), as[j]? = some b → ∃ q, ps[j]? = some q ∧ H b = some (.tup (payV q))) → DpAll K H (as.map V.ref) (ps.map payD)
  | [], [], _, _ => .nil
  | [], _ :: _, h, _ => by cases h
  | _ :: _, [], h, _ => by cases h
  | b :: as, q :: ps, h, ht => by
    obtain ⟨q', e1, e2⟩ := ht 0 b rfl
    have e3 : q = q' := Option.some.inj e1
    subst e3
    exact .cons (.tup (SqT.of e2) (.cons (.int _) (.cons (.int _) (.cons (.int _) .nil)))) (pays_dp as ps (Nat.succ.inj h) fun j c e => ht (j + 1) c e)
theorem PayA.dp {K : PySem.W.Frag} {H : Hp} {p : Addr} {as : List Addr} {ps : List Pay} (h : PayA H p as ps) : Dp K H (.ref p) (.list (ps.map payD)) :=
  .lst (SqL.of h.top) (pays_dp as ps h.len h.tup)
theorem cut_ints {ns : List Int} {lo hi : Option Int} {i : Nat} {x : V} (h : (cutV (ns.map V.int) lo hi)[i]? = some x) : ∃ z : Int, x = .int z := by
  have m := List.mem_of_getElem? h
  unfold cutV at m
  obtain ⟨z, _, e⟩ := List.mem_map.mp (List.mem_of_mem_drop (List.mem_of_mem_take m))
  exact ⟨z, e.symm⟩
abbrev othersE : Expr := match (defBody sLaw).getD 4 (.Pass ⟨0, 0, 0, 0⟩) with
  | .Assign _ e _ => e
  | _ => default
theorem rep_snoc {α : Type} (n : Nat) (x : α) : List.replicate (n + 1) x = List.replicate n x ++ [x] := List.replicate_succ'
theorem asg_in {te : TE} {g : TG} {D : Ends} {σ : L2.St} {H : Hp} (h : te σ H fun x H1 => g x σ H1 D.nx) : tAsg te g D σ H := h
theorem call_in {sp : Sp} {E : XK} {ta : TE} {σ : L2.St} {H : Hp} {Q : VK} (h : ta σ H fun x H1 => sp [x] H1 Q E) : tCall sp [] E (tCons ta tNil) σ H Q := h
section
variable {P : Program} {w : World} {K : PySem.W.Frag} {mg : Str → Option Value} {base : Heap}
/-- [[0 for house in owed] for house in owed] -/
theorem zero_reads {i j : Nat} {σ : L2.St} {H : Hp} {a : Addr} {as : List Addr} {t : Tbl} {n : Nat} {Q : VK} (hi : σ[i]? = some (some (.ref a))) (hj : j < σ.length) (hij : i ≠ j) (hT : TabA H a as t) (hn : t.length = n) (ht : n ≤ 100)
    (q : ∀ (H' : Hp) (D : Addr) (bs : List Addr), Same H H' → H D = none → (∀ b, b ∈ bs → H b = none) → TabA H' D bs (zT n) → Q (.ref D) H') :
    tLc (iList K (tVar i)) (gName j) tYes (tLc (iList K (tVar i)) (gName j) tYes (tC (.int 0)) [j]) [j] σ H Q := by
  have el : (as.map V.ref).length = n := by rw [List.length_map, hT.len, hn]
  have hi2 : ∀ x : V, ((wipe σ [j]).set j (some x))[i]? = some (some (.ref a)) := fun x => by
    show ((σ.set j none).set j (some x))[i]? = _
    rw [List.set_set, List.getElem?_set_ne (Ne.symm hij)]
    exact hi
  refine ⟨.ref a, hi, a, rfl, ⟨_, SqL.of hT.top⟩, fun D nD => lcL (K := K) (a := a) (xs := as.map V.ref)
    (fun l H3 => Same H H3 ∧ ∃ bs : List Addr, TabA H3 D bs (List.replicate l (List.replicate n 0)) ∧ ∀ b, b ∈ bs → H b = none) ⟨same_upd nD, [], TabA.nil, fun b hb => nomatch hb⟩ (fun l H3 h => h.1.seq (SqL.of hT.top)) ?_ ?_ (wipe_set σ j)⟩
  · rintro l x H3 hx ⟨s3, bs, hB, hnb⟩
    have hl : l < n := by
      rw [← el]
      exact (List.getElem?_eq_some_iff.mp hx).1
    refine ⟨.ref a, hi2 x, a, rfl, ⟨_, s3.seq (SqL.of hT.top)⟩, fun C nC => lcL (K := K) (a := a) (xs := as.map V.ref)
      (fun m H4 => Same H3 H4 ∧ H4 C = some (.lst ((List.replicate m (0 : Int)).map V.int))) ⟨same_upd nC, upd_same⟩ (fun m H4 h => (s3.trans h.1).seq (SqL.of hT.top)) ?_ ?_ (wipe_set _ j)⟩
    · rintro m y H4 hy ⟨s4, hC⟩
      have hm : m < n := by
        rw [← el]
        exact (List.getElem?_eq_some_iff.mp hy).1
      refine ⟨_, hC, ?_, fun d o e => ?_, ?_⟩
      · rw [List.length_map, List.length_replicate]
        exact small1000 (by omega)
      · rw [upd_ne (ne_of_none e nC)]
        exact s4 d o e
      · rw [upd_same, rep_snoc, List.map_append]
        rfl
    · rintro H4 ⟨s4, hC⟩
      rw [el] at hC
      have hB4 := hB.same s4
      obtain ⟨f1, f2⟩ := hB.fresh nC
      refine ⟨_, hB4.top, ?_, fun d o e => ?_, bs ++ [C], ?_, fun b hb => ?_⟩
      · rw [List.length_map, hB.len, List.length_replicate]
        exact small1000 (by omega)
      · rw [upd_ne (ne_of_none e nD)]
        exact s4 d o (s3 d o e)
      · rw [rep_snoc]
        exact hB4.add hC f1 f2
      · rcases List.mem_append.mp hb with hb | hb
        · exact hnb b hb
        · rw [List.mem_singleton.mp hb]
          exact s3.free nC
  · rintro H3 ⟨s3, bs, hB, hnb⟩
    rw [el] at hB
    exact q H3 D bs s3 nD hnb hB
/-! ### the law -/
def spLaw (K : PySem.W.Frag) : Sp := fun vs H Q _ => ∃ (a : Addr) (ns : List Int), vs = [.ref a] ∧ SqL K H a (ns.map V.int) ∧ ns.length ≤ 63 ∧ ∀ H', Q (.bl true) H'
theorem ok_law {f fM fCo fSu fSm fRi : Addr} {fd fdM fdCo fdSu fdSm fdRi : FuncData} (F : Fun K "law" "law" sLaw f fd)
    (kM : PySem.W.keepIn K (.ref fM) = true) (GM : FnOk P w K mg base CX0 3 fM fdM ["_law_script"] (spMarket K)) (bM : Binds K fdM ["_law_script"] []) (gM : mg "_law_market" = some (.ref fM))
    (kCo : PySem.W.keepIn K (.ref fCo) = true) (GCo : FnOk P w K mg base CX0 3 fCo fdCo ["owed"] spComp) (bCo : Binds K fdCo ["owed"] []) (gCo : mg "compress" = some (.ref fCo))
    (kSu : PySem.W.keepIn K (.ref fSu) = true) (GSu : FnOk P w K mg base CX0 3 fSu fdSu ["_law_payments"] spSum) (bSu : Binds K fdSu ["_law_payments"] []) (gSu : mg "_law_sum" = some (.ref fSu))
    (kSm : PySem.W.keepIn K (.ref fSm) = true) (GSm : FnOk P w K mg base CX0 3 fSm fdSm ["_law_debts"] spSmall) (bSm : Binds K fdSm ["_law_debts"] []) (gSm : mg "_law_small" = some (.ref fSm))
    (kRi : PySem.W.keepIn K (.ref fRi) = true) (GRi : FnOk P w K mg base CX0 3 fRi fdRi ["_law_debts", "_law_cell_here"] spRing) (bRi : Binds K fdRi ["_law_debts", "_law_cell_here"] []) (gRi : mg "_law_with_ring" = some (.ref fRi))
    (ms : mg "sum" = none) (mli : mg "list" = none) :
    FnOk P w K mg base CX0 4 f fd ["_law_script"] (spLaw K) := by
  refine F.ok scLaw (fun vs H Q E h => ?_) (fun cdv A outer s H vs Q E hr h => ?_)
  · obtain ⟨a, ns, rfl, _⟩ := h
    rfl
  · obtain ⟨a, ns, rfl, hS, hlen, q⟩ := h
    refine ⟨_, pss_cons (ps_set (i := 1) scLaw.nd rfl (.inr rfl) (pe_call GM hr (by rfl) gM kM bM .nil pass0 (pa_cons (pv 0) pa_nil)))
      (pss_cons (ps_set (i := 2) scLaw.nd rfl (.inl rfl) (pe_call GCo hr (by rfl) gCo kCo bCo .nil pass0 (pa_cons
        (pe_lc (wi := iList K (tVar 1)) (own := [("_law_row_here", 8)]) (g := gName 8) (tt := tYes) (by rfl) scLaw.nd (pi_list (pv 1))
          (blkOk_by (N := ["_law_script", "_law_owed", "_law_payments", "_law_least", "_law_others", "_law_payment", "_law_cell_here", "_law_ringed", "_law_row_here", "_law_house"]) (sc := defScope sLaw) (by decide +kernel))
          (fun _ _ _ _ _ => pg_name (i := 8) scLaw.nd rfl (Or.inl rfl)) (fun _ _ _ _ _ => pts_nil) (fun _ _ _ _ _ => pe_callTy (r := rListOf K) call_list_of (by rfl) mli (by decide +kernel) (pa_cons (pv 8) pa_nil))) pa_nil)))
      (pss_cons (ps_set (i := 3) scLaw.nd rfl (.inl rfl) (pe_call GSu hr (by rfl) gSu kSu bSu .nil pass0 (pa_cons (pv 2) pa_nil)))
      (pss_cons (ps_if (PW.pt (pw_or (pt_cmpR op_isN (pv 3) pe_non (nomark _)) (pw_or1 (pt_cmpR op_gt (pv 3) (pe_callB (r := rSum K) (cr_sum rfl) (by rfl) ms (by decide +kernel) (pa_cons
        (pe_lc (wi := iList K (tVar 1)) (own := [("_law_row_here", 8)]) (g := gName 8) (tt := tYes) (by rfl) scLaw.nd (pi_list (pv 1))
          (blkOk_by (N := ["_law_script", "_law_owed", "_law_payments", "_law_least", "_law_others", "_law_payment", "_law_cell_here", "_law_ringed", "_law_row_here", "_law_house"]) (sc := defScope sLaw) (by decide +kernel))
          (fun _ _ _ _ _ => pg_name (i := 8) scLaw.nd rfl (Or.inl rfl)) (fun _ _ _ _ _ => pts_nil) (fun _ _ _ _ _ => pe_callB (r := rSum K) (cr_sum rfl) (by rfl) ms (by decide +kernel) (pa_cons (pv 8) pa_nil))) pa_nil)) (nomark _))))) pss_never pss_nil)
      (pss_cons (ps_setLc (i := 4) (own := [("_law_house", 9)]) (g := gName 9) (tt := tYes) rfl scLaw.nd rfl rfl (sw_true rfl rfl rfl (by decide +kernel)) (wi := iList K (tVar 1)) (pi_list (pv 1))
          (blkOk_by (N := ["_law_script", "_law_owed", "_law_payments", "_law_least", "_law_others", "_law_payment", "_law_cell_here", "_law_ringed", "_law_row_here", "_law_house"]) (sc := defScope sLaw) (by decide +kernel))
          (fun _ _ _ _ _ => pg_name (i := 9) scLaw.nd rfl (Or.inl rfl)) (fun _ _ _ _ _ => pts_nil)
          (fun _ _ _ _ _ => pe_lc (wi := iList K (tVar 1)) (own := [("_law_house", 9)]) (g := gName 9) (tt := tYes) (by rfl) scLaw.nd (pi_list (pv 1))
            (blkOk_by (N := ["_law_script", "_law_owed", "_law_payments", "_law_least", "_law_others", "_law_payment", "_law_cell_here", "_law_ringed", "_law_row_here", "_law_house"]) (sc := relS (compSc othersE) (defScope sLaw)) (by decide +kernel))
            (fun _ _ _ _ _ => pg_name (i := 9) scLaw.nd rfl (Or.inl rfl)) (fun _ _ _ _ _ => pts_nil) (fun _ _ _ _ _ => pe_int)))
      (pss_cons (ps_for PassesOwn.never rfl (pi_list (pv 2)) (pg_name (i := 5) scLaw.nd rfl (.inl rfl))
        (pss_one (ps_asg (pe_op op_add (pe_ix ix_list (pe_ix ix_list (pv 4) (pe_ix ix_tup (pv 5) pe_int (fun _ _ => rfl)) (fun _ _ => rfl)) (pe_ix ix_tup (pv 5) pe_int (fun _ _ => rfl)) (fun _ _ => rfl)) (pe_ix ix_tup (pv 5) pe_int (fun _ _ => rfl)))
          (pg_sub (pe_ix ix_list (pv 4) (pe_ix ix_tup (pv 5) pe_int (fun _ _ => rfl)) (fun _ _ => rfl)) (pe_ix ix_tup (pv 5) pe_int (fun _ _ => rfl)) set_list))))
      (pss_cons (ps_if (pt_not (pt_val (pe_call GSm hr (by rfl) gSm kSm bSm .nil pass0 (pa_cons (pv 4) pa_nil)))) (pss_one (ps_ret pe_bl)) pss_nil)
      (pss_cons (ps_for PassesOwn.never rfl (pi_list (pe_slice sl_list (pv 0) (po_some pe_int) (po_some pe_int))) (pg_name (i := 6) scLaw.nd rfl (.inl rfl))
        (pss_cons (ps_set (i := 7) scLaw.nd rfl (.inl rfl) (pe_call GRi hr (by rfl) gRi kRi bRi .nil pass0 (pa_cons (pv 4) (pa_cons (pv 6) pa_nil))))
        (pss_one (ps_if (pt_val (pe_call GSm hr (by rfl) gSm kSm bSm .nil pass0 (pa_cons (pv 7) pa_nil))) (pss_one (ps_set (i := 4) scLaw.nd rfl (.inl rfl) (pv 7))) pss_nil))))
      (pss_cons (ps_if (pt_cmpR op_gt (pv 3) (pe_callB (r := rSum K) (cr_sum rfl) (by rfl) ms (by decide +kernel) (pa_cons
        (pe_lc (wi := iList K (tVar 4)) (own := [("_law_row_here", 8)]) (g := gName 8) (tt := tYes) (by rfl) scLaw.nd (pi_list (pv 4))
          (blkOk_by (N := ["_law_script", "_law_owed", "_law_payments", "_law_least", "_law_others", "_law_payment", "_law_cell_here", "_law_ringed", "_law_row_here", "_law_house"]) (sc := defScope sLaw) (by decide +kernel))
          (fun _ _ _ _ _ => pg_name (i := 8) scLaw.nd rfl (Or.inl rfl)) (fun _ _ _ _ _ => pts_nil) (fun _ _ _ _ _ => pe_callB (r := rSum K) (cr_sum rfl) (by rfl) ms (by decide +kernel) (pa_cons (pv 8) pa_nil))) pa_nil)) (nomark _)) pss_never pss_nil)
      (pss_one (ps_ret (pe_cmpR (op_eqD hr.units) (pe_call GCo hr (by rfl) gCo kCo bCo .nil pass0 (pa_cons (pv 4) pa_nil)) (pv 2) (nomark _)))))))))))), ?_⟩
    -- owed
    refine ⟨.ref a, rfl, a, ns, rfl, hS, fun n t H1 O as n1 n2 T hM s1 nO hO => ?_⟩
    dsimp only [gName]
    -- payments = compress([list(row) ..])
    refine seq1 (asg_in (call_in ?_))
    refine copy_reads (K := K) (i := 1) (j := 8) (t := t) (as := as) (a := O) rfl (by show 8 < 10; decide) hO (by rw [T.len]; omega) fun H2 C cs s2 nC ncs hC => ?_
    refine ⟨C, cs, t, n, rfl, hC, T, n1, by omega, fun r hr x hx => by have := hM r hr x hx; omega, fun H3 p bs s3 np hP hpl => ?_⟩
    -- least = _law_sum(payments)
    refine ⟨.ref p, rfl, p, bs, _, rfl, hP, hpl, fun H4 s4 => ?_⟩
    have s14 : Same H1 H4 := (s2.trans s3).trans s4
    -- if least is None or ..
    refine ⟨_, rfl, rfl, _, rfl, ?_⟩
    refine iteF ?_
    refine ⟨_, rfl, ?_⟩
    refine tot_reads (K := K) (i := 1) (j := 8) (t := t) (as := as) (a := O) rfl (by show 8 < 10; decide) (hO.same s14) (by rw [T.len]; omega) fun H5 s5 => ?_
    refine ⟨_, _, rfl, rfl, _, rfl, ?_⟩
    rw [decide_eq_false (show ¬ tot t < amounts (compressL (netsL t)) from Int.not_lt.mpr (least T T rfl))]
    refine iteF ?_
    have s15 : Same H1 H5 := s14.trans s5
    have hP5 : PayA H5 p bs (compressL (netsL t)) := hP.same (s4.trans s5)
    -- others
    dsimp only [tNext]
    refine seq1 (asg_in ?_)
    refine zero_reads (K := K) (i := 1) (j := 9) (t := t) (as := as) (a := O) (n := n) rfl (by show 9 < 10; decide) (by decide) (hO.same s15) T.len (by omega) fun H6 R rs s6 nR nrs hR => ?_
    dsimp only [gName]
    have hP6 : PayA H6 p bs (compressL (netsL t)) := hP5.same s6
    obtain ⟨c1, c2, c3⟩ := compress_spec (netsL t) (nets_zero T)
    rw [netsL_len, T.len] at c3
    have hadd : ∀ i, Tab n (addAll (zT n) ((compressL (netsL t)).take i)) := fun i => (addAll_spec n _ (zT n) (zT_tab n) fun q hq => c3 q (List.mem_of_mem_take hq)).1
    have ebs : (bs.map V.ref).length = (compressL (netsL t)).length := by rw [List.length_map, hP.len]
    -- for payment in payments
    refine ⟨.ref p, rfl, p, rfl, ⟨_, SqL.of hP6.top⟩, for_list (K := K) (a := p) (xs := bs.map V.ref)
      (fun i σ H7 => ∃ y5, σ = [some (.ref a), some (.ref O), some (.ref p), some (.int (amounts (compressL (netsL t)))), some (.ref R), y5, none, none, none, none] ∧ Same H5 H7 ∧ TabA H7 R rs (addAll (zT n) ((compressL (netsL t)).take i)))
      ⟨none, rfl, s6, hR⟩ (fun i σ H7 _ ⟨_, _, s7, _⟩ => s7.seq (SqL.of hP5.top)) ?_ ?_⟩
    · rintro i x σ H7 hx ⟨y5, rfl, s7, hR7⟩
      obtain ⟨b, hb, rfl⟩ := ref_of_at hx
      obtain ⟨pq, hq, hbt⟩ := (hP5.same s7).tup i b hb
      have okq := c3 pq (List.mem_of_getElem? hq)
      have T7 := hadd i
      have hrl : ((addAll (zT n) ((compressL (netsL t)).take i)).getD pq.1 []).length = n := T7.row _ (row_mem (by rw [T7.len]; exact okq.p))
      obtain ⟨r, hr1, hr2⟩ := ref_at (as := rs) (i := pq.1) (by rw [hR7.len, T7.len]; exact okq.p)
      have hrow := hR7.row _ r hr1
      have t0 : atI (payV pq) 0 = some (.int (pq.1 : Nat)) := atI_nat (j := 0) rfl
      have t1 : atI (payV pq) 1 = some (.int (pq.2.1 : Nat)) := atI_nat (j := 1) rfl
      have t2 : atI (payV pq) 2 = some (.int pq.2.2) := atI_nat (j := 2) rfl
      refine ⟨.ref R, rfl, .ref b, rfl, b, _, _, _, rfl, rfl, SqT.of hbt, t0, R, _, _, _, rfl, rfl, SqL.of hR7.top, atI_nat hr2, .ref b, rfl, b, _, _, _, rfl, rfl, SqT.of hbt, t1, r, _, _, _, rfl, rfl, SqL.of hrow, atI_nat (int_at (by rw [hrl]; exact okq.r)),
        .ref b, rfl, b, _, _, _, rfl, rfl, SqT.of hbt, t2, _, _, rfl, rfl, ?_⟩
      refine ⟨.ref R, rfl, .ref b, rfl, b, _, _, _, rfl, rfl, SqT.of hbt, t0, R, _, _, _, rfl, rfl, SqL.of hR7.top, atI_nat hr2, .ref b, rfl, b, _, _, _, rfl, rfl, SqT.of hbt, t1, r, _, _, pq.2.1, rfl, rfl, hrow, ixN_of rfl (by rw [List.length_map, hrl]; exact okq.r), ?_⟩
      rw [set_ints]
      refine ⟨_, rfl, same_put s7 (nrs r (List.mem_of_getElem? hr1)), ?_⟩
      rw [List.take_add_one, hq]
      show TabA _ R rs (addAll (zT n) ((compressL (netsL t)).take i ++ [pq]))
      rw [addAll_snoc]
      exact hR7.put hr1 _
    · rintro σ H7 ⟨y5, rfl, s7, hR7⟩
      rw [ebs, List.take_length] at hR7
      obtain ⟨U0, e0⟩ := nets_back T
      -- if not _law_small(others)
      refine ⟨.ref R, rfl, R, rs, _, rfl, hR7, fun b hsm => ⟨b, rfl, ?_⟩⟩
      cases b with
      | false => exact iteT (q H7)
      | true =>
        refine iteF ?_
        have M0 := hsm rfl
        -- for cell in script[16:36]
        refine ⟨.ref a, rfl, _, rfl, _, rfl, a, _, rfl, (s1.trans (s15.trans s7)).seq hS, fun C2 nC2 => ?_⟩
        refine ⟨C2, rfl, ⟨_, SqL.of upd_same⟩, for_list (K := K) (a := C2) (xs := cutV (ns.map V.int) (some 16) (some 36))
          (fun i σ H8 => ∃ (R2 : Addr) (r2 : List Addr) (u : Tbl) (y6 y7 : Option V), σ = [some (.ref a), some (.ref O), some (.ref p), some (.int (amounts (compressL (netsL t)))), some (.ref R2), y5, y6, y7, none, none] ∧
            Same (upd H7 C2 (.lst (cutV (ns.map V.int) (some 16) (some 36)))) H8 ∧ TabA H8 R2 r2 u ∧ Tab n u ∧ netsL u = netsL t ∧ Most 1000000 u)
          ⟨R, rs, _, none, none, rfl, Same.refl _, hR7.same (same_upd nC2), U0, e0, M0⟩ (fun i σ H8 _ ⟨_, _, _, _, _, _, s8, _⟩ => s8.seq (SqL.of upd_same)) ?_ ?_⟩
        · rintro i x σ H8 hx ⟨R2, r2, u, y6, y7, rfl, s8, hR8, U, eu, Mu⟩
          obtain ⟨z, rfl⟩ := cut_ints hx
          refine ⟨.ref R2, rfl, .int z, rfl, R2, r2, u, n, z, rfl, hR8, U, n1, n2, fun v H9 R3 r3 V1 ev s9 nR3 hR9 => ?_⟩
          refine ⟨.ref R3, rfl, R3, r3, v, rfl, hR9, fun b hsm2 => ⟨b, rfl, ?_⟩⟩
          cases b with
          | true => exact iteT ⟨_, rfl, R3, r3, v, _, _, rfl, s8.trans s9, hR9, V1, ev.trans eu, hsm2 rfl⟩
          | false => exact iteF ⟨R2, r2, u, _, _, rfl, s8.trans s9, hR8.same s9, U, eu, Mu⟩
        · rintro σ H8 ⟨R2, r2, u, y6, y7, rfl, s8, hR8, U, eu, Mu⟩
          -- if least > sum(..)
          refine ⟨_, rfl, ?_⟩
          refine tot_reads (K := K) (i := 4) (j := 8) (t := u) (as := r2) (a := R2) rfl (by show 8 < 10; decide) hR8 (by rw [U.len]; omega) fun H9 s9 => ?_
          refine ⟨_, _, rfl, rfl, _, rfl, ?_⟩
          rw [decide_eq_false (show ¬ tot u < amounts (compressL (netsL t)) from Int.not_lt.mpr (least T U eu))]
          refine iteF ?_
          -- return compress(others) == payments
          refine ⟨.ref R2, rfl, R2, r2, u, n, rfl, hR8.same s9, U, n1, by omega, fun r hr x hx => by have := Mu r hr x hx; omega, fun H10 p2 bs2 s10 np2 hP2 _ => ?_⟩
          rw [eu] at hP2
          have hP10 : PayA H10 p bs (compressL (netsL t)) := hP5.same (s7.trans ((same_upd nC2).trans (s8.trans (s9.trans s10))))
          refine ⟨.ref p, rfl, _, _, hP2.dp, hP10.dp, pays_shaped _, pays_shaped _, ?_⟩
          rw [SeqAt.eqv_refl _ (SeqAt.canLay_of_shaped (pays_shaped (compressL (netsL t))))]
          exact q H10
end
end K44
namespace K44
open PySem PySem.Spec PyProof.Rows L2
/-! ### what the top has written; the law's own head -/
theorem all_mk {l : PySem.W.OpenLaw} {w : World} {K : PySem.W.Frag} {h : Heap} {mg : Str → Option Value} {fa f1 f2 f3 f4 f5 f6 f7 f8 f9 f10 f11 f12 f13 : Addr} {t1 t2 : Tok} (X : K.In h) (G : h.Ns mainGlobals mg) (hfa : mg "law" = some (.ref fa))
    {od1 an1 od2 an2 od3 an3 od4 an4 od5 an5 od6 an6 od7 an7 od8 an8 od9 an9 od10 an10 od11 an11 od12 an12 od13 an13 : Option Addr} {sl1 sl2 sl3 sl4 sl5 sl6 sl7 sl8 sl9 sl10 sl11 sl12 sl13 : Array (Option Value)} {oc1 kV1 dc1 pm1 cd1 ct1 oc2 kV2 dc2 pm2 cd2 ct2 oc3 kV3 dc3 pm3 cd3 ct3 oc4 kV4 dc4 pm4 cd4 ct4 oc5 kV5 dc5 pm5 cd5 ct5 oc6 kV6 dc6 pm6 cd6 ct6 oc7 kV7 dc7 pm7 cd7 ct7 oc8 kV8 dc8 pm8 cd8 ct8 oc9 kV9 dc9 pm9 cd9 ct9 oc10 kV10 dc10 pm10 cd10 ct10 oc11 kV11 dc11 pm11 cd11 ct11 oc12 kV12 dc12 pm12 cd12 ct12 oc13 kV13 dc13 pm13 cd13 ct13 : Value}
    (a1 : PySem.W.nsIn K mainGlobals "check_debts" = some (some (.ref f1))) (l1 : K.lookup f1 = some ⟨oc1, od1, .func (PySem.W.fnOf "check_debts" "check_debts" (defArgs sCheck) (defBody sCheck) (defScope sCheck) .none kV1 dc1 pm1 an1 cd1 ct1), sl1⟩) (c1 : PySem.W.codeIn K cd1 "check_debts" = true) (k1 : PySem.W.keepIn K (.ref f1) = true)
    (a2 : PySem.W.nsIn K mainGlobals "net_amounts" = some (some (.ref f2))) (l2 : K.lookup f2 = some ⟨oc2, od2, .func (PySem.W.fnOf "net_amounts" "net_amounts" (defArgs sNets) (defBody sNets) (defScope sNets) .none kV2 dc2 pm2 an2 cd2 ct2), sl2⟩) (c2 : PySem.W.codeIn K cd2 "net_amounts" = true) (k2 : PySem.W.keepIn K (.ref f2) = true)
    (a3 : PySem.W.nsIn K mainGlobals "compress" = some (some (.ref f3))) (l3 : K.lookup f3 = some ⟨oc3, od3, .func (PySem.W.fnOf "compress" "compress" (defArgs sComp) (defBody sComp) (defScope sComp) .none kV3 dc3 pm3 an3 cd3 ct3), sl3⟩) (c3 : PySem.W.codeIn K cd3 "compress" = true) (k3 : PySem.W.keepIn K (.ref f3) = true)
    (a4 : PySem.W.nsIn K mainGlobals "_law_cell" = some (some (.ref f4))) (l4 : K.lookup f4 = some ⟨oc4, od4, .func (PySem.W.fnOf "_law_cell" "_law_cell" (defArgs sCell) (defBody sCell) (defScope sCell) .none kV4 dc4 pm4 an4 cd4 ct4), sl4⟩) (c4 : PySem.W.codeIn K cd4 "_law_cell" = true) (k4 : PySem.W.keepIn K (.ref f4) = true)
    (a5 : PySem.W.nsIn K mainGlobals "_law_draws" = some (some (.ref f5))) (l5 : K.lookup f5 = some ⟨oc5, od5, .func (PySem.W.fnOf "_law_draws" "_law_draws" (defArgs sDraws) (defBody sDraws) (defScope sDraws) .none kV5 dc5 pm5 an5 cd5 ct5), sl5⟩) (c5 : PySem.W.codeIn K cd5 "_law_draws" = true) (k5 : PySem.W.keepIn K (.ref f5) = true)
    (a6 : PySem.W.nsIn K mainGlobals "_law_is_integer" = some (some (.ref f6))) (l6 : K.lookup f6 = some ⟨oc6, od6, .func (PySem.W.fnOf "_law_is_integer" "_law_is_integer" (defArgs sIsInt) (defBody sIsInt) (defScope sIsInt) .none kV6 dc6 pm6 an6 cd6 ct6), sl6⟩) (c6 : PySem.W.codeIn K cd6 "_law_is_integer" = true) (k6 : PySem.W.keepIn K (.ref f6) = true)
    (a7 : PySem.W.nsIn K mainGlobals "_law_market_size" = some (some (.ref f7))) (l7 : K.lookup f7 = some ⟨oc7, od7, .func (PySem.W.fnOf "_law_market_size" "_law_market_size" (defArgs sSize) (defBody sSize) (defScope sSize) .none kV7 dc7 pm7 an7 cd7 ct7), sl7⟩) (c7 : PySem.W.codeIn K cd7 "_law_market_size" = true) (k7 : PySem.W.keepIn K (.ref f7) = true)
    (a8 : PySem.W.nsIn K mainGlobals "_law_row" = some (some (.ref f8))) (l8 : K.lookup f8 = some ⟨oc8, od8, .func (PySem.W.fnOf "_law_row" "_law_row" (defArgs sRow) (defBody sRow) (defScope sRow) .none kV8 dc8 pm8 an8 cd8 ct8), sl8⟩) (c8 : PySem.W.codeIn K cd8 "_law_row" = true) (k8 : PySem.W.keepIn K (.ref f8) = true)
    (a9 : PySem.W.nsIn K mainGlobals "_law_market" = some (some (.ref f9))) (l9 : K.lookup f9 = some ⟨oc9, od9, .func (PySem.W.fnOf "_law_market" "_law_market" (defArgs sMarket) (defBody sMarket) (defScope sMarket) .none kV9 dc9 pm9 an9 cd9 ct9), sl9⟩) (c9 : PySem.W.codeIn K cd9 "_law_market" = true) (k9 : PySem.W.keepIn K (.ref f9) = true)
    (a10 : PySem.W.nsIn K mainGlobals "_law_with_ring" = some (some (.ref f10))) (l10 : K.lookup f10 = some ⟨oc10, od10, .func (PySem.W.fnOf "_law_with_ring" "_law_with_ring" (defArgs sRing) (defBody sRing) (defScope sRing) .none kV10 dc10 pm10 an10 cd10 ct10), sl10⟩) (c10 : PySem.W.codeIn K cd10 "_law_with_ring" = true) (k10 : PySem.W.keepIn K (.ref f10) = true)
    (a11 : PySem.W.nsIn K mainGlobals "_law_sum" = some (some (.ref f11))) (l11 : K.lookup f11 = some ⟨oc11, od11, .func (PySem.W.fnOf "_law_sum" "_law_sum" (defArgs sSum) (defBody sSum) (defScope sSum) .none kV11 dc11 pm11 an11 cd11 ct11), sl11⟩) (c11 : PySem.W.codeIn K cd11 "_law_sum" = true) (k11 : PySem.W.keepIn K (.ref f11) = true)
    (a12 : PySem.W.nsIn K mainGlobals "_law_small" = some (some (.ref f12))) (l12 : K.lookup f12 = some ⟨oc12, od12, .func (PySem.W.fnOf "_law_small" "_law_small" (defArgs sSmall) (defBody sSmall) (defScope sSmall) .none kV12 dc12 pm12 an12 cd12 ct12), sl12⟩) (c12 : PySem.W.codeIn K cd12 "_law_small" = true) (k12 : PySem.W.keepIn K (.ref f12) = true)
    (a13 : PySem.W.nsIn K mainGlobals "law" = some (some (.ref f13))) (l13 : K.lookup f13 = some ⟨oc13, od13, .func (PySem.W.fnOf "law" "law" (defArgs sLaw) (defBody sLaw) (defScope sLaw) .none kV13 dc13 pm13 an13 cd13 ct13), sl13⟩) (c13 : PySem.W.codeIn K cd13 "law" = true) (k13 : PySem.W.keepIn K (.ref f13) = true)
    (z1 : PySem.W.nsIn K mainGlobals "len" = some none)
    (z2 : PySem.W.nsIn K mainGlobals "range" = some none)
    (z3 : PySem.W.nsIn K mainGlobals "sum" = some none)
    (z4 : PySem.W.nsIn K mainGlobals "min" = some none)
    (z5 : PySem.W.nsIn K mainGlobals "abs" = some none)
    (z6 : PySem.W.nsIn K mainGlobals "int" = some none)
    (z7 : PySem.W.nsIn K mainGlobals "isinstance" = some none)
    (z8 : PySem.W.nsIn K mainGlobals "list" = some none)
    (z9 : PySem.W.nsIn K mainGlobals "tuple" = some none)
    (z10 : PySem.W.nsIn K mainGlobals "bool" = some none)
    (y1 : PySem.W.nsIn K mainGlobals "MOST_HOUSES" = some (some (.int 13 t1))) (y2 : PySem.W.nsIn K mainGlobals "LARGEST_DEBT" = some (some (.int 1000000000000000 t2))) :
    ∃ fd : FuncData, (∀ (s : Shared) (v : Value), BindsTo s fd ⟨[v], []⟩ [("_law_script", v)]) ∧ ∀ base : Heap, K.In base → base.Ns mainGlobals mg → FnOk l.prog w K mg base CX0 4 fa fd ["_law_script"] (spLaw K) := by
  have e := hfa.symm.trans (PySem.W.mg_of X G a13)
  cases e
  have F1 := fun_mk (st := sCheck) l1 c1 k1
  have F2 := fun_mk (st := sNets) l2 c2 k2
  have F3 := fun_mk (st := sComp) l3 c3 k3
  have F4 := fun_mk (st := sCell) l4 c4 k4
  have F5 := fun_mk (st := sDraws) l5 c5 k5
  have F6 := fun_mk (st := sIsInt) l6 c6 k6
  have F7 := fun_mk (st := sSize) l7 c7 k7
  have F8 := fun_mk (st := sRow) l8 c8 k8
  have F9 := fun_mk (st := sMarket) l9 c9 k9
  have F10 := fun_mk (st := sRing) l10 c10 k10
  have F11 := fun_mk (st := sSum) l11 c11 k11
  have F12 := fun_mk (st := sSmall) l12 c12 k12
  have F13 := fun_mk (st := sLaw) l13 c13 k13
  have b1 := F1.binds (ps := ["owed"]) fun _ _ _ _ _ _ us hl => match us, hl with | [_], _ => rfl
  have b2 := F2.binds (ps := ["owed"]) fun _ _ _ _ _ _ us hl => match us, hl with | [_], _ => rfl
  have b3 := F3.binds (ps := ["owed"]) fun _ _ _ _ _ _ us hl => match us, hl with | [_], _ => rfl
  have b4 := F4.binds (ps := ["_law_script", "_law_k"]) fun _ _ _ _ _ _ us hl => match us, hl with | [_, _], _ => rfl
  have b5 := F5.binds (ps := ["_law_cell_here", "_law_count", "_law_size"]) fun _ _ _ _ _ _ us hl => match us, hl with | [_, _, _], _ => rfl
  have b6 := F6.binds (ps := ["_law_actual"]) fun _ _ _ _ _ _ us hl => match us, hl with | [_], _ => rfl
  have b7 := F7.binds (ps := ["_law_shape"]) fun _ _ _ _ _ _ us hl => match us, hl with | [_], _ => rfl
  have b8 := F8.binds (ps := ["_law_cell_here", "_law_shape", "_law_payer", "_law_count", "_law_size"]) fun _ _ _ _ _ _ us hl => match us, hl with | [_, _, _, _, _], _ => rfl
  have b9 := F9.binds (ps := ["_law_script"]) fun _ _ _ _ _ _ us hl => match us, hl with | [_], _ => rfl
  have b10 := F10.binds (ps := ["_law_debts", "_law_cell_here"]) fun _ _ _ _ _ _ us hl => match us, hl with | [_, _], _ => rfl
  have b11 := F11.binds (ps := ["_law_payments"]) fun _ _ _ _ _ _ us hl => match us, hl with | [_], _ => rfl
  have b12 := F12.binds (ps := ["_law_debts"]) fun _ _ _ _ _ _ us hl => match us, hl with | [_], _ => rfl
  have b13 := F13.binds (ps := ["_law_script"]) fun _ _ _ _ _ _ us hl => match us, hl with | [_], _ => rfl
  have g1 := PySem.W.mg_of X G a1
  have g2 := PySem.W.mg_of X G a2
  have g3 := PySem.W.mg_of X G a3
  have g4 := PySem.W.mg_of X G a4
  have g5 := PySem.W.mg_of X G a5
  have g6 := PySem.W.mg_of X G a6
  have g7 := PySem.W.mg_of X G a7
  have g8 := PySem.W.mg_of X G a8
  have g9 := PySem.W.mg_of X G a9
  have g10 := PySem.W.mg_of X G a10
  have g11 := PySem.W.mg_of X G a11
  have g12 := PySem.W.mg_of X G a12
  have g13 := PySem.W.mg_of X G a13
  have m_len := PySem.W.mg_none_of X G z1
  have m_range := PySem.W.mg_none_of X G z2
  have m_sum := PySem.W.mg_none_of X G z3
  have m_min := PySem.W.mg_none_of X G z4
  have m_abs := PySem.W.mg_none_of X G z5
  have m_int := PySem.W.mg_none_of X G z6
  have m_isinstance := PySem.W.mg_none_of X G z7
  have m_list := PySem.W.mg_none_of X G z8
  have m_tuple := PySem.W.mg_none_of X G z9
  have m_bool := PySem.W.mg_none_of X G z10
  have q1 := PySem.W.mg_of X G y1
  have q2 := PySem.W.mg_of X G y2
  refine ⟨PySem.W.fnOf "law" "law" (defArgs sLaw) (defBody sLaw) (defScope sLaw) .none kV13 dc13 pm13 an13 cd13 ct13, fun s v => .of_eq rfl, fun base _ _ => ?_⟩
  exact ok_law F13
    k9 (ok_market F9 F4 b4 g4 F7 b7 g7 F8 b8 g8 F5 b5 g5 m_len m_abs m_range m_int) b9 g9
    k3 (ok_comp F3 F2 b2 g2 F1 b1 g1 m_len m_range m_sum m_min q1 q2) b3 g3
    k11 ((ok_sum F11 F6 b6 g6 m_isinstance m_int m_bool m_len m_list m_tuple m_sum).mono (by decide)) b11 g11
    k12 (ok_small (k := 2) F12) b12 g12
    k10 ((ok_ring F10 F5 b5 g5 m_len m_abs m_range m_int m_list).mono (by decide)) b10 g10 m_sum m_list
end K44
open PySem PySem.W PyProof.Rows
set_option maxHeartbeats 0 in
theorem PySem.Challenge.cw_fairbourse_k44_whole_least_payments_holds : PySem.Challenge.rw_fairbourse_k44_whole_least_payments.Holds := by
  w_on; o_law; k_head; (case hw => w_witness2)
  k_fill
  refine L2.walk_of (l := PySem.Challenge.rw_fairbourse_k44_whole_least_payments) (n := 63) (k := 4) (x := "_law_script") (CX := fun _ => L2.CX0) (sp := fun w => K44.spLaw _) rfl (by decide) rfl ⟨rfl, by decide, by decide⟩ (fun w h Y => PySem.W.kIn_of Y) ?F (fun _ _ a ns hl _ hS => ⟨a, ns, rfl, hS, hl, fun _ => rfl⟩) (fun _ _ _ _ _ h => h)
  case F =>
    intro w mg fa h KX G hmg
    refine' K44.all_mk KX G hmg ?a1 ?l1 ?c1 ?k1 ?a2 ?l2 ?c2 ?k2 ?a3 ?l3 ?c3 ?k3 ?a4 ?l4 ?c4 ?k4 ?a5 ?l5 ?c5 ?k5 ?a6 ?l6 ?c6 ?k6 ?a7 ?l7 ?c7 ?k7 ?a8 ?l8 ?c8 ?k8 ?a9 ?l9 ?c9 ?k9 ?a10 ?l10 ?c10 ?k10 ?a11 ?l11 ?c11 ?k11 ?a12 ?l12 ?c12 ?k12 ?a13 ?l13 ?c13 ?k13 ?z1 ?z2 ?z3 ?z4 ?z5 ?z6 ?z7 ?z8 ?z9 ?z10 ?y1 ?y2
    (case a1 => k_is); (case l1 => k_is); (case c1 => k_is); (case k1 => k_is); (case a2 => k_is); (case l2 => k_is); (case c2 => k_is); (case k2 => k_is); (case a3 => k_is); (case l3 => k_is); (case c3 => k_is); (case k3 => k_is); (case a4 => k_is); (case l4 => k_is); (case c4 => k_is); (case k4 => k_is); (case a5 => k_is); (case l5 => k_is); (case c5 => k_is); (case k5 => k_is); (case a6 => k_is); (case l6 => k_is); (case c6 => k_is); (case k6 => k_is); (case a7 => k_is); (case l7 => k_is); (case c7 => k_is); (case k7 => k_is); (case a8 => k_is); (case l8 => k_is); (case c8 => k_is); (case k8 => k_is); (case a9 => k_is); (case l9 => k_is); (case c9 => k_is); (case k9 => k_is); (case a10 => k_is); (case l10 => k_is); (case c10 => k_is); (case k10 => k_is); (case a11 => k_is); (case l11 => k_is); (case c11 => k_is); (case k11 => k_is); (case a12 => k_is); (case l12 => k_is); (case c12 => k_is); (case k12 => k_is); (case a13 => k_is); (case l13 => k_is); (case c13 => k_is); (case k13 => k_is); (case z1 => k_is); (case z2 => k_is); (case z3 => k_is); (case z4 => k_is); (case z5 => k_is); (case z6 => k_is); (case z7 => k_is); (case z8 => k_is); (case z9 => k_is); (case z10 => k_is); (case y1 => k_is); (case y2 => k_is)
