import PyProof.Rows.All
import Wide.All
import OpenK.AllK
import Wide.FinOn
import Lean
import PySem.Challenge.RW_xm0742_01
set_option Elab.async false
set_option maxRecDepth 100000
namespace Mine
/-! the plain side: filling pages -/
section
variable {α : Type} (c : α → Int) (room : Int)

/-- pages that are done, the page at hand, what it uses -/
abbrev Pg (α : Type) := List (List α) × List α × Int
def rowsStep (s : Pg α) (x : α) : Pg α :=
  if room < s.2.2 + c x ∧ s.2.1.length ≠ 0 then (s.1 ++ [s.2.1], [x], c x) else (s.1, s.2.1 ++ [x], s.2.2 + c x)
def rowsSt (xs : List α) : Pg α := xs.foldl (rowsStep c room) ([], [], 0)
def rows (xs : List α) : List (List α) := (rowsSt c room xs).1 ++ [(rowsSt c room xs).2.1]
theorem rowsSt_snoc (xs : List α) (x : α) : rowsSt c room (xs ++ [x]) = rowsStep c room (rowsSt c room xs) x := by
  unfold rowsSt; rw [List.foldl_append]; rfl
theorem take_succ_of {xs : List α} {i : Nat} {x : α} (h : xs[i]? = some x) : xs.take (i + 1) = xs.take i ++ [x] := by
  rw [List.take_add_one, h]; rfl

/-- done pages, the page at hand, what it uses, what goes up between -/
abbrev Bt (α : Type) := List (List α) × List α × Int × List α
def betwStep (s : Bt α) (x : α) : Bt α :=
  if room < s.2.2.1 + c x ∧ s.2.1.length ≠ 0 then (s.1 ++ [s.2.1], [], 0, s.2.2.2 ++ [x]) else (s.1, s.2.1 ++ [x], s.2.2.1 + c x, s.2.2.2)
def betwSt (xs : List α) : Bt α := xs.foldl (betwStep c room) ([], [], 0, [])
theorem betwSt_snoc (xs : List α) (x : α) : betwSt c room (xs ++ [x]) = betwStep c room (betwSt c room xs) x := by
  unfold betwSt; rw [List.foldl_append]; rfl
/-- no page is left empty -/
def betwFix (s : Bt α) : List (List α) × List α :=
  if s.1.length ≠ 0 ∧ s.2.1.length = 0 then
    (s.1.dropLast ++ [(s.1.getLast?.getD []).dropLast] ++ [s.2.2.2.getLast?.toList], s.2.2.2.dropLast ++ (s.1.getLast?.getD []).getLast?.toList)
  else (s.1 ++ [s.2.1], s.2.2.2)
def betw (xs : List α) : List (List α) × List α := betwFix (betwSt c room xs)

theorem snoc_of {β : Type} {l : List β} (h : l.length ≠ 0) : ∃ r y, l = r ++ [y] := by
  rcases List.eq_nil_or_concat l with e | ⟨r, y, e⟩
  · subst e; exact absurd rfl h
  · exact ⟨r, y, by rw [e, List.concat_eq_append]⟩
theorem snoc_ind {β : Type} {M : List β → Prop} (z : M []) (k : ∀ xs x, M xs → M (xs ++ [x])) (xs : List β) : M xs := by
  have : ∀ ys : List β, M ys.reverse := by
    intro ys
    induction ys with
    | nil => exact z
    | cons y r ih => rw [List.reverse_cons]; exact k _ _ ih
  have e := this xs.reverse
  rwa [List.reverse_reverse] at e
theorem betw_inv (xs : List α) : (betwSt c room xs).2.2.2.length = (betwSt c room xs).1.length ∧ ∀ p ∈ (betwSt c room xs).1, p.length ≠ 0 := by
  refine snoc_ind (M := fun xs => (betwSt c room xs).2.2.2.length = (betwSt c room xs).1.length ∧ ∀ p ∈ (betwSt c room xs).1, p.length ≠ 0) ⟨rfl, fun p h => nomatch h⟩ (fun xs x ih => ?_) xs
  · rw [betwSt_snoc]
    unfold betwStep
    split
    · rename_i h
      refine ⟨by simp [ih.1], fun p hp => ?_⟩
      rcases List.mem_append.mp hp with hp | hp
      · exact ih.2 p hp
      · rw [List.mem_singleton.mp hp]; exact h.2
    · exact ih
theorem betwFix_last {dn : List (List α)} {pg md : List α} {x y : α} {u : Int} : betwFix (dn ++ [pg ++ [y]], [], u, md ++ [x]) = (dn ++ [pg] ++ [[x]], md ++ [y]) := by
  unfold betwFix
  rw [if_pos (by simp)]
  simp

/-- the least table, as the law reckons it -/
def inStep (step : Nat) (xs : List α) (first : Nat) (s : Int × List Int) (j : Nat) : Int × List Int :=
  (s.1 + (xs[first + j]?.map c).getD 0,
    if s.1 + (xs[first + j]?.map c).getD 0 ≤ room ∨ j = 0 then
      (if first + 1 + j = xs.length then s.2.set first 1
       else if first + 1 + j + step < xs.length then s.2.set first (min (s.2.getD first 0) (1 + s.2.getD (first + 1 + j + step) 0))
       else s.2)
    else s.2)
def inSt (step : Nat) (xs : List α) (first : Nat) (Z : List Int) (k : Nat) : Int × List Int :=
  (List.range k).foldl (inStep c room step xs first) (0, Z.set first (xs.length + 1))
def outSt (step : Nat) (xs : List α) (k : Nat) : List Int :=
  (List.range k).foldl (fun Z i => (inSt c room step xs (xs.length - (i + 1)) Z (i + 1)).2) (List.replicate xs.length 0)
def leastOf (step : Nat) (xs : List α) : Int := (outSt c room step xs xs.length).getD 0 0
theorem inSt_succ (step : Nat) (xs : List α) (first : Nat) (Z : List Int) (k : Nat) : inSt c room step xs first Z (k + 1) = inStep c room step xs first (inSt c room step xs first Z k) k := by
  unfold inSt; rw [List.range_succ, List.foldl_append]; rfl
theorem outSt_succ (step : Nat) (xs : List α) (k : Nat) : outSt c room step xs (k + 1) = (inSt c room step xs (xs.length - (k + 1)) (outSt c room step xs k) (k + 1)).2 := by
  unfold outSt; rw [List.range_succ, List.foldl_append]; rfl
end

/-! the plain side: the law's least number is the greedy one -/
section
variable {α : Type} (c : α → Int) (room : Int) (step : Nat)

/-- how often a page is full, going on from one that uses u (ne: it holds a cell) -/
def gr : Int → Bool → List α → Nat
  | _, _, [] => 0
  | u, ne, x :: r => if room < u + c x ∧ ne = true then 1 + (if step = 0 then gr (c x) true r else gr 0 false r) else gr (u + c x) true r

variable {c room step}
theorem gr_both (h0 : ∀ x, 0 ≤ c x) (s : List α) :
    (∀ a b ne ne', 0 ≤ b → gr c room step a ne s ≤ 1 + gr c room step b ne' s) ∧
    (∀ a b ne ne', 0 ≤ a → a ≤ b → (ne = true → ne' = true) → gr c room step a ne s ≤ gr c room step b ne' s) := by
  induction s with
  | nil => exact ⟨fun _ _ _ _ _ => by simp [gr], fun _ _ _ _ _ _ _ => by simp [gr]⟩
  | cons x r ih =>
    obtain ⟨i1, i2⟩ := ih
    have hx := h0 x
    have fr : ∀ b, 0 ≤ b → (if step = 0 then gr c room step (c x) true r else gr c room step 0 false r) ≤ gr c room step (b + c x) true r := fun b hb => by
      split
      · exact i2 _ _ _ _ hx (by omega) (fun _ => rfl)
      · exact i2 _ _ _ _ (by omega) (by omega) (fun _ => rfl)
    have fu : ∀ a, gr c room step a true r ≤ 1 + (if step = 0 then gr c room step (c x) true r else gr c room step 0 false r) := fun a => by
      split
      · exact i1 _ _ _ _ hx
      · exact i1 _ _ _ _ (by omega)
    refine ⟨fun a b ne ne' hb => ?_, fun a b ne ne' ha hab hn => ?_⟩
    · simp only [gr]
      by_cases p : room < a + c x ∧ ne = true
      · rw [if_pos p]
        by_cases q : room < b + c x ∧ ne' = true
        · rw [if_pos q]; omega
        · rw [if_neg q]; have := fr b hb; omega
      · rw [if_neg p]
        by_cases q : room < b + c x ∧ ne' = true
        · rw [if_pos q]; have := fu (a + c x); omega
        · rw [if_neg q]; exact i1 _ _ _ _ (by omega)
    · simp only [gr]
      by_cases p : room < a + c x ∧ ne = true
      · have q : room < b + c x ∧ ne' = true := ⟨by omega, hn p.2⟩
        rw [if_pos p, if_pos q]
        exact Nat.le_refl _
      · rw [if_neg p]
        by_cases q : room < b + c x ∧ ne' = true
        · rw [if_pos q]; exact fu _
        · rw [if_neg q]; exact i2 _ _ _ _ (by omega) (by omega) (fun _ => rfl)
theorem gr_tail (h0 : ∀ x, 0 ≤ c x) (x : α) (s : List α) : gr c room step 0 false s ≤ gr c room step 0 false (x :: s) := by
  simp only [gr]
  rw [if_neg (by simp)]
  exact (gr_both h0 s).2 _ _ _ _ (by omega) (by have := h0 x; omega) (fun _ => rfl)
theorem gr_le (s : List α) : ∀ u ne, gr c room step u ne s ≤ s.length := by
  induction s with
  | nil => intro u ne; simp [gr]
  | cons x r ih =>
    intro u ne
    simp only [gr, List.length_cons]
    split
    · split <;> have := ih (c x) true <;> have := ih 0 false <;> omega
    · have := ih (u + c x) true; omega
theorem gr_first (x : α) (s : List α) : gr c room step 0 false (x :: s) ≤ s.length := by
  simp only [gr]
  rw [if_neg (by simp)]
  exact gr_le s _ _

/-- the inner loop of the law's table, over what is left -/
def inL (c : α → Int) (room : Int) (step : Nat) (V : List α → Int) : Int → Bool → Int → List α → Int
  | _, _, v, [] => v
  | u, b, v, x :: r => inL c room step V (u + c x) false
      (if u + c x ≤ room ∨ b = true then (if r.length = 0 then 1 else if (r.drop step).length ≠ 0 then min v (1 + V (r.drop step)) else v) else v) r
abbrev Vg (c : α → Int) (room : Int) (step : Nat) (s : List α) : Int := 1 + (gr c room step 0 false s : Int)

theorem inL_over (h0 : ∀ x, 0 ≤ c x) (V : List α → Int) (s : List α) : ∀ u v, room < u → inL c room step V u false v s = v := by
  induction s with
  | nil => intro u v _; rfl
  | cons x r ih =>
    intro u v hu
    have := h0 x
    rw [inL, if_neg (by simp; omega)]
    exact ih _ _ (by omega)
theorem inL_zero (h0 : ∀ x, 0 ≤ c x) (s : List α) : ∀ u, s.length ≠ 0 → inL c room 0 (Vg c room 0) u false (1 + Vg c room 0 s) s = 1 + (gr c room 0 u true s : Int) := by
  induction s with
  | nil => intro u h; exact absurd rfl h
  | cons x r ih =>
    intro u _
    rw [inL]
    by_cases h : u + c x ≤ room
    · rw [if_pos (.inl h)]
      have e : gr c room 0 u true (x :: r) = gr c room 0 (u + c x) true r := by simp only [gr]; rw [if_neg (by omega)]
      rw [e]
      by_cases hr : r.length = 0
      · rw [if_pos hr]
        have : r = [] := List.length_eq_zero_iff.mp hr
        subst this
        simp [inL, gr]
      · rw [if_neg hr, List.drop_zero, if_pos hr]
        have m := gr_tail (room := room) (step := 0) h0 x r
        rw [show min (1 + Vg c room 0 (x :: r)) (1 + Vg c room 0 r) = 1 + Vg c room 0 r by unfold Vg; omega]
        exact ih _ hr
    · rw [if_neg (by simp; omega), inL_over h0 _ _ _ _ (by omega)]
      have e : gr c room 0 u true (x :: r) = 1 + gr c room 0 (c x) true r := by
        have q : room < u + c x ∧ true = true := ⟨by omega, rfl⟩
        conv => lhs; rw [gr, if_pos q]
        simp
      have e2 : gr c room 0 0 false (x :: r) = gr c room 0 (c x) true r := by simp only [gr]; rw [if_neg (by simp), Int.zero_add]
      rw [e, Vg, e2]
      omega
theorem least_zero (h0 : ∀ x, 0 ≤ c x) (s : List α) (N : Int) (hN : (s.length : Int) + 1 ≤ N) (hs : s.length ≠ 0) : inL c room 0 (Vg c room 0) 0 true N s = Vg c room 0 s := by
  cases s with
  | nil => exact absurd rfl hs
  | cons x r =>
    rw [inL, if_pos (.inr rfl)]
    have e2 : gr c room 0 0 false (x :: r) = gr c room 0 (0 + c x) true r := by simp only [gr]; rw [if_neg (by simp)]
    unfold Vg
    rw [e2]
    by_cases hr : r.length = 0
    · rw [if_pos hr]
      have : r = [] := List.length_eq_zero_iff.mp hr
      subst this
      simp [inL, gr]
    · rw [if_neg hr, List.drop_zero, if_pos hr]
      have l : gr c room 0 0 false r + 1 ≤ r.length := by
        cases r with
        | nil => exact absurd rfl hr
        | cons y t => have := gr_first (c := c) (room := room) (step := 0) y t; simp only [List.length_cons]; omega
      simp only [List.length_cons] at hN
      rw [show min N (1 + (1 + (gr c room 0 0 false r : Int))) = 1 + Vg c room 0 r by unfold Vg; omega]
      exact inL_zero h0 r _ hr
theorem inL_one (h0 : ∀ x, 0 ≤ c x) (s : List α) : ∀ u v, s.length ≠ 0 → (2 ≤ s.length → v = 1 + Vg c room 1 s.tail) → (∀ x, s = [x] → v = 2 ∨ u + c x ≤ room) →
    inL c room 1 (Vg c room 1) u false v s = 1 + (gr c room 1 u true s : Int) := by
  induction s with
  | nil => intro u v h; exact absurd rfl h
  | cons x r ih =>
    intro u v _ h2 h1
    rw [inL]
    by_cases h : u + c x ≤ room
    · rw [if_pos (.inl h)]
      have e : gr c room 1 u true (x :: r) = gr c room 1 (u + c x) true r := by simp only [gr]; rw [if_neg (by omega)]
      rw [e]
      match r, h2, h1, ih with
      | [], _, _, _ => simp [inL, gr]
      | [y], h2, _, ih =>
        have hv := h2 (by simp)
        rw [if_neg (by simp), if_neg (by simp)]
        refine ih _ _ (by simp) (by simp) fun z hz => .inl ?_
        rw [hv]
        simp [Vg, gr]
      | y :: z :: t, h2, _, ih =>
        have hv := h2 (by simp)
        rw [if_neg (by simp), if_pos (by simp)]
        have m := gr_tail (room := room) (step := 1) h0 y (z :: t)
        rw [show min v (1 + Vg c room 1 (List.drop 1 (y :: z :: t))) = 1 + Vg c room 1 (z :: t) by
          rw [hv]; unfold Vg; simp only [List.tail_cons, List.drop_one]; omega]
        exact ih _ _ (by simp) (fun _ => rfl) (fun w hw => by simp at hw)
    · rw [if_neg (by simp; omega), inL_over h0 _ _ _ _ (by omega)]
      have e : gr c room 1 u true (x :: r) = 1 + gr c room 1 0 false r := by
        have q : room < u + c x ∧ true = true := ⟨by omega, rfl⟩
        conv => lhs; rw [gr, if_pos q]
        simp
      rw [e]
      cases r with
      | nil =>
        rcases h1 x rfl with q | q
        · rw [q]; simp [gr]
        · exact absurd q h
      | cons y t =>
        rw [h2 (by simp), List.tail_cons]
        unfold Vg
        omega
theorem least_one (h0 : ∀ x, 0 ≤ c x) (s : List α) (N : Int) (hN : (s.length : Int) + 1 ≤ N) (hs : s.length ≠ 0) (hh : ∀ x ∈ s, 2 * c x ≤ room) : inL c room 1 (Vg c room 1) 0 true N s = Vg c room 1 s := by
  cases s with
  | nil => exact absurd rfl hs
  | cons x r =>
    rw [inL, if_pos (.inr rfl)]
    have e2 : gr c room 1 0 false (x :: r) = gr c room 1 (0 + c x) true r := by simp only [gr]; rw [if_neg (by simp)]
    unfold Vg
    rw [e2]
    match r, hN, hh with
    | [], _, _ => simp [inL, gr]
    | [y], _, hh =>
      rw [if_neg (by simp), if_neg (by simp)]
      refine inL_one h0 _ _ _ (by simp) (by simp) fun z hz => .inr ?_
      have a := hh x (by simp)
      have b := hh y (by simp)
      simp only [List.cons.injEq, and_true] at hz
      subst hz
      omega
    | y :: z :: t, hN, _ =>
      rw [if_neg (by simp), if_pos (by simp)]
      have l := gr_first (c := c) (room := room) (step := 1) z t
      simp only [List.length_cons] at hN
      rw [show min N (1 + (1 + (gr c room 1 0 false (List.drop 1 (y :: z :: t)) : Int))) = 1 + Vg c room 1 (z :: t) by
        unfold Vg; simp only [List.drop_one, List.tail_cons]; omega]
      exact inL_one h0 _ _ _ (by simp) (fun _ => rfl) (fun w hw => by simp at hw)
end

/-! the plain side: what the law's table holds, and what the pages are -/
section
variable {α : Type} {c : α → Int} {room : Int} {step : Nat}

theorem inSt_inL (V : List α → Int) (xs : List α) (first : Nat) (hf : first < xs.length) (Z : List Int) (hz : Z.length = xs.length)
    (hV : ∀ k, first < k → k < xs.length → Z.getD k 0 = V (xs.drop k)) : ∀ k, first + k ≤ xs.length → ∃ u v, inSt c room step xs first Z k = (u, Z.set first v) ∧
      inL c room step V u (decide (k = 0)) v (xs.drop (first + k)) = inL c room step V 0 true (xs.length + 1) (xs.drop first)
  | 0, _ => ⟨0, xs.length + 1, rfl, by simp⟩
  | k + 1, hk => by
    obtain ⟨u, v, e1, e2⟩ := inSt_inL V xs first hf Z hz hV k (by omega)
    have hx : first + k < xs.length := by omega
    have gx : xs[first + k]? = some xs[first + k] := List.getElem?_eq_getElem hx
    have dx : xs.drop (first + k) = xs[first + k] :: xs.drop (first + (k + 1)) := by rw [List.drop_eq_getElem_cons hx]; rfl
    rw [inSt_succ, e1, ← e2, dx, inL]
    unfold inStep
    rw [gx]
    simp only [Option.map_some, Option.getD_some]
    refine ⟨u + c xs[first + k], if u + c xs[first + k] ≤ room ∨ decide (k = 0) = true then (if (xs.drop (first + (k + 1))).length = 0 then 1 else
      if ((xs.drop (first + (k + 1))).drop step).length ≠ 0 then min v (1 + V ((xs.drop (first + (k + 1))).drop step)) else v) else v, Prod.ext rfl ?_, by rw [show decide (k + 1 = 0) = false by simp]⟩
    · dsimp only
      simp only [decide_eq_true_eq, List.length_drop]
      by_cases h1 : u + c xs[first + k] ≤ room ∨ k = 0
      · rw [if_pos h1, if_pos h1]
        by_cases h2 : first + 1 + k = xs.length
        · rw [if_pos h2, if_pos (show xs.length - (first + (k + 1)) = 0 by omega), List.set_set]
        · rw [if_neg h2, if_neg (show ¬ xs.length - (first + (k + 1)) = 0 by omega)]
          by_cases h3 : first + 1 + k + step < xs.length
          · rw [if_pos h3, if_pos (show xs.length - (first + (k + 1)) - step ≠ 0 by omega), List.set_set]
            congr 2
            · rw [List.getD_eq_getElem?_getD, List.getElem?_set_self (by omega)]; rfl
            · rw [List.getD_eq_getElem?_getD, List.getElem?_set_ne (by omega), ← List.getD_eq_getElem?_getD, hV _ (by omega) h3, List.drop_drop,
                show first + (k + 1) + step = first + 1 + k + step by omega]
          · rw [if_neg h3, if_neg (show ¬ xs.length - (first + (k + 1)) - step ≠ 0 by omega)]
      · rw [if_neg h1, if_neg h1]
theorem outSt_V (V : List α → Int) (xs : List α) (hl : ∀ k, k < xs.length → inL c room step V 0 true (xs.length + 1) (xs.drop k) = V (xs.drop k)) :
    ∀ i, i ≤ xs.length → (outSt c room step xs i).length = xs.length ∧ ∀ k, xs.length - i ≤ k → k < xs.length → (outSt c room step xs i).getD k 0 = V (xs.drop k)
  | 0, _ => ⟨by simp [outSt], fun k h h' => absurd h (by omega)⟩
  | i + 1, hi => by
    obtain ⟨l, h⟩ := outSt_V V xs hl i (by omega)
    rw [outSt_succ]
    obtain ⟨u, v, e1, e2⟩ := inSt_inL (c := c) (room := room) (step := step) V xs (xs.length - (i + 1)) (by omega) (outSt c room step xs i) l (fun k h1 h2 => h k (by omega) h2) (i + 1) (by omega)
    rw [e1]
    refine ⟨by simp [l], fun k h1 h2 => ?_⟩
    by_cases hk : k = xs.length - (i + 1)
    · rw [List.getD_eq_getElem?_getD, hk, List.getElem?_set_self (by omega), ← hl _ (by omega), ← e2,
        show xs.length - (i + 1) + (i + 1) = xs.length by omega, List.drop_length]
      rfl
    · rw [List.getD_eq_getElem?_getD, List.getElem?_set_ne (by omega), ← List.getD_eq_getElem?_getD]
      exact h k (by omega) h2
theorem leastOf_zero (h0 : ∀ x, 0 ≤ c x) (xs : List α) (hx : xs.length ≠ 0) : leastOf c room 0 xs = 1 + (gr c room 0 0 false xs : Int) := by
  refine ((outSt_V (Vg c room 0) xs (fun k hk => ?_) xs.length (Nat.le_refl _)).2 0 (by omega) (by omega)).trans (by rw [List.drop_zero])
  exact least_zero h0 _ _ (by rw [List.length_drop]; omega) (by rw [List.length_drop]; omega)
theorem leastOf_one (h0 : ∀ x, 0 ≤ c x) (xs : List α) (hx : xs.length ≠ 0) (hh : ∀ x ∈ xs, 2 * c x ≤ room) : leastOf c room 1 xs = 1 + (gr c room 1 0 false xs : Int) := by
  refine ((outSt_V (Vg c room 1) xs (fun k hk => ?_) xs.length (Nat.le_refl _)).2 0 (by omega) (by omega)).trans (by rw [List.drop_zero])
  exact least_one h0 _ _ (by rw [List.length_drop]; omega) (by rw [List.length_drop]; omega) (fun x hx => hh x (List.mem_of_mem_drop hx))

theorem rows_fold (xs : List α) : ∀ s : Pg α, (xs.foldl (rowsStep c room) s).1.length = s.1.length + gr c room 0 s.2.2 (decide (s.2.1.length ≠ 0)) xs := by
  induction xs with
  | nil => intro s; simp [gr]
  | cons x r ih =>
    intro s
    rw [List.foldl_cons, ih, gr]
    unfold rowsStep
    by_cases h : room < s.2.2 + c x ∧ s.2.1.length ≠ 0
    · rw [if_pos h, if_pos ⟨h.1, by simpa using h.2⟩]
      simp
      omega
    · rw [if_neg h, if_neg (by simpa using h)]
      simp
theorem rows_length (xs : List α) : (rows c room xs).length = 1 + gr c room 0 0 false xs := by
  unfold rows
  rw [List.length_append, rowsSt, rows_fold]
  simp
  omega
theorem betw_fold (xs : List α) : ∀ s : Bt α, (xs.foldl (betwStep c room) s).1.length = s.1.length + gr c room 1 s.2.2.1 (decide (s.2.1.length ≠ 0)) xs := by
  induction xs with
  | nil => intro s; simp [gr]
  | cons x r ih =>
    intro s
    rw [List.foldl_cons, ih, gr]
    unfold betwStep
    by_cases h : room < s.2.2.1 + c x ∧ s.2.1.length ≠ 0
    · rw [if_pos h, if_pos ⟨h.1, by simpa using h.2⟩]
      simp
      omega
    · rw [if_neg h, if_neg (by simpa using h)]
      simp
theorem betwFix_length (s : Bt α) : (betwFix s).1.length = s.1.length + 1 := by
  unfold betwFix
  split
  · rename_i h; simp; omega
  · simp
theorem betw_length (xs : List α) : (betw c room xs).1.length = 1 + gr c room 1 0 false xs := by
  unfold betw
  rw [betwFix_length, betwSt, betw_fold]
  simp
  omega

/-- what the law asks of the pages of packed_rows -/
structure RowsOk (c : α → Int) (room : Int) (P : List (List α)) : Prop where
  ne : ∀ {i : Nat} {p : List α}, P[i]? = some p → p.length ≠ 0
  fit : ∀ {i : Nat} {p : List α}, P[i]? = some p → 1 < p.length → (p.map c).sum ≤ room
  nxt : ∀ {i : Nat} {p q : List α}, P[i]? = some p → P[i + 1]? = some q → room < ((p ++ q.take 1).map c).sum

theorem snoc_get {β : Type} {l : List β} {y z : β} {i : Nat} (h : (l ++ [y])[i]? = some z) : l[i]? = some z ∨ (i = l.length ∧ z = y) := by
  rw [List.getElem?_append] at h
  split at h
  · exact .inl h
  · rename_i hi
    cases hk : i - l.length with
    | zero => rw [hk] at h; simp at h; exact .inr ⟨by omega, h.symm⟩
    | succ k => rw [hk] at h; simp at h
theorem snoc_get_lt {β : Type} {l : List β} {y z : β} {i : Nat} (h : (l ++ [y])[i]? = some z) (hi : i < l.length) : l[i]? = some z := by
  rcases snoc_get h with h | ⟨h, _⟩
  · exact h
  · omega

theorem rows_inv (xs : List α) : RowsOk c room (rowsSt c room xs).1 ∧ (rowsSt c room xs).2.2 = ((rowsSt c room xs).2.1.map c).sum ∧
    ((rowsSt c room xs).2.1.length = 0 → (rowsSt c room xs).1 = []) ∧ (1 < (rowsSt c room xs).2.1.length → (rowsSt c room xs).2.2 ≤ room) ∧
    (∀ {i : Nat} {p : List α}, (rowsSt c room xs).1[i]? = some p → i + 1 = (rowsSt c room xs).1.length → room < ((p ++ (rowsSt c room xs).2.1.take 1).map c).sum) ∧
    (rowsSt c room xs).1.flatten ++ (rowsSt c room xs).2.1 = xs := by
  refine snoc_ind (M := fun xs => RowsOk c room (rowsSt c room xs).1 ∧ (rowsSt c room xs).2.2 = ((rowsSt c room xs).2.1.map c).sum ∧
    ((rowsSt c room xs).2.1.length = 0 → (rowsSt c room xs).1 = []) ∧ (1 < (rowsSt c room xs).2.1.length → (rowsSt c room xs).2.2 ≤ room) ∧
    (∀ {i : Nat} {p : List α}, (rowsSt c room xs).1[i]? = some p → i + 1 = (rowsSt c room xs).1.length → room < ((p ++ (rowsSt c room xs).2.1.take 1).map c).sum) ∧
    (rowsSt c room xs).1.flatten ++ (rowsSt c room xs).2.1 = xs) ?_ (fun xs x ih => ?_) xs
  · refine ⟨⟨fun h => ?_, fun h => ?_, fun h => ?_⟩, rfl, fun _ => rfl, fun h => ?_, fun h => ?_, rfl⟩ <;> simp [rowsSt] at h
  · rw [rowsSt_snoc]
    generalize rowsSt c room xs = s at ih
    obtain ⟨dn, pg, u⟩ := s
    dsimp only at ih ⊢
    obtain ⟨⟨i1, i2, i3⟩, iu, ie, il, ix, ic⟩ := ih
    unfold rowsStep
    dsimp only
    by_cases h : room < u + c x ∧ pg.length ≠ 0
    · rw [if_pos h]
      dsimp only
      refine ⟨⟨fun {i p} hp => ?_, fun {i p} hp hl => ?_, fun {i p q} hp hq => ?_⟩, by simp, fun h => by simp at h, fun h => by simp at h, fun {i p} hp hi => ?_, ?_⟩
      · rcases snoc_get hp with hp | ⟨_, rfl⟩
        · exact i1 hp
        · exact h.2
      · rcases snoc_get hp with hp | ⟨_, rfl⟩
        · exact i2 hp hl
        · rw [← iu]; exact il hl
      · rcases snoc_get hq with hq | ⟨e, rfl⟩
        · exact i3 (snoc_get_lt hp (by have := (List.getElem?_eq_some_iff.mp hq).1; omega)) hq
        · exact ix (snoc_get_lt hp (by omega)) e
      · rcases snoc_get hp with hp | ⟨e, rfl⟩
        · have := (List.getElem?_eq_some_iff.mp hp).1; simp at hi; omega
        · simp only [List.map_append, List.sum_append, ← iu]
          simpa using h.1
      · rw [← ic]; simp
    · rw [if_neg h]
      dsimp only
      refine ⟨⟨i1, i2, i3⟩, by simp [iu], fun h => by simp at h, fun hl => ?_, fun {i p} hp hi => ?_, by rw [← ic]; simp⟩
      · simp only [List.length_append, List.length_cons, List.length_nil] at hl
        rcases Classical.not_and_iff_not_or_not.mp h with h | h <;> omega
      · have hg : pg.length ≠ 0 := fun e => by rw [ie e] at hp; simp at hp
        have t : (pg ++ [x]).take 1 = pg.take 1 := by
          cases pg with
          | nil => exact absurd rfl hg
          | cons a b => rfl
        rw [t]
        exact ix hp hi
theorem rows_ok (xs : List α) (hx : xs.length ≠ 0) : RowsOk c room (rows c room xs) ∧ (rows c room xs).flatten = xs := by
  have I := rows_inv (c := c) (room := room) xs
  unfold rows
  generalize rowsSt c room xs = s at I
  obtain ⟨dn, pg, u⟩ := s
  dsimp only at I ⊢
  obtain ⟨⟨i1, i2, i3⟩, iu, ie, il, ix, ic⟩ := I
  refine ⟨⟨fun {i p} hp => ?_, fun {i p} hp hl => ?_, fun {i p q} hp hq => ?_⟩, by rw [← ic]; simp⟩
  · rcases snoc_get hp with hp | ⟨_, rfl⟩
    · exact i1 hp
    · intro e; rw [ie e, List.length_eq_zero_iff.mp e] at ic; rw [← ic] at hx; exact hx rfl
  · rcases snoc_get hp with hp | ⟨_, rfl⟩
    · exact i2 hp hl
    · rw [← iu]; exact il hl
  · rcases snoc_get hq with hq | ⟨e, rfl⟩
    · exact i3 (snoc_get_lt hp (by have := (List.getElem?_eq_some_iff.mp hq).1; omega)) hq
    · exact ix (snoc_get_lt hp (by omega)) e
theorem rows_nil : rows c room [] = [[]] := rfl

/-- pages with one between each two -/
def mixd : List (List α) → List α → List α
  | [], _ => []
  | p :: P, M => p ++ M.take 1 ++ mixd P M.tail
theorem mixd_append : ∀ (A : List (List α)) (M : List α) (B : List (List α)) (N : List α), A.length = M.length → mixd (A ++ B) (M ++ N) = mixd A M ++ mixd B N
  | [], [], B, N, _ => rfl
  | p :: A, m :: M, B, N, h => by
    simp only [List.cons_append, mixd, List.tail_cons, List.take_succ_cons, List.take_zero]
    rw [mixd_append A M B N (by simpa using h)]
    simp

structure BetwOk (c : α → Int) (room : Int) (P : List (List α)) (M : List α) : Prop where
  len : P.length = M.length + 1
  ne : ∀ {i : Nat} {p : List α}, P[i]? = some p → p.length ≠ 0
  fit : ∀ {i : Nat} {p : List α}, P[i]? = some p → (p.map c).sum ≤ room
  nxt : ∀ {i : Nat} {p q : List α} {m : α}, P[i]? = some p → M[i]? = some m → P[i + 1]? = some q → ((p ++ [m]).map c).sum ≤ room →
    i + 2 = P.length ∧ q.length = 1 ∧ room < ((p ++ [m] ++ q).map c).sum
structure BetwSo (c : α → Int) (room : Int) (xs : List α) (dn : List (List α)) (pg : List α) (u : Int) (md : List α) : Prop where
  len : dn.length = md.length
  ne : ∀ {i : Nat} {p : List α}, dn[i]? = some p → p.length ≠ 0
  fit : ∀ {i : Nat} {p : List α}, dn[i]? = some p → (p.map c).sum ≤ room
  full : ∀ {i : Nat} {p : List α} {m : α}, dn[i]? = some p → md[i]? = some m → room < ((p ++ [m]).map c).sum
  used : u = (pg.map c).sum
  le : u ≤ room
  all : mixd dn md ++ pg = xs
theorem betw_so (hr : 0 ≤ room) (xs : List α) (hh : ∀ x ∈ xs, c x ≤ room) :
    BetwSo c room xs (betwSt c room xs).1 (betwSt c room xs).2.1 (betwSt c room xs).2.2.1 (betwSt c room xs).2.2.2 := by
  refine snoc_ind (M := fun xs => (∀ x ∈ xs, c x ≤ room) → BetwSo c room xs (betwSt c room xs).1 (betwSt c room xs).2.1 (betwSt c room xs).2.2.1 (betwSt c room xs).2.2.2)
    ?_ (fun xs x ih => ?_) xs hh
  · exact fun _ => ⟨rfl, fun h => by simp [betwSt] at h, fun h => by simp [betwSt] at h, fun h => by simp [betwSt] at h, rfl, hr, rfl⟩
  · intro hh
    have ih := ih fun y hy => hh y (by simp [hy])
    have hx := hh x (by simp)
    rw [betwSt_snoc]
    generalize betwSt c room xs = s at ih
    obtain ⟨dn, pg, u, md⟩ := s
    dsimp only at ih ⊢
    unfold betwStep
    dsimp only
    by_cases h : room < u + c x ∧ pg.length ≠ 0
    · rw [if_pos h]
      dsimp only
      refine ⟨by simp [ih.len], fun {i p} hp => ?_, fun {i p} hp => ?_, fun {i p m} hp hm => ?_, rfl, hr, ?_⟩
      · rcases snoc_get hp with hp | ⟨_, rfl⟩
        · exact ih.ne hp
        · exact h.2
      · rcases snoc_get hp with hp | ⟨_, rfl⟩
        · exact ih.fit hp
        · rw [← ih.used]; exact ih.le
      · rcases snoc_get hp with hp | ⟨e, rfl⟩
        · exact ih.full hp (snoc_get_lt hm (by have := (List.getElem?_eq_some_iff.mp hp).1; have := ih.len; omega))
        · rcases snoc_get hm with hm | ⟨_, rfl⟩
          · have := (List.getElem?_eq_some_iff.mp hm).1; have := ih.len; omega
          · simp only [List.map_append, List.sum_append, ← ih.used]; simpa using h.1
      · rw [mixd_append _ _ _ _ ih.len, ← ih.all]; simp [mixd]
    · rw [if_neg h]
      dsimp only
      refine ⟨ih.len, ih.ne, ih.fit, ih.full, by simp [ih.used], ?_, by rw [← ih.all]; simp⟩
      rcases Classical.not_and_iff_not_or_not.mp h with h | h
      · omega
      · have : pg = [] := by simpa using h
        have e := ih.used
        rw [this] at e
        simp at e
        omega
theorem betw_ok (hr : 0 ≤ room) (xs : List α) (hx : xs.length ≠ 0) (hh : ∀ x ∈ xs, 2 * c x ≤ room) (h0 : ∀ x, 0 ≤ c x) :
    BetwOk c room (betw c room xs).1 (betw c room xs).2 ∧ mixd (betw c room xs).1 (betw c room xs).2 = xs := by
  have I := betw_so (c := c) hr xs (fun x hx => by have := hh x hx; have := h0 x; omega)
  unfold betw
  generalize betwSt c room xs = s at I
  obtain ⟨dn, pg, u, md⟩ := s
  by_cases hf : dn.length ≠ 0 ∧ pg.length = 0
  · obtain ⟨d0, p, rfl⟩ := snoc_of hf.1
    have hp : (d0 ++ [p])[d0.length]? = some p := by simp
    obtain ⟨p0, y, rfl⟩ := snoc_of (I.ne hp)
    have hl := I.len
    obtain ⟨m0, x, rfl⟩ := snoc_of (show md.length ≠ 0 by rw [← hl]; simp)
    have hm : d0.length = m0.length := by simpa using hl
    obtain rfl : pg = [] := by simpa using hf.2
    rw [betwFix_last]
    have hall := I.all
    rw [mixd_append _ _ _ _ hm] at hall
    have hfull : room < ((p0 ++ [y] ++ [x]).map c).sum := I.full hp (by rw [hm]; simp)
    have hfit := I.fit hp
    have hy : y ∈ xs := by rw [← hall]; simp [mixd]
    have hxx : x ∈ xs := by rw [← hall]; simp [mixd]
    dsimp only
    refine ⟨⟨by simp [hm], fun {i q} hq => ?_, fun {i q} hq => ?_, fun {i q q' m} hq hmm hq' hle => ?_⟩, ?_⟩
    · rcases snoc_get hq with hq | ⟨_, rfl⟩
      · rcases snoc_get hq with hq | ⟨_, rfl⟩
        · exact I.ne (i := i) (by rw [List.getElem?_append_left (List.getElem?_eq_some_iff.mp hq).1]; exact hq)
        · intro e
          have := List.length_eq_zero_iff.mp e
          subst this
          simp at hfull
          have := hh y hy
          have := hh x hxx
          omega
      · simp
    · rcases snoc_get hq with hq | ⟨_, rfl⟩
      · rcases snoc_get hq with hq | ⟨_, rfl⟩
        · exact I.fit (i := i) (by rw [List.getElem?_append_left (List.getElem?_eq_some_iff.mp hq).1]; exact hq)
        · simp only [List.map_append, List.sum_append] at hfit
          have := h0 y
          simp at hfit
          omega
      · have := hh x hxx; have := h0 x; simp; omega
    · rcases snoc_get hmm with hmm | ⟨e, rfl⟩
      · have hi := (List.getElem?_eq_some_iff.mp hmm).1
        have h1 := snoc_get_lt hq (by simp; omega)
        have h2 := snoc_get_lt h1 (by omega)
        have := I.full (i := i) (p := q) (m := m) (by rw [List.getElem?_append_left (by omega)]; exact h2) (by rw [List.getElem?_append_left hi]; exact hmm)
        omega
      · subst e
        have h1 := snoc_get_lt hq (by simp; omega)
        rcases snoc_get h1 with h1 | ⟨_, rfl⟩
        · have := (List.getElem?_eq_some_iff.mp h1).1; omega
        · rcases snoc_get hq' with hq' | ⟨_, rfl⟩
          · have := (List.getElem?_eq_some_iff.mp hq').1; simp at this; omega
          · refine ⟨by simp [hm], rfl, ?_⟩
            exact hfull
    · rw [List.append_assoc, mixd_append _ _ _ _ hm, ← hall]
      simp [mixd]
  · unfold betwFix
    rw [if_neg hf]
    dsimp only
    have hpg : pg.length ≠ 0 := fun e => by
      have hd : dn = [] := by
        cases dn with
        | nil => rfl
        | cons a b => exact absurd ⟨by simp, e⟩ hf
      subst hd
      have : md = [] := List.length_eq_zero_iff.mp I.len.symm
      have := I.all
      rw [List.length_eq_zero_iff.mp e] at this
      rw [← this] at hx
      exact hx rfl
    refine ⟨⟨by simp [I.len], fun {i q} hq => ?_, fun {i q} hq => ?_, fun {i q q' m} hq hmm hq' hle => ?_⟩, ?_⟩
    · rcases snoc_get hq with hq | ⟨_, rfl⟩
      · exact I.ne hq
      · exact hpg
    · rcases snoc_get hq with hq | ⟨_, rfl⟩
      · exact I.fit hq
      · rw [← I.used]; exact I.le
    · have hi := (List.getElem?_eq_some_iff.mp hmm).1
      have := I.full (snoc_get_lt hq (by rw [I.len]; exact hi)) hmm
      omega
    · have := mixd_append dn md [pg] [] I.len
      rw [List.append_nil] at this
      rw [this, ← I.all]
      simp [mixd]
theorem betw_nil : betw c room [] = ([[]], []) := rfl
end

end Mine
section
open PySem PySem.Calls PyProof.Rows
set_option maxHeartbeats 4000000
namespace Mine

abbrev Prg : Program := PySem.Challenge.pw_xm0742_01
abbrev Md (w : World) : Model := model Prg w

/-- the i-th statement of the text -/
def stm (i : Nat) : Stmt := Prg.main.body.getD i (.Pass default)
def nm (i : Nat) : Str := match stm i with | .FunctionDef n .. => n | _ => default
def ar (i : Nat) : Arguments := match stm i with | .FunctionDef _ a .. => a | _ => default
def bd (i : Nat) : List Stmt := match stm i with | .FunctionDef _ _ b .. => b | _ => []
def sc (i : Nat) : Scope := match stm i with | .FunctionDef _ _ _ _ _ _ c _ _ _ => c | _ => default

abbrev fnd (i : Nat) (doc pm : Value) (an : Option Addr) (cd ct : Value) : FuncData :=
  PySem.W.fnOf (nm i) (nm i) (ar i) (bd i) (sc i) .none .none doc pm an cd ct
abbrev En (i : Nat) (L f : Addr) (cd : Value) : Env := envOf (nm i) (sc i) L f cd

/-- all that stands in h stands in h' -/
def Ext (h h' : Heap) : Prop := ∀ b o, h.get? b = some o → h'.get? b = some o
theorem Ext.refl (h : Heap) : Ext h h := fun _ _ e => e
theorem Ext.trans {h₁ h₂ h₃ : Heap} (a : Ext h₁ h₂) (b : Ext h₂ h₃) : Ext h₁ h₃ := fun x o e => b x o (a x o e)
theorem Ext.push (h : Heap) (o : Obj) : Ext h (h.push o) := fun _ _ e => Heap.get?_push_of_some _ e
theorem Ext.but {h h' : Heap} (a : Ext h h') {d : Addr} : Heap.ExtBut d h h' := fun b o _ e => a b o e
theorem Ext.gone {h h' : Heap} (a : Ext h h') {b : Addr} (e : h'.get? b = none) : h.get? b = none := by
  cases q : h.get? b with
  | none => rfl
  | some o => rw [a b o q] at e; cases e

theorem ne_of_none {h : Heap} {a b : Addr} {o : Obj} (e : h.get? a = some o) (n : h.get? b = none) : a ≠ b := fun q => by
  rw [q, n] at e; cases e

/-- a list, its items written -/
def LsAt (h : Heap) (a : Addr) (vs : List Value) : Prop := ∃ n, PySem.IsL h a vs.toArray n
theorem LsAt.ext {h h' : Heap} {a : Addr} {vs : List Value} (x : LsAt h a vs) (K : Ext h h') : LsAt h' a vs := let ⟨n, e⟩ := x; ⟨n, K _ _ e⟩
theorem LsAt.but {h h' : Heap} {a d : Addr} {vs : List Value} (x : LsAt h a vs) (K : Heap.ExtBut d h h') (ne : a ≠ d) : LsAt h' a vs := let ⟨n, e⟩ := x; ⟨n, K _ _ ne e⟩
theorem LsAt.isList {h : Heap} {a : Addr} {vs : List Value} (x : LsAt h a vs) : h.IsList a vs.toArray := let ⟨_, e⟩ := x; PySem.IsL.isList e
theorem LsAt.ne {h : Heap} {a b : Addr} {vs : List Value} (x : LsAt h a vs) (n : h.get? b = none) : a ≠ b := let ⟨_, e⟩ := x; ne_of_none e n
theorem LsAt.new (h : Heap) (vs : List Value) : LsAt (h.push { cls := .type "list", data := .seq vs.toArray }) h.objs.size vs := ⟨_, PySem.IsL.new h vs.toArray⟩
theorem LsAt.uniq {h : Heap} {a : Addr} {vs ws : List Value} (x : LsAt h a vs) (y : LsAt h a ws) : vs = ws := by
  obtain ⟨n, e⟩ := x; obtain ⟨k, e'⟩ := y
  unfold PySem.IsL at e e'
  rw [e] at e'
  injection e' with e'
  injection e' with _ _ e' _
  injection e' with e' _
  simpa using e'

/-- the frame at hand: its names; the base hb stands -/
structure Fm (hb : Heap) (L : Addr) (h : Heap) (m : Str → Option Value) : Prop where
  ns : h.Ns L m
  keep : Ext hb h
  new : hb.get? L = none
section
variable {hb h h' : Heap} {L a : Addr} {m m' : Str → Option Value}
theorem Fm.ext (F : Fm hb L h m) (K : Ext h h') : Fm hb L h' m := ⟨F.ns.keeps K, F.keep.trans K, F.new⟩
theorem Fm.but (F : Fm hb L h m) (K : Heap.ExtBut a h h') (ne : L ≠ a) (hn : hb.get? a = none) : Fm hb L h' m :=
  ⟨F.ns.extBut K ne, fun b o e => K b o (ne_of_none e hn) (F.keep b o e), F.new⟩
theorem Fm.set (F : Fm hb L h m) (hn : h'.Ns L m') (K : Heap.ExtBut L h h') : Fm hb L h' m' :=
  ⟨hn, fun b o e => K b o (ne_of_none e F.new) (F.keep b o e), F.new⟩
theorem Fm.neL {vs : List Value} (F : Fm hb L h m) (x : LsAt h a vs) : a ≠ L := fun q => by
  obtain ⟨n, e⟩ := x
  obtain ⟨oL, es, ep, hL, d, _⟩ := F.ns
  rw [q] at e
  unfold PySem.IsL at e
  rw [hL] at e
  cases e
  cases d
end

/-- a def of the text, made -/
structure FnAt (mg : Str → Option Value) (hb : Heap) (i : Nat) (f : Addr) : Prop where
  name : mg (nm i) = some (.ref f)
  made : ∃ o doc pm an cd ct, hb.get? f = some o ∧ o.data = .func (fnd i doc pm an cd ct) ∧ hb.CodeRec cd (nm i)

structure Glo (mg mb : Str → Option Value) (hb : Heap) : Prop where
  g : hb.Ns mainGlobals mg
  b : hb.Ns builtinsNs mb
  lim : hb.NoLimit
  bi : ∀ x : Str, x ≠ "__name__" → mb x = bootBuiltins x
  no : ∀ x ∈ (["len", "max", "min", "sum", "range", "int", "bytes"] : List Str), mg x = none
  pointer : ∃ t, mg "POINTER" = some (.int 2 t)
  least : ∃ t, mg "LEAST_CELL" = some (.int 4 t)
  fn : ∀ i ∈ [3, 5, 6, 8, 9, 10, 11, 12, 13, 14, 15, 16], ∃ f, FnAt mg hb i f

/-- room for n calls within each other -/
structure Rm (n : Nat) (A : Around) : Prop where
  hh : A.handled = none
  dp : A.depth + n < recursionLimit
  un : A.units + 4 * n + 80 < cLine
theorem Rm.deeper {n : Nat} {A : Around} (R : Rm (n + 1) A) (env : Env) : Rm n (A.deeper env) :=
  ⟨R.hh, (by have := R.dp; show A.depth + 1 + n < _; omega), (by have := R.un; show A.units + 3 + 4 * n + 80 < _; omega)⟩
theorem Rm.le {n k : Nat} {A : Around} (R : Rm n A) (h : k ≤ n) : Rm k A :=
  ⟨R.hh, (by have := R.dp; omega), (by have := R.un; omega)⟩
theorem Rm.units {n : Nat} {A : Around} (R : Rm n A) : A.units < cLine := by have := R.un; omega
theorem Rm.units1 {n : Nat} {A : Around} (R : Rm n A) : A.in1.units < cLine := by have := R.un; show A.units + 1 < _; omega
theorem Rm.units2 {n : Nat} {A : Around} (R : Rm n A) : A.in1.in1.units < cLine := by have := R.un; show A.units + 1 + 1 < _; omega
theorem Rm.depth {n : Nat} {A : Around} (R : Rm n A) : A.depth < recursionLimit := by have := R.dp; omega

section
variable {mg mb : Str → Option Value} {hb h : Heap} {w : World} {A : Around} {E : Value → Shared → Prop} {g : Array GenState} {d : Drawn} {tk : Nat} {os : OsState} {i : Nat} {f L a b : Addr} {m : Str → Option Value} {env : Env} {vs ws : List Value}

/-- a call of a def of the text, entered -/
theorem callFn {n : Nat} {args : List Value} {binds : List (Str × Value)} {Q : Value → Shared → Prop} (G : Glo mg mb hb) (H : FnAt mg hb i f) (K : Ext hb h) (R : Rm (n + 1) A)
    (hbind : ∀ doc pm an cd ct, bindArgs (fnd i doc pm an cd ct) ⟨args, []⟩ = pure binds)
    (hcell : ∀ x ∈ (sc i).names, x.2 ≠ .cell) (hloc : ∀ x ∈ binds, (sc i).names.lookup x.1 = some .local)
    (hco : (sc i).isCoroutine = false) (hgen : (sc i).isGenerator = false) (hk : (sc i).kind = .function)
    (k : ∀ L cd h₁ tk, Fm hb L h₁ (fun y => binds.reverse.lookup y) → Ext h h₁ → h.get? L = none → Rm n (A.deeper (En i L f cd)) →
      wpAny (Md w) (A.deeper (En i L f cd)) (execs (bd i) (En i L f cd)) (fun fl s' => Q (match fl with | .ret v => v | _ => .none) s') (fun _ _ => False) ⟨h₁, g, d, tk, os⟩) :
    wpAny (Md w) A (call (.ref f) args) Q E ⟨h, g, d, tk, os⟩ := by
  obtain ⟨o, doc, pm, an, cd, ct, ho, hd, hc⟩ := H.made
  refine wpAny_call ?_
  refine codeAny_call_def (fd := fnd i doc pm an cd ct) (body := bd i) (binds := binds) R.depth (K _ _ ho) hd (G.lim.keeps K) (hc.keeps K) rfl (BindsTo.of_eq (hbind _ _ _ _ _)) hcell hloc (fun h₁ hns hk₁ => ?_) hco hgen hk
  have hL : h.get? h.objs.size = none := Heap.get?_none_of_le (Nat.le_refl _)
  exact wpAny_mono (k h.objs.size cd h₁ _ ⟨hns, fun b o e => hk₁ b o (K b o e), K.gone hL⟩ hk₁ hL (R.deeper _)) (fun _ _ q => q) fun _ _ q => q.elim

-- names
theorem n_loc {x : Str} {pos : Pos} {v : Value} {nme : Str} {scp : Scope} {cd : Value} {Q : Value → Shared → Prop} (F : Fm hb L h m) (hv : m x = some v) (k : Q v ⟨h, g, d, tk, os⟩)
    (hk : scp.kind = .function := by rfl) (hl : (envOf nme scp L a cd).kindOf x = some .local := by rfl) (hd : (x == ("__debug__" : Str)) = false := by decide) :
    wpAny (Md w) A (eval (.Name x pos) (envOf nme scp L a cd)) Q E ⟨h, g, d, tk, os⟩ := wpAny_Name (wpAny_loadName_local hk hl F.ns hv k) hd
theorem n_glob {x : Str} {pos : Pos} {v : Value} {Q : Value → Shared → Prop} (K : Ext hb h) (G : Glo mg mb hb) (hv : mg x = some v) (k : Q v ⟨h, g, d, tk, os⟩)
    (hk : env.scope.kind = .function := by rfl) (hl : env.kindOf x = some .globalImplicit := by rfl) (hg : env.globals = mainGlobals := by rfl) (hd : (x == ("__debug__" : Str)) = false := by decide) :
    wpAny (Md w) A (eval (.Name x pos) env) Q E ⟨h, g, d, tk, os⟩ := Name_function_global hk hl (loadGlobal_global (hg ▸ G.g.keeps K) hv k) hd
theorem n_bi {x : Str} {pos : Pos} {v : Value} {Q : Value → Shared → Prop} (K : Ext hb h) (G : Glo mg mb hb) (hv : bootBuiltins x = some v) (hx : x ∈ (["len", "max", "min", "sum", "range", "int", "bytes"] : List Str)) (k : Q v ⟨h, g, d, tk, os⟩)
    (hk : env.scope.kind = .function := by rfl) (hl : env.kindOf x = some .globalImplicit := by rfl) (hg : env.globals = mainGlobals := by rfl) (hb' : env.builtins = builtinsNs := by rfl)
    (hn : x ≠ "__name__" := by decide) (hd : (x == ("__debug__" : Str)) = false := by decide) :
    wpAny (Md w) A (eval (.Name x pos) env) Q E ⟨h, g, d, tk, os⟩ :=
  Name_function_global hk hl (loadGlobal_builtin (hg ▸ G.g.keeps K) (G.no x hx) (hb' ▸ G.b.keeps K) ((G.bi x hn).trans hv) k) hd

theorem st {x : Str} {v : Value} {nme : Str} {scp : Scope} {cd : Value} {Q : Unit → Shared → Prop} (F : Fm hb L h m)
    (k : ∀ h' tk, Fm hb L h' (fun y => if y = x then some v else m y) → Heap.ExtBut L h h' → Q () ⟨h', g, d, tk, os⟩)
    (hk : scp.kind = .function := by rfl) (hl : (envOf nme scp L a cd).kindOf x = some .local := by rfl) :
    wpAny (Md w) A (storeName (envOf nme scp L a cd) x v) Q E ⟨h, g, d, tk, os⟩ :=
  wpAny_storeName_local hl F.ns (fun h' hn hs => k h' _ (F.set hn hs.extBut) hs.extBut)
    (by show (scp.kind == .class || (scp.kind == .module && L != mainGlobals)) = false; rw [hk]; rfl)

-- new lists
theorem n_list {Q : Value → Shared → Prop} (k : ∀ h' a, Ext h h' → h.get? a = none → LsAt h' a vs → Q (.ref a) ⟨h', g, d, tk, os⟩) (hsz : vs.length ≤ sizeLine := by size_fits) :
    wpAny (Md w) A (newList vs) Q E ⟨h, g, d, tk, os⟩ :=
  wpAny_newObj_type (k _ _ (Ext.push h _) (Heap.get?_none_of_le (Nat.le_refl _)) (LsAt.new h vs)) (by show vs.toArray.size ≤ sizeLine; rw [List.size_toArray]; exact hsz)

theorem noDict {s : Shared} (x : LsAt s.heap a vs) : s.heap.NoDictAt (.ref a) := let ⟨_, e⟩ := x; ⟨_, e, rfl⟩
theorem m_append {s : Shared} {pl : Sem Bool} {Q : Value × List Value → Shared → Prop} (x : LsAt s.heap a vs) (k : Q (.builtin "list.append", [.ref a]) s) :
    wpAny (Md w) A (getMethod (.ref a) "append" pl) Q E s := getMethod_list_of PySem.F.slot_list_append PySem.F.type_list_append x.isList (noDict x) k
theorem m_pop {s : Shared} {pl : Sem Bool} {Q : Value × List Value → Shared → Prop} (x : LsAt s.heap a vs) (k : Q (.builtin "list.pop", [.ref a]) s) :
    wpAny (Md w) A (getMethod (.ref a) "pop" pl) Q E s := getMethod_list_of PySem.F.slot_list_pop PySem.F.type_list_pop x.isList (noDict x) k

theorem LsAt.upd (x : LsAt h a vs) (fn : Array Value → Array Value) (hf : fn vs.toArray = ws.toArray) : LsAt (h.update a (Obj.mapSeq fn)) a ws := by
  obtain ⟨n, e⟩ := x
  have := PySem.IsL.update e fn
  rw [hf] at this
  exact ⟨_, this⟩

theorem c_append {pos : Pos} {e : Expr} {Q : Value → Shared → Prop}
    (k : wpAny (Md w) A (eval e env) (fun v s₁ => ∃ vs, LsAt s₁.heap a vs ∧ vs.length ≤ sizeLine ∧ ∀ h', LsAt h' a (vs ++ [v]) → Heap.ExtBut a s₁.heap h' → Q .none { s₁ with heap := h' }) E ⟨h, g, d, tk, os⟩)
    (hs : starEach [e] env = [(false, eval e env)] := by rfl) :
    wpAny (Md w) A (callWith pos (.builtin "list.append") [.ref a] (backTo pos (starEach [e] env)) []) Q E ⟨h, g, d, tk, os⟩ := by
  rw [hs]
  show wpAny (Md w) A (callWith pos (.builtin "list.append") [.ref a] [(false, eval e env)] []) Q E _
  refine PySem.P.append_list (wpAny_mono k (fun v s₁ h₁ => ?_) fun _ _ q => q)
  obtain ⟨vs, x, hz, hq⟩ := h₁
  obtain ⟨n, e'⟩ := id x
  exact ⟨vs.toArray, n, by simpa using hz, e', hq _ (x.upd _ (by simp)) (Heap.SameBut.update ..).extBut⟩
theorem c_pop {pos : Pos} {v : Value} {Q : Value → Shared → Prop} (x : LsAt h a (vs ++ [v])) (hz : vs.length < sizeLine)
    (k : ∀ h', LsAt h' a vs → Heap.ExtBut a h h' → Q v ⟨h', g, d, tk, os⟩) :
    wpAny (Md w) A (callWith pos (.builtin "list.pop") [.ref a] (backTo pos (starEach [] env)) []) Q E ⟨h, g, d, tk, os⟩ := by
  show wpAny (Md w) A (callWith pos (.builtin "list.pop") [.ref a] [] []) Q E _
  obtain ⟨n, e⟩ := id x
  have hk : (vs ++ [v]).toArray.size - 1 = vs.length := by simp
  refine PySem.P.pop_list (y := v) e (by rw [hk]; simp) ?_ (by simp; omega)
  refine k _ (x.upd _ ?_) (Heap.SameBut.update ..).extBut
  rw [hk]
  have := PySem.W.kl_erase vs [] v
  simpa using this

theorem LsAt.item (x : LsAt h a vs) {k : Int} {u : Tok} {v : Value} {value slice : Expr} {Q : Value → Shared → Prop} (h0 : 0 ≤ k) (hhi : k < 2 ^ 63) (hx : vs[k.toNat]? = some v) (q : Q v ⟨h, g, d, tk, os⟩)
    (hs : subscripted slice false (.ref a) (.int k u) = operate [.ref a, .int k u] (getItem (.ref a) (.int k u)) := by with_unfolding_all rfl) :
    wpAny (Md w) A (subscriptTail value slice (.ref a) (.int k u)) Q E ⟨h, g, d, tk, os⟩ :=
  tail_any x.isList.typeIs slot_list_getitem.lookup (wpAny_getItem_list x.isList h0 hhi (by simpa using hx) q) hs
theorem LsAt.itemNeg (x : LsAt h a vs) {k : Int} {u : Tok} {v : Value} {value slice : Expr} {Q : Value → Shared → Prop} (h0 : k < 0) (h1 : -(vs.length : Int) ≤ k) (hlo : -(2 ^ 63) ≤ k) (hx : vs[(k + vs.length).toNat]? = some v) (q : Q v ⟨h, g, d, tk, os⟩)
    (hs : subscripted slice false (.ref a) (.int k u) = operate [.ref a, .int k u] (getItem (.ref a) (.int k u)) := by with_unfolding_all rfl) :
    wpAny (Md w) A (subscriptTail value slice (.ref a) (.int k u)) Q E ⟨h, g, d, tk, os⟩ :=
  tail_any x.isList.typeIs slot_list_getitem.lookup (wpAny_getItem_list_neg x.isList h0 (by simpa using h1) hlo (by simpa using hx) q) hs
end

section
variable {mg mb : Str → Option Value} {hb h : Heap} {w : World} {A : Around} {E : Value → Shared → Prop} {g : Array GenState} {d : Drawn} {tk : Nat} {os : OsState} {i : Nat} {f L a b : Addr} {m : Str → Option Value} {env : Env} {vs ws : List Value}

theorem c_max {x y : Int} {t u : Tok} {Q : Value → Shared → Prop} (hh : A.handled = none) (k : ∀ h' tk t, Ext h h' → Q (.int (max x y) t) ⟨h', g, d, tk, os⟩) :
    wpAny (Md w) A (call (.builtin "max") [.int x t, .int y u]) Q E ⟨h, g, d, tk, os⟩ :=
  max_two_ints hh fun h' tk hk => by
    by_cases c : y > x
    · rw [if_pos c]; have := k h' tk u hk; rwa [Int.max_eq_right (by omega)] at this
    · rw [if_neg c]; have := k h' tk t hk; rwa [Int.max_eq_left (by omega)] at this
theorem c_min {x y : Int} {t u : Tok} {Q : Value → Shared → Prop} (hh : A.handled = none) (k : ∀ h' tk t, Ext h h' → Q (.int (min x y) t) ⟨h', g, d, tk, os⟩) :
    wpAny (Md w) A (call (.builtin "min") [.int x t, .int y u]) Q E ⟨h, g, d, tk, os⟩ :=
  min_two_ints hh fun h' tk hk => by
    by_cases c : y < x
    · rw [if_pos c]; have := k h' tk u hk; rwa [Int.min_eq_right (by omega)] at this
    · rw [if_neg c]; have := k h' tk t hk; rwa [Int.min_eq_left (by omega)] at this

theorem z_int {k : Int} {j : Nat} {pos : Pos} {Q : Value → Shared → Prop} (q : ∀ t tk, Q (.int k t) ⟨h, g, d, tk, os⟩) : wpAny (Md w) A (eval (.Constant (.int k) j pos) env) Q E ⟨h, g, d, tk, os⟩ := wpAny_Constant_int (q _ _)
theorem z_bytes {x : List UInt8} {j : Nat} {pos : Pos} {Q : Value → Shared → Prop} (q : ∀ t tk, Q (.bytes x.toArray t) ⟨h, g, d, tk, os⟩) : wpAny (Md w) A (eval (.Constant (.bytes x) j pos) env) Q E ⟨h, g, d, tk, os⟩ := PySem.W.Constant_bytes (q _ _)
theorem z_add {x y : Int} {t u : Tok} {Q : Value → Shared → Prop} (q : ∀ t tk, Q (.int (x + y) t) ⟨h, g, d, tk, os⟩) : wpAny (Md w) A (binaryOp .Add (.int x t) (.int y u)) Q E ⟨h, g, d, tk, os⟩ := PyProof.Rows.add_int (q _ _)
theorem z_sub {x y : Int} {t u : Tok} {Q : Value → Shared → Prop} (q : ∀ t tk, Q (.int (x - y) t) ⟨h, g, d, tk, os⟩) : wpAny (Md w) A (binaryOp .Sub (.int x t) (.int y u)) Q E ⟨h, g, d, tk, os⟩ := PyProof.Rows.sub_int (q _ _)
theorem z_neg {x : Int} {t : Tok} {Q : Value → Shared → Prop} (q : ∀ t tk, Q (.int (-x) t) ⟨h, g, d, tk, os⟩) : wpAny (Md w) A (unaryOp .USub (.int x t)) Q E ⟨h, g, d, tk, os⟩ := PyProof.Rows.neg_int (q _ _)
theorem z_lenb {b : Array UInt8} {t : Tok} {Q : Value → Shared → Prop} (hz : b.size ≤ 65536) (q : ∀ t tk, Q (.int b.size t) ⟨h, g, d, tk, os⟩) : wpAny (Md w) A (call (.builtin "len") [.bytes b t]) Q E ⟨h, g, d, tk, os⟩ := PySem.W.len_bytes (by omega) (q _ _)
theorem z_len (x : LsAt h a vs) {Q : Value → Shared → Prop} (hz : vs.length ≤ 65536) (q : ∀ t tk, Q (.int vs.length t) ⟨h, g, d, tk, os⟩) : wpAny (Md w) A (call (.builtin "len") [.ref a]) Q E ⟨h, g, d, tk, os⟩ :=
  call_len_list x.isList (by rw [List.size_toArray]; omega) (by rw [List.size_toArray]; exact q _ _)

/-- args of a plain call, one and two -/
theorem call1 {x : Str} {p pos : Pos} {e : Expr} {Q : Value → Shared → Prop} {s : Shared} {M : Model}
    (k : wpAny M A (eval (.Name x p) env) (fun f s₁ => wpAny M A (callWith pos f [] (backTo pos (starEach [e] env)) []) Q E s₁) E s) :
    wpAny M A (eval (.Call (.Name x p) [e] [] pos) env) Q E s := Call_Name rfl k

theorem bi_len : bootBuiltins "len" = some (.builtin "len") := by decide +kernel
theorem bi_max : bootBuiltins "max" = some (.builtin "max") := by decide +kernel
theorem bi_min : bootBuiltins "min" = some (.builtin "min") := by decide +kernel
theorem bi_sum : bootBuiltins "sum" = some (.builtin "sum") := by decide +kernel
theorem bi_range : bootBuiltins "range" = some (.type "range") := by decide +kernel
theorem bi_int : bootBuiltins "int" = some (.type "int") := by decide +kernel
theorem bi_bytes : bootBuiltins "bytes" = some (.type "bytes") := by decide +kernel
theorem in_len : ("len" : Str) ∈ (["len", "max", "min", "sum", "range", "int", "bytes"] : List Str) := by decide
theorem in_max : ("max" : Str) ∈ (["len", "max", "min", "sum", "range", "int", "bytes"] : List Str) := by decide
theorem in_min : ("min" : Str) ∈ (["len", "max", "min", "sum", "range", "int", "bytes"] : List Str) := by decide
theorem in_sum : ("sum" : Str) ∈ (["len", "max", "min", "sum", "range", "int", "bytes"] : List Str) := by decide
theorem in_range : ("range" : Str) ∈ (["len", "max", "min", "sum", "range", "int", "bytes"] : List Str) := by decide
theorem in_int : ("int" : Str) ∈ (["len", "max", "min", "sum", "range", "int", "bytes"] : List Str) := by decide
theorem in_bytes : ("bytes" : Str) ∈ (["len", "max", "min", "sum", "range", "int", "bytes"] : List Str) := by decide

theorem z_mod {x y : Int} {t u : Tok} {Q : Value → Shared → Prop} (hy : 0 < y) (q : ∀ t tk, Q (.int (x % y) t) ⟨h, g, d, tk, os⟩) : wpAny (Md w) A (binaryOp .Mod (.int x t) (.int y u)) Q E ⟨h, g, d, tk, os⟩ := by
  refine PyProof.Rows.mod_int' (by omega) ?_
  rw [Int.fmod_eq_emod_of_nonneg x (by omega)]
  exact q _ _
theorem z_div {x y : Int} {t u : Tok} {Q : Value → Shared → Prop} (hy : 0 < y) (hy' : y < 1073741824) (q : ∀ t tk, Q (.int (x / y) t) ⟨h, g, d, tk, os⟩) : wpAny (Md w) A (binaryOp .FloorDiv (.int x t) (.int y u)) Q E ⟨h, g, d, tk, os⟩ := by
  refine PyProof.Rows.floordiv_int (by omega) ?_ (.inl (PyProof.noPylong_small (by omega)))
  rw [Int.fdiv_eq_ediv_of_nonneg x (by omega)]
  exact q _ _
theorem z_mul {x y : Int} {t u : Tok} {Q : Value → Shared → Prop} (h1 : -(2 ^ 64) < y) (h2 : y < 2 ^ 64) (q : ∀ t tk, Q (.int (x * y) t) ⟨h, g, d, tk, os⟩) : wpAny (Md w) A (binaryOp .Mult (.int x t) (.int y u)) Q E ⟨h, g, d, tk, os⟩ :=
  PyProof.Rows.mul_int (q _ _) (IntMulOk.of_right (intBits_le_64 h1 h2))
theorem z_intint {x : Int} {t : Tok} {Q : Value → Shared → Prop} (q : Q (.int x t) ⟨h, g, d, tk, os⟩) : wpAny (Md w) A (call (.type "int") [.int x t]) Q E ⟨h, g, d, tk, os⟩ := PySem.call_int_int q
theorem z_intbool {c : Bool} {Q : Value → Shared → Prop} (q : ∀ t tk, Q (.int (if c then 1 else 0) t) ⟨h, g, d, tk, os⟩) : wpAny (Md w) A (call (.type "int") [.bool c]) Q E ⟨h, g, d, tk, os⟩ := PySem.call_int_bool (q _ _)
theorem s_set {k : Int} {t : Tok} {v : Value} {Q : Unit → Shared → Prop} (x : LsAt h a vs) (h0 : 0 ≤ k) (hn : k < vs.length) (hz : vs.length ≤ 65536) (q : ∀ h', LsAt h' a (vs.set k.toNat v) → Heap.ExtBut a h h' → Q () ⟨h', g, d, tk, os⟩) :
    wpAny (Md w) A (setItem (.ref a) (.int k t) v) Q E ⟨h, g, d, tk, os⟩ := by
  obtain ⟨n, e⟩ := id x
  refine PySem.W.ki_setAt (n := n) e h0 (by omega) (by simpa using hn) ?_
  refine q _ (x.upd _ ?_) (Heap.SameBut.update ..).extBut
  apply Array.toList_inj.mp
  simp


theorem c_range2 {lo hi : Int} {t u : Tok} {Q : Value → Shared → Prop} (q : ∀ h' r t u v tk, Ext h h' → IsRange h' r lo hi 1 t u v → Q (.ref r) ⟨h', g, d, tk, os⟩) :
    wpAny (Md w) A (call (.type "range") [.int lo t, .int hi u]) Q E ⟨h, g, d, tk, os⟩ := call_range_2 (q _ _ _ _ _ _ (Ext.push _ _) (IsRange.new ..))
theorem c_range1 {hi : Int} {t : Tok} {Q : Value → Shared → Prop} (q : ∀ h' r t u v tk, Ext h h' → IsRange h' r 0 hi 1 t u v → Q (.ref r) ⟨h', g, d, tk, os⟩) :
    wpAny (Md w) A (call (.type "range") [.int hi t]) Q E ⟨h, g, d, tk, os⟩ := call_range_1 (q _ _ _ _ _ _ (Ext.push _ _) (IsRange.new ..))
theorem c_unpack {t : Addr} {n : Nat} {Q : List Value → Shared → Prop} (hh : A.handled = none) (x : IsTup h t vs.toArray) (hn : n = vs.length) (q : ∀ h', Ext h h' → Q vs ⟨h', g, d, tk, os⟩) :
    wpAny (Md w) A (unpackItems (.ref t) n none) Q E ⟨h, g, d, tk, os⟩ := by
  subst hn
  have := unpackItems_tuple (prog := Prg) (w := w) (E := E) (Q := Q) (s := ⟨h, g, d, tk, os⟩) hh x (fun h' he => by
    have := q h' (fun b o e => he b o (ne_of_none e (Heap.get?_none_of_le (Nat.le_refl _))) e)
    simpa using this)
  simpa using this
theorem c_assignTup {elts : List Expr} {k : Nat} {pos : Pos} {t : Addr} {Q : Unit → Shared → Prop} (hh : A.handled = none) (x : IsTup h t vs.toArray)
    (q : ∀ h', Ext h h' → wpAny (Md w) A (assignInOrder ((assignEach elts env).map (·.2)) vs) Q E ⟨h', g, d, tk, os⟩)
    (hn : (assignEach elts env).length = vs.length := by rfl) (hstar : (assignEach elts env).findIdx? (·.1) = none := by rfl) :
    wpAny (Md w) A (assign (.Tuple elts k pos) env (.ref t)) Q E ⟨h, g, d, tk, os⟩ :=
  assign_Tuple_tuple hh x (by simpa using hn) hstar fun h' he => by
    have := q h' (fun b o e => he b o (ne_of_none e (Heap.get?_none_of_le (Nat.le_refl _))) e)
    simpa using this
theorem c_rep {v : Value} {k : Int} {u : Tok} {Q : Value → Shared → Prop} (x : LsAt h a [v]) (h0 : 0 ≤ k) (h1 : k < 65536) (q : ∀ h' b, Ext h h' → h.get? b = none → LsAt h' b (List.replicate k.toNat v) → Q (.ref b) ⟨h', g, d, tk, os⟩) :
    wpAny (Md w) A (binaryOp .Mult (.ref a) (.int k u)) Q E ⟨h, g, d, tk, os⟩ := by
  obtain ⟨n, e⟩ := x
  have hl : (⟨h, g, d, tk, os⟩ : Shared).heap.get? a = some { cls := .type "list", dict := none, data := .seq [v].toArray n, slots := #[] } := e
  refine wpAny_binaryOp_repeat_ref (T := "list") (U := "int") (by decide) ⟨_, hl, rfl⟩ (fun s' => typeIs_int s' k u) noFill_list_mul PySem.F.fills_int_mul PySem.F.slot_int_rmul repeat_list PySem.F.slot_int_index.lookup
    (call_meets PySem.F.slot_int_rmul (typeIs_int _ k u) PySem.F.entry_int_rmul (PySem.F.args_int_rmul_2 _ _) (int___rmul___int_list k u a [v].toArray n)
      ⟨hl, rfl, ⟨_, hl, rfl⟩, call_meets PySem.F.slot_list_mul ⟨_, hl, rfl⟩ PySem.F.entry_list_mul (PySem.F.args_list_mul_2 _ _)
        (AutoListH.list___mul___list_int_3 a [v].toArray n k u (by simp [Builtin.List.listFitsIndex]; omega) (by simp; omega) (by simp [Builtin.List.listTooLong, sizeLine]; omega))
        ⟨hl, ?_⟩⟩)
  have e2 : List.foldl (fun x1 x2 => x1 ++ x2) #[] (List.replicate (if [v].toArray.isEmpty = true then 0 else k.toNat) [v].toArray) = (List.replicate k.toNat v).toArray := by
    simp only [listMul_foldl]
    simp [lm_rep_flat_one]
  rw [e2]
  exact q _ _ (Ext.push h _) (Heap.get?_none_of_le (Nat.le_refl _)) (LsAt.new h _)
end


def IsIt (o : Obj) : Prop := (∃ vs, o.data = .fields vs) ∧ (o.cls = .type "list_iterator" ∨ o.cls = .type "range_iterator")
/-- the iterators stand, and what ks names -/
def Kp (ks : List Addr) (h h' : Heap) : Prop := ∀ b o, (IsIt o ∨ b ∈ ks) → h.get? b = some o → h'.get? b = some o
/-- all stands but iterators that hs did not hold -/
def Nt (hs h h' : Heap) : Prop := ∀ b o, (¬ IsIt o ∨ hs.get? b ≠ none) → h.get? b = some o → h'.get? b = some o

section
variable {ks : List Addr} {hb h h' h₁ h₂ h₃ : Heap} {L a b : Addr} {m : Str → Option Value} {vs : List Value} {o : Obj}
theorem Kp.refl : Kp ks h h := fun _ _ _ e => e
theorem Kp.trans (x : Kp ks h₁ h₂) (y : Kp ks h₂ h₃) : Kp ks h₁ h₃ := fun b o c e => y b o c (x b o c e)
theorem Kp.ext (K : Ext h h') : Kp ks h h' := fun b o _ e => K b o e
theorem Fm.neIt (F : Fm hb L h m) (i : IsIt o) (e : h.get? b = some o) : b ≠ L := fun q => by
  obtain ⟨oL, es, ep, hL, d, _⟩ := F.ns
  rw [q, hL] at e
  cases e
  obtain ⟨⟨vs, i⟩, _⟩ := i
  rw [d] at i
  cases i
theorem LsAt.neIt (x : LsAt h a vs) (i : IsIt o) (e : h.get? b = some o) : b ≠ a := fun q => by
  obtain ⟨n, x⟩ := x
  unfold PySem.IsL at x
  rw [q, x] at e
  cases e
  obtain ⟨⟨vs, i⟩, _⟩ := i
  cases i
theorem Kp.loc (F : Fm hb L h m) (K : Heap.ExtBut L h h') (hk : ∀ b ∈ ks, b ≠ L) : Kp ks h h' := fun b o c e => K b o (c.elim (fun i => F.neIt i e) (hk b)) e
theorem Kp.lst (x : LsAt h a vs) (K : Heap.ExtBut a h h') (hk : ∀ b ∈ ks, b ≠ a) : Kp ks h h' := fun b o c e => K b o (c.elim (fun i => x.neIt i e) (hk b)) e
theorem LsAt.nt {hs : Heap} (x : LsAt h a vs) (K : Nt hs h h') : LsAt h' a vs := let ⟨n, e⟩ := x; ⟨n, K _ _ (.inl fun i => (by obtain ⟨⟨_, i⟩, _⟩ := i; cases i)) e⟩
theorem Ext.nt {h₀ hs : Heap} (x : Ext h₀ h) (y : Ext h₀ hs) (K : Nt hs h h') : Ext h₀ h' := fun b o e => K b o (.inr (by rw [y b o e]; exact fun q => nomatch q)) (x b o e)
theorem Ext.loc {h₀ : Heap} (x : Ext h₀ h) (n : h₀.get? a = none) (K : Heap.ExtBut a h h') : Ext h₀ h' := fun b o e => K b o (ne_of_none e n) (x b o e)
theorem Kp.nt {hs h₀ : Heap} (x : Kp ks h₀ h₁) (y : Kp ks h₀ hs) (K : Nt hs h₁ h₂) : Kp ks h₀ h₂ := fun b o c e => K b o (.inr (by rw [y b o c e]; exact fun q => nomatch q)) (x b o c e)
theorem noKs : ∀ b ∈ ([] : List Addr), b ≠ a := fun _ h => nomatch h
theorem oneKs (n : b ≠ a) : ∀ c ∈ [b], c ≠ a := fun c h => by rcases List.mem_cons.mp h with rfl | h; exact n; cases h
end

section
variable {mg mb : Str → Option Value} {hb h : Heap} {w : World} {A : Around} {E : Value → Shared → Prop} {g : Array GenState} {d : Drawn} {tk : Nat} {os : OsState} {i : Nat} {f L a b l : Addr} {m : Str → Option Value} {env : Env} {vs ws : List Value}
variable {nme x : Str} {scp : Scope} {cd : Value} {px : Pos} {body : List Stmt} {Q : Flow → Shared → Prop}

/-- how a turn may end -/
def TurnEnd (hb : Heap) (L : Addr) (ks : List Addr) (J : Heap → (Str → Option Value) → Prop) (Q : Flow → Shared → Prop) (h₁ : Heap) (g : Array GenState) (d : Drawn) (os : OsState) (fl : Flow) (s' : Shared) : Prop :=
  match fl with
  | .ret v => Q (.ret v) s'
  | .brk => False
  | _ => ∃ h₂ m₂ tk₂, s' = ⟨h₂, g, d, tk₂, os⟩ ∧ Fm hb L h₂ m₂ ∧ J h₂ m₂ ∧ Kp ks h₁ h₂

theorem loopW {hs : Heap} {I : Addr} {ks fp : List Addr} {n : Nat} {P : Nat → Value → Prop} {St : Nat → Heap → Prop} (J : Nat → Heap → (Str → Option Value) → Prop)
    (W : Walks Prg w A I fp [I] n P St) (hfp : ∀ b ∈ fp, b = I ∨ b ∈ ks) (hit : ∀ i h, St i h → ∃ o, h.get? I = some o ∧ IsIt o) (hI : hb.get? I = none) (hIs : hs.get? I = none)
    (hst : St 0 h) (F : Fm hb L h m) (hkL : ∀ b ∈ ks, b ≠ L) (hx : (envOf nme scp L a cd).kindOf x = some .local) (hk : scp.kind = .function) (h0 : J 0 h m)
    (stab : ∀ i h₁ h' m, J i h₁ m → Nt hs h₁ h' → J i h' m) (stabL : ∀ i h h' m, J i h m → Fm hb L h m → Heap.ExtBut L h h' → J i h' m)
    (turn : ∀ i v h₁ m₁ tk, i < n → P i v → J i h₁ m₁ → Fm hb L h₁ (fun y => if y = x then some v else m₁ y) →
      wpAny (Md w) A (execs body (envOf nme scp L a cd)) (TurnEnd hb L ks (J (i + 1)) Q h₁ g d os) (fun _ _ => False) ⟨h₁, g, d, tk, os⟩)
    (done : ∀ h₁ m₁ tk, J n h₁ m₁ → Fm hb L h₁ m₁ → Q .next ⟨h₁, g, d, tk, os⟩) :
    codeAny (Md w) A (.forLoop (.Name x px) (.ref I) body [] (envOf nme scp L a cd)) (fun r s' => match r with | .ok f => Q f s' | .error e => cameBackBy (Md w) A (envOf nme scp L a cd) (fun _ _ => False) e s') ⟨h, g, d, tk, os⟩ := by
  have hE : PassesOwn (Md w) A (envOf nme scp L a cd) (fun _ _ => False) := PassesOwn.never
  refine codeAny_forLoop (fun k s' => ∃ h' m' tk' i, s' = (⟨h', g, d, tk', os⟩ : Shared) ∧ St i h' ∧ Fm hb L h' m' ∧ J i h' m' ∧ i ≤ n ∧ k = n + 1 - i) ?_ (n + 1)
    ⟨h, m, tk, 0, rfl, hst, F, h0, Nat.zero_le _, rfl⟩
  rintro k s' ⟨h', m', tk', i, rfl, hst', F', hJ, hi, rfl⟩
  obtain ⟨oI, heI, hitI⟩ := hit i h' hst'
  have hLI : L ≠ I := fun q => F'.neIt hitI heI q.symm
  have next : ∀ h₁ : Heap, (∀ b o, b ∉ [I] → h'.get? b = some o → h₁.get? b = some o) → Fm hb L h₁ m' ∧ J i h₁ m' := fun h₁ hk₁ => by
    have K : Heap.ExtBut I h' h₁ := fun b o ne e => hk₁ b o (by simpa using ne) e
    exact ⟨F'.but K hLI hI, stab i h' h₁ m' hJ fun b o ni e => K b o (fun q => ni.elim (fun ni => ni (by rw [q, heI] at e; cases e; exact hitI)) fun ni => ni (q ▸ hIs)) e⟩
  by_cases hlt : i < n
  · refine W.item i _ _ _ hlt hst' fun v h₁ tk₁ hP hst₁ hk₁ => ?_
    obtain ⟨F₁, hJ₁⟩ := next h₁ hk₁
    have hp : ((envOf nme scp L a cd).scope.kind == .class || ((envOf nme scp L a cd).scope.kind == .module && (envOf nme scp L a cd).locals != (envOf nme scp L a cd).globals)) = false := by
      show (scp.kind == .class || (scp.kind == .module && L != mainGlobals)) = false; rw [hk]; rfl
    refine wpAny_assign_Name (wpAny_storeName_local hx F₁.ns (fun h₂ hn₂ hs₂ => ?_) hp)
    have F₂ := F₁.set hn₂ hs₂.extBut
    have hJ₂ := stabL i _ _ _ hJ₁ F₁ hs₂.extBut
    have hst₂ : St (i + 1) h₂ := W.frame _ _ _ hst₁ fun b hb' o e => (hs₂.2 b fun q => by
      rcases hfp b hb' with r | r
      · exact hLI (q.symm.trans r)
      · exact hkL b r q).trans e
    obtain ⟨oI₂, heI₂, hitI₂⟩ := hit _ _ hst₂
    refine wpAny_mono (wpAny_passesOwn hE (turn i v h₂ m' _ hlt hP hJ₂ F₂)) (fun f s₃ h₃ => ?_) fun _ _ e => e
    cases f with
    | ret v => exact h₃
    | brk => exact h₃.elim
    | cont =>
      obtain ⟨h₃, m₃, tk₃, rfl, F₃, hJ₃, K₃⟩ := h₃
      refine ⟨n + 1 - (i + 1), by omega, h₃, m₃, tk₃, i + 1, rfl, ?_, F₃, hJ₃, hlt, rfl⟩
      refine W.frame _ _ _ hst₂ fun b hb' o e => K₃ b o ?_ e
      rcases hfp b hb' with r | r
      · subst r; rw [heI₂] at e; cases e; exact .inl hitI₂
      · exact .inr r
    | next =>
      obtain ⟨h₃, m₃, tk₃, rfl, F₃, hJ₃, K₃⟩ := h₃
      refine ⟨n + 1 - (i + 1), by omega, h₃, m₃, tk₃, i + 1, rfl, ?_, F₃, hJ₃, hlt, rfl⟩
      refine W.frame _ _ _ hst₂ fun b hb' o e => K₃ b o ?_ e
      rcases hfp b hb' with r | r
      · subst r; rw [heI₂] at e; cases e; exact .inl hitI₂
      · exact .inr r
  · have hin : i = n := by omega
    subst hin
    refine W.done _ _ _ hst' fun h₁ tk₁ hk₁ => wpAny_execs_nil ?_
    obtain ⟨F₁, hJ₁⟩ := next h₁ hk₁
    exact done h₁ m' tk₁ hJ₁ F₁

/-- «for x in l», l a list that the turns leave alone -/
theorem for_list {iter : Expr} {pos : Pos} (J : Nat → Heap → (Str → Option Value) → Prop) (hh : A.handled = none) (F : Fm hb L h m) (hl : LsAt h l vs) (h0 : J 0 h m)
    (hiter : ∀ Q' : Value → Shared → Prop, Q' (.ref l) ⟨h, g, d, tk, os⟩ → wpAny (Md w) A (eval iter (envOf nme scp L a cd)) Q' (fun _ _ => False) ⟨h, g, d, tk, os⟩)
    (stab : ∀ i h₁ h' m, J i h₁ m → Nt h h₁ h' → J i h' m) (stabL : ∀ i h h' m, J i h m → Fm hb L h m → Heap.ExtBut L h h' → J i h' m)
    (turn : ∀ i v h₁ m₁ tk, i < vs.length → vs[i]? = some v → J i h₁ m₁ → Fm hb L h₁ (fun y => if y = x then some v else m₁ y) →
      wpAny (Md w) A (execs body (envOf nme scp L a cd)) (TurnEnd hb L [l] (J (i + 1)) Q h₁ g d os) (fun _ _ => False) ⟨h₁, g, d, tk, os⟩)
    (done : ∀ h₁ m₁ tk, J vs.length h₁ m₁ → Fm hb L h₁ m₁ → Q .next ⟨h₁, g, d, tk, os⟩)
    (hx : (envOf nme scp L a cd).kindOf x = some .local := by rfl) (hk : scp.kind = .function := by rfl)
    (hs : ∀ v, foldedSetIterable iter (envOf nme scp L a cd) v = pure v := by intro _; rfl) :
    wpAny (Md w) A (exec (.For (.Name x px) iter body [] pos) (envOf nme scp L a cd)) Q (fun _ _ => False) ⟨h, g, d, tk, os⟩ := by
  refine wpAny_For (hiter _ ?_) hs
  refine wpAny_pyIter_list hl.isList ?_
  have hne : l ≠ h.objs.size := hl.ne (Heap.get?_none_of_le (Nat.le_refl _))
  have W : Walks Prg w A h.objs.size [h.objs.size, l] [h.objs.size] vs.length (fun i v => vs.toArray[i]? = some v) (fun i h' => h'.IsListIter h.objs.size l i ∧ h'.IsList l vs.toArray) := by
    have := Walks.list (prog := Prg) (w := w) hh h.objs.size l hne vs.toArray
    rwa [List.size_toArray] at this
  have K := Ext.push h { cls := .type "list_iterator", data := .fields #[.ref l, .int 0 0] }
  have F₁ := F.ext K
  refine loopW (hs := h) (I := h.objs.size) (ks := [l]) (n := vs.length) J W ?_ ?_ (F.keep.gone (Heap.get?_none_of_le (Nat.le_refl _))) (Heap.get?_none_of_le (Nat.le_refl _)) ⟨⟨_, Heap.get?_push_size _ rfl, rfl, rfl⟩, hl.isList.push _⟩ F₁ (oneKs (F.neL hl)) hx hk
    (stab 0 h _ m h0 fun b o _ e => K b o e) stab stabL (fun i v h₁ m₁ tk hi hv hJ F => turn i v h₁ m₁ tk hi (by simpa using hv) hJ F) done
  · intro b hb'
    simpa using hb'
  · rintro i h' ⟨⟨o, e, c, dd⟩, _⟩
    exact ⟨o, e, ⟨_, dd⟩, .inl c⟩

/-- «for x in range(..)», the range made -/
theorem for_range {r : Addr} {lo hi : Int} {t u v : Tok} (J : Nat → Heap → (Str → Option Value) → Prop) (hh : A.handled = none) (F : Fm hb L h m) (hr : IsRange h r lo hi 1 t u v)
    (h1 : -(2 ^ 62) ≤ lo) (h2 : lo < 2 ^ 62) (h3 : -(2 ^ 62) ≤ hi) (h4 : hi < 2 ^ 62) (h0 : J 0 h m)
    (stab : ∀ i h₁ h' m, J i h₁ m → Nt h h₁ h' → J i h' m) (stabL : ∀ i h h' m, J i h m → Fm hb L h m → Heap.ExtBut L h h' → J i h' m)
    (turn : ∀ i t h₁ m₁ tk, i < (hi - lo).toNat → J i h₁ m₁ → Fm hb L h₁ (fun y => if y = x then some (.int (lo + i) t) else m₁ y) →
      wpAny (Md w) A (execs body (envOf nme scp L a cd)) (TurnEnd hb L [] (J (i + 1)) Q h₁ g d os) (fun _ _ => False) ⟨h₁, g, d, tk, os⟩)
    (done : ∀ h₁ m₁ tk, J (hi - lo).toNat h₁ m₁ → Fm hb L h₁ m₁ → Q .next ⟨h₁, g, d, tk, os⟩)
    (hx : (envOf nme scp L a cd).kindOf x = some .local := by rfl) (hk : scp.kind = .function := by rfl) :
    wpAny (Md w) A (pyIter (.ref r)) (fun it s₂ => codeAny (Md w) A (.forLoop (.Name x px) it body [] (envOf nme scp L a cd))
      (fun r s' => match r with | .ok f => Q f s' | .error e => cameBackBy (Md w) A (envOf nme scp L a cd) (fun _ _ => False) e s') s₂) (fun _ _ => False) ⟨h, g, d, tk, os⟩ := by
  refine wpAny_pyIter_range hr (small_one h1 h2 h3 h4) ?_
  have W := Walks.range (prog := Prg) (w := w) hh h.objs.size lo 1 (hi - lo).toNat
  have K := Ext.push h { cls := .type "range_iterator", data := .fields #[rawInt lo, rawInt (Builtin.Range.rangeSize lo hi 1), rawInt 1] }
  have hsz : Builtin.Range.rangeSize lo hi 1 = ((hi - lo).toNat : Int) := by rw [rangeSize_one]; split <;> omega
  refine loopW (hs := h) (I := h.objs.size) (ks := []) (n := (hi - lo).toNat) J W ?_ ?_ (F.keep.gone (Heap.get?_none_of_le (Nat.le_refl _))) (Heap.get?_none_of_le (Nat.le_refl _)) ?_ (F.ext K) noKs hx hk
    (stab 0 h _ m h0 fun b o _ e => K b o e) stab stabL (fun i v h₁ m₁ tk hi' hv hJ F => ?_) done
  · intro b hb'
    simpa using hb'
  · rintro i h' e
    exact ⟨_, e, ⟨_, rfl⟩, .inr rfl⟩
  · show IsRangeIter _ _ _ _ _
    rw [hsz]
    simpa using Heap.get?_push_size _ rfl
  · obtain ⟨t, rfl⟩ := hv
    rw [Int.mul_one] at F
    exact turn i t h₁ m₁ tk hi' hJ F
end

local macro_rules | `(tactic| walk_at "lk") => `(tactic| first | with_reducible assumption | exact if_pos rfl | (refine (if_neg (by decide)).trans ?_; walk_at "lk") | rfl)
local macro_rules | `(tactic| walk_at "z") => `(tactic| first
  | ((with_reducible show wpAny _ _ (eval (Expr.Slice _ _ _ _) _) _ _ _); refine wpAny_Slice ?_)
  | ((with_reducible show wpAny _ _ (evalPart none _) _ _ _); refine evalPart_none_step ?_)
  | ((with_reducible show wpAny _ _ (evalPart (some _) _) _ _ _); refine evalPart_some_step ?_)
  | ((with_reducible show wpAny _ _ (eval (Expr.BoolOp BoolOp.And (_ :: _ :: _) _) _) _ _ _); refine BoolOp_and ?_)
  | ((with_reducible show wpAny _ _ (eval (Expr.BoolOp _ [_] _) _) _ _ _); refine BoolOp_one ?_)
  | ((with_reducible show wpAny _ _ (execs (_ :: _) _) _ _ _); refine wpAny_execs_cons ?_)
  | ((with_reducible show wpAny _ _ (execs [] _) _ _ _); refine wpAny_execs_nil ?_)
  | ((with_reducible show wpAny _ _ (exec (Stmt.Return (some _) _) _) _ _ _); refine wpAny_Return_some ?_)
  | ((with_reducible show wpAny _ _ (exec (Stmt.Assign [Expr.Name _ _] _ _) _) _ _ _); refine wpAny_Assign_Name ?_)
  | ((with_reducible show wpAny _ _ (exec (Stmt.Assign [Expr.Subscript _ _ _] _ _) _) _ _ _); refine wpAny_Assign_Subscript ?_)
  | ((with_reducible show wpAny _ _ (exec (Stmt.Assign [Expr.Tuple _ _ _] _ _) _) _ _ _); first | refine Assign_Tuple_swapped ?_ | refine Assign_Tuple ?_)
  | ((with_reducible show wpAny _ _ (assignInOrder _ _) _ _ _); first | refine assignInOrder_cons ?_ | refine assignInOrder_nil ?_)
  | ((with_reducible show wpAny _ _ (bindName _ _ _) _ _ _); refine bindName_ ?_)
  | ((with_reducible show wpAny _ _ (assign (Expr.Name _ _) _ _) _ _ _); refine PyProof.Rows.assign_Name ?_)
  | ((with_reducible show wpAny _ _ (exec (Stmt.If _ _ _ _) _) _ _ _); refine wpAny_If ?_)
  | ((with_reducible show wpAny _ _ (exec (Stmt.Expr _ _) _) _ _ _); refine wpAny_Expr_any ?_)
  | ((with_reducible show wpAny _ _ (eval (Expr.Name _ _) (envOf _ _ _ _ _)) _ _ _); refine n_loc (by assumption) (by walk_at "lk") ?_)
  | ((with_reducible show wpAny _ _ (eval (Expr.Name (Str.ofString "len") _) _) _ _ _); refine n_bi (Fm.keep (by assumption)) (by assumption) bi_len in_len ?_)
  | ((with_reducible show wpAny _ _ (eval (Expr.Name (Str.ofString "max") _) _) _ _ _); refine n_bi (Fm.keep (by assumption)) (by assumption) bi_max in_max ?_)
  | ((with_reducible show wpAny _ _ (eval (Expr.Name (Str.ofString "min") _) _) _ _ _); refine n_bi (Fm.keep (by assumption)) (by assumption) bi_min in_min ?_)
  | ((with_reducible show wpAny _ _ (eval (Expr.Name (Str.ofString "sum") _) _) _ _ _); refine n_bi (Fm.keep (by assumption)) (by assumption) bi_sum in_sum ?_)
  | ((with_reducible show wpAny _ _ (eval (Expr.Name (Str.ofString "range") _) _) _ _ _); refine n_bi (Fm.keep (by assumption)) (by assumption) bi_range in_range ?_)
  | ((with_reducible show wpAny _ _ (eval (Expr.Name (Str.ofString "int") _) _) _ _ _); refine n_bi (Fm.keep (by assumption)) (by assumption) bi_int in_int ?_)
  | ((with_reducible show wpAny _ _ (eval (Expr.Name (Str.ofString "bytes") _) _) _ _ _); refine n_bi (Fm.keep (by assumption)) (by assumption) bi_bytes in_bytes ?_)
  | ((with_reducible show wpAny _ _ (eval (Expr.Compare _ [_] [_] _) _) _ _ _); refine wpAny_Compare1 ?_)
  | ((with_reducible show wpAny _ _ (eval (Expr.BinOp _ _ _ _) _) _ _ _); refine wpAny_BinOp ?_)
  | ((with_reducible show wpAny _ _ (eval (Expr.UnaryOp _ _ _) _) _ _ _); refine UnaryOp_ ?_)
  | ((with_reducible show wpAny _ _ (eval (Expr.Constant (Const.int _) _ _) _) _ _ _); refine z_int ?_; intro _ _)
  | ((with_reducible show wpAny _ _ (eval (Expr.Constant (Const.bytes _) _ _) _) _ _ _); refine z_bytes ?_; intro _ _)
  | ((with_reducible show wpAny _ _ (eval (Expr.Constant (Const.bool _) _ _) _) _ _ _); refine Constant_bool ?_)
  | ((with_reducible show wpAny _ _ (eval (Expr.Call (Expr.Attribute _ _ _) _ [] _) _) _ _ _); refine MethodCall_ ?_)
  | ((with_reducible show wpAny _ _ (eval (Expr.Call (Expr.Name _ _) _ [] _) _) _ _ _); refine Call_ ?_)
  | ((with_reducible show wpAny _ _ (eval (Expr.Subscript _ _ _) _) _ _ _); refine Subscript_ ?_)
  | ((with_reducible show wpAny _ _ (eval (Expr.List _ _) _) _ _ _); refine List_ ?_)
  | ((with_reducible show wpAny _ _ (eval (Expr.Tuple _ _ _) _) _ _ _); refine Tuple_ ?_)
  | ((with_reducible show wpAny _ _ (isTrue (Expr.Compare _ [_] [_] _) _ _) _ _ _); refine wpAny_isTrue_Compare1 ?_)
  | ((with_reducible show wpAny _ _ (isTrue (Expr.BoolOp BoolOp.And (_ :: _) _) _ _) _ _ _); refine isTrue_and ?_)
  | ((with_reducible show wpAny _ _ (isTrue (Expr.BoolOp BoolOp.Or (_ :: _) _) _ _) _ _ _); refine isTrue_or ?_)
  | ((with_reducible show wpAny _ _ (isTrue (Expr.BoolOp BoolOp.And [] _) _ _) _ _ _); refine isTrue_and_nil ?_)
  | ((with_reducible show wpAny _ _ (isTrue (Expr.BoolOp BoolOp.Or [] _) _ _) _ _ _); refine isTrue_or_nil ?_)
  | ((with_reducible show wpAny _ _ (isTrue (Expr.UnaryOp UnaryOp.Not _ _) _ _) _ _ _); refine isTrue_not ?_)
  | ((with_reducible show wpAny _ _ (truthy (Value.bool _)) _ _ _); refine wpAny_truthy_bool ?_)
  | ((with_reducible show wpAny _ _ (callWith _ (Value.builtin _) [] _ _) _ _ _); refine PyProof.Rows.callWith_builtin1 ?_)
  | ((with_reducible show wpAny _ _ (callWith _ (Value.type _) [] _ _) _ _ _); refine PyProof.Rows.callWith_type1 ?_)
  | ((with_reducible show wpAny _ _ (spliced (backTo _ (starEach (_ :: _) _))) _ _ _); refine args_cons ?_)
  | ((with_reducible show wpAny _ _ (spliced (backTo _ (starEach [] _))) _ _ _); refine args_nil ?_)
  | ((with_reducible show wpAny _ _ (binaryOp Operator.Add (Value.int _ _) (Value.int _ _)) _ _ _); refine z_add ?_; intro _ _)
  | ((with_reducible show wpAny _ _ (binaryOp Operator.Sub (Value.int _ _) (Value.int _ _)) _ _ _); refine z_sub ?_; intro _ _)
  | ((with_reducible show wpAny _ _ (compareOp CmpOp.Gt (Value.int _ _) (Value.int _ _)) _ _ _); refine PyProof.Rows.gt_int ?_)
  | ((with_reducible show wpAny _ _ (compareOp CmpOp.Lt (Value.int _ _) (Value.int _ _)) _ _ _); refine PyProof.Rows.lt_int ?_)
  | ((with_reducible show wpAny _ _ (compareOp CmpOp.GtE (Value.int _ _) (Value.int _ _)) _ _ _); refine PyProof.Rows.ge_int ?_)
  | ((with_reducible show wpAny _ _ (compareOp CmpOp.LtE (Value.int _ _) (Value.int _ _)) _ _ _); refine PyProof.Rows.le_int ?_)
  | ((with_reducible show wpAny _ _ (compareOp CmpOp.Eq (Value.int _ _) (Value.int _ _)) _ _ _); refine PyProof.Rows.eq_int ?_)
  | ((with_reducible show wpAny _ _ (compareOp CmpOp.NotEq (Value.int _ _) (Value.int _ _)) _ _ _); refine PyProof.Rows.ne_int ?_)
  | ((with_reducible show wpAny _ _ (unaryOp UnaryOp.USub (Value.int _ _)) _ _ _); refine z_neg ?_; intro _ _)
  | ((with_reducible show wpAny _ _ (call (Value.type "int") [Value.int _ _]) _ _ _); refine z_intint ?_)
  | ((with_reducible show wpAny _ _ (call (Value.type "int") [Value.bool _]) _ _ _); refine z_intbool ?_; intro _ _)
  | ((with_reducible show wpAny _ _ (call (Value.builtin "max") [Value.int _ _, Value.int _ _]) _ _ _); refine c_max (Rm.hh (by assumption)) ?_; intro _ _ _ _)
  | ((with_reducible show wpAny _ _ (call (Value.builtin "min") [Value.int _ _, Value.int _ _]) _ _ _); refine c_min (Rm.hh (by assumption)) ?_; intro _ _ _ _))

open PySem.SeqAt in
section
variable {mg mb : Str → Option Value} {hb h h' h₀ hs : Heap} {w : World} {A : Around} {E : Value → Shared → Prop} {g : Array GenState} {d : Drawn} {tk : Nat} {os : OsState} {i n : Nat} {f L a b e : Addr} {m : Str → Option Value} {env : Env} {vs ws : List Value}

/-- a cell: octets, not too many -/
def Cell (v : Value) : Prop := ∃ b t, v = .bytes b t ∧ b.size ≤ 65536
def cst : Value → Int
  | .bytes b _ => 2 + max 4 (b.size : Int)
  | _ => 0

/-- lists of lists -/
inductive Lists (h : Heap) : List Addr → List (List Value) → Prop
  | nil : Lists h [] []
  | cons {a : Addr} {vs : List Value} {as : List Addr} {ps : List (List Value)} : LsAt h a vs → Lists h as ps → Lists h (a :: as) (vs :: ps)
theorem Lists.ext {as : List Addr} {ps : List (List Value)} (x : Lists h as ps) (K : Ext h h') : Lists h' as ps := by
  induction x with
  | nil => exact .nil
  | cons y _ ih => exact .cons (y.ext K) ih
theorem Lists.nt {as : List Addr} {ps : List (List Value)} (x : Lists h as ps) (K : Nt hs h h') : Lists h' as ps := by
  induction x with
  | nil => exact .nil
  | cons y _ ih => exact .cons (y.nt K) ih
theorem Lists.but {as : List Addr} {ps : List (List Value)} (x : Lists h as ps) (K : Heap.ExtBut a h h') (n : a ∉ as) : Lists h' as ps := by
  induction x with
  | nil => exact .nil
  | cons y _ ih => exact .cons (y.but K fun q => n (by rw [q]; exact .head _)) (ih fun q => n (.tail _ q))
theorem Lists.notIn {as : List Addr} {ps : List (List Value)} (x : Lists h as ps) (hn : h.get? a = none) : a ∉ as := by
  induction x with
  | nil => intro q; cases q
  | cons y _ ih => intro q; rcases List.mem_cons.mp q with q | q; exact y.ne hn q.symm; exact ih q
theorem Lists.notL {as : List Addr} {ps : List (List Value)} (x : Lists h as ps) (F : Fm hb L h m) : L ∉ as := by
  induction x with
  | nil => intro q; cases q
  | cons y _ ih => intro q; rcases List.mem_cons.mp q with q | q; exact F.neL y q.symm; exact ih q
theorem Lists.snoc {as : List Addr} {ps : List (List Value)} (x : Lists h as ps) (y : LsAt h a vs) : Lists h (as ++ [a]) (ps ++ [vs]) := by
  induction x with
  | nil => exact .cons y .nil
  | cons z _ ih => exact .cons z ih
theorem Lists.snoc_inv {as : List Addr} {ps : List (List Value)} {p : List Value} (x : Lists h as (ps ++ [p])) : ∃ bs b, as = bs ++ [b] ∧ Lists h bs ps ∧ LsAt h b p := by
  induction ps generalizing as with
  | nil =>
    cases x with
    | cons y r => cases r; exact ⟨[], _, rfl, .nil, y⟩
  | cons q ps ih =>
    cases x with
    | cons y r =>
      obtain ⟨bs, b, rfl, z, k⟩ := ih r
      exact ⟨_ :: bs, b, rfl, .cons y z, k⟩
theorem Lists.length {as : List Addr} {ps : List (List Value)} (x : Lists h as ps) : as.length = ps.length := by
  induction x with
  | nil => rfl
  | cons _ _ ih => simp [ih]
theorem Lists.get {as : List Addr} {ps : List (List Value)} (x : Lists h as ps) {i : Nat} (hi : i < ps.length) : ∃ a, as[i]? = some a ∧ LsAt h a ps[i] := by
  induction x generalizing i with
  | nil => exact absurd hi (Nat.not_lt_zero _)
  | cons y _ ih =>
    cases i with
    | zero => exact ⟨_, rfl, y⟩
    | succ i => exact ih (by simpa using hi)

/-- a def of the text called by its name, one argument or more -/
theorem c_def {e : Expr} {rest : List Expr} {pos : Pos} {Q : Value → Shared → Prop} {s : Shared} (H : FnAt mg hb i f)
    (k : wpAny (Md w) A (spliced (backTo pos (starEach (e :: rest) env))) (fun vs s₁ => Ext hb s₁.heap ∧ wpAny (Md w) A (call (.ref f) vs) Q E s₁) E s)
    (he : starEach (e :: rest) env = (false, eval e env) :: starEach rest env := by rfl) :
    wpAny (Md w) A (callWith pos (.ref f) [] (backTo pos (starEach (e :: rest) env)) []) Q E s := by
  obtain ⟨o, doc, pm, an, cd, ct, ho, hd, hc⟩ := H.made
  exact PyProof.Rows.callWith_def hd (wpAny_mono k (fun vs s₁ z => ⟨z.1 _ _ ho, z.2⟩) fun _ _ q => q) he

theorem if_t {c : Bool} {p q : Prop} (e : c = true) (k : p) : if c = true then p else q := by rw [if_pos e]; exact k
theorem if_f {c : Bool} {p q : Prop} (e : c = false) (k : q) : if c = true then p else q := by rw [if_neg (by rw [e]; exact Bool.false_ne_true)]; exact k
theorem LsAt.last {v : Value} (x : LsAt h a (vs ++ [v])) {u : Tok} {value slice : Expr} {Q : Value → Shared → Prop} (hz : vs.length < 65536) (q : Q v ⟨h, g, d, tk, os⟩)
    (hs : subscripted slice false (.ref a) (.int (-1) u) = operate [.ref a, .int (-1) u] (getItem (.ref a) (.int (-1) u)) := by with_unfolding_all rfl) :
    wpAny (Md w) A (subscriptTail value slice (.ref a) (.int (-1) u)) Q E ⟨h, g, d, tk, os⟩ := by
  refine x.itemNeg (by decide) (by simp; omega) (by decide) ?_ q hs
  have : ((-1 : Int) + ((vs ++ [v]).length : Nat)).toNat = vs.length := by simp; omega
  rw [this]; simp

theorem LsAt.last2 {u v : Value} (x : LsAt h a (vs ++ [u, v])) {t : Tok} {value slice : Expr} {Q : Value → Shared → Prop} (hz : vs.length < 65536) (q : Q u ⟨h, g, d, tk, os⟩)
    (hs : subscripted slice false (.ref a) (.int (-2) t) = operate [.ref a, .int (-2) t] (getItem (.ref a) (.int (-2) t)) := by with_unfolding_all rfl) :
    wpAny (Md w) A (subscriptTail value slice (.ref a) (.int (-2) t)) Q E ⟨h, g, d, tk, os⟩ := by
  refine x.itemNeg (by decide) (by simp; omega) (by decide) ?_ q hs
  have : ((-2 : Int) + ((vs ++ [u, v]).length : Nat)).toNat = vs.length := by simp; omega
  rw [this]; simp
theorem n_tuple {Q : Value → Shared → Prop} (k : ∀ h' a, Ext h h' → h.get? a = none → IsTup h' a vs.toArray → Q (.ref a) ⟨h', g, d, tk, os⟩) (hsz : vs.length ≤ sizeLine := by size_fits) :
    wpAny (Md w) A (newTuple vs) Q E ⟨h, g, d, tk, os⟩ :=
  wpAny_newObj_type (k _ _ (Ext.push h _) (Heap.get?_none_of_le (Nat.le_refl _)) (IsTup.new h vs.toArray)) (by show vs.toArray.size ≤ sizeLine; rw [List.size_toArray]; exact hsz)

-- two lists compared
theorem eq_nil {Q : Value → Shared → Prop} (x : LsAt h a vs) (y : LsAt h e []) (hu : A.units < cLine) (k : Q (.bool (vs.length == 0)) ⟨h, g, d, tk, os⟩) :
    wpAny (Md w) A (compareOp .Eq (.ref a) (.ref e)) Q E ⟨h, g, d, tk, os⟩ := by
  cases vs with
  | nil => exact eq_listAt (e := fun _ => true) x.isList y.isList rfl hu (fun j h1 _ => by simp at h1) k
  | cons v r => exact eq_list_lengthsAt x.isList y.isList (by simp) hu k
theorem ne_nil {Q : Value → Shared → Prop} (x : LsAt h a vs) (y : LsAt h e []) (hu : A.units < cLine) (k : Q (.bool (vs.length != 0)) ⟨h, g, d, tk, os⟩) :
    wpAny (Md w) A (compareOp .NotEq (.ref a) (.ref e)) Q E ⟨h, g, d, tk, os⟩ := by
  cases vs with
  | nil =>
    have := RcNeAt.lists (A := A) (s := ⟨h, g, d, tk, os⟩) (e := fun _ => true) x.isList y.isList rfl hu (fun j h1 _ => by simp at h1)
    exact this _ _ _ _ k
  | cons v r => exact RcNeAt.lists_lengths x.isList y.isList (by simp) hu _ _ _ _ k
theorem all_true : ∀ n : Nat, (List.range n).all (fun _ => true) = true := fun n => by simp
theorem eq_same {Q : Value → Shared → Prop} (x : LsAt h a vs) (y : LsAt h e vs) (hu : A.units < cLine) (k : Q (.bool true) ⟨h, g, d, tk, os⟩) :
    wpAny (Md w) A (compareOp .Eq (.ref a) (.ref e)) Q E ⟨h, g, d, tk, os⟩ :=
  eq_listAt (e := fun _ => true) x.isList y.isList rfl hu (fun j h1 h2 => EqAt.same _) (by rw [all_true]; exact k)
theorem eqAt_same (x : LsAt h a vs) (y : LsAt h e vs) (hu : A.units < cLine) : EqAt A ⟨h, g, d, tk, os⟩ (.ref a) (.ref e) true := by
  by_cases q : a = e
  · subst q; exact EqAt.same _
  · have := RcAt.lists (A := A) (s := ⟨h, g, d, tk, os⟩) (e := fun _ => true) x.isList y.isList rfl hu (fun j h1 h2 => EqAt.same _)
    rw [all_true] at this
    exact EqAt.of_refs q this
theorem lists_at {as bs : List Addr} {ps : List (List Value)} (x : Lists h as ps) (y : Lists h bs ps) (hu : A.units < cLine) : ∀ j (h1 : j < (as.map Value.ref).toArray.size) (h2 : j < (bs.map Value.ref).toArray.size),
    EqAt A ⟨h, g, d, tk, os⟩ (as.map Value.ref).toArray[j] (bs.map Value.ref).toArray[j] true := by
  intro j h1 h2
  obtain ⟨a, ha, xa⟩ := x.get (i := j) (by simpa [x.length] using h1)
  obtain ⟨b, hb, yb⟩ := y.get (i := j) (by simpa [y.length] using h2)
  have e1 : (as.map Value.ref).toArray[j] = .ref a := by
    have := (List.getElem?_eq_some_iff.mp ha).2
    simp [this]
  have e2 : (bs.map Value.ref).toArray[j] = .ref b := by
    have := (List.getElem?_eq_some_iff.mp hb).2
    simp [this]
  rw [e1, e2]
  exact eqAt_same xa yb hu
/-- lists of lists of the same values -/
theorem eq_lists {as bs : List Addr} {ps : List (List Value)} {Q : Value → Shared → Prop} (x : LsAt h a (as.map .ref)) (y : LsAt h e (bs.map .ref)) (xs : Lists h as ps) (ys : Lists h bs ps) (hu : A.in1.units < cLine) (k : Q (.bool true) ⟨h, g, d, tk, os⟩) :
    wpAny (Md w) A (compareOp .Eq (.ref a) (.ref e)) Q E ⟨h, g, d, tk, os⟩ :=
  eq_listAt (e := fun _ => true) x.isList y.isList (by simp [xs.length, ys.length]) (Nat.lt_of_succ_lt hu) (lists_at xs ys hu) (by rw [all_true]; exact k)
theorem ne_lists {as bs : List Addr} {ps : List (List Value)} {Q : Value → Shared → Prop} (x : LsAt h a (as.map .ref)) (y : LsAt h e (bs.map .ref)) (xs : Lists h as ps) (ys : Lists h bs ps) (hu : A.in1.units < cLine) (k : Q (.bool false) ⟨h, g, d, tk, os⟩) :
    wpAny (Md w) A (compareOp .NotEq (.ref a) (.ref e)) Q E ⟨h, g, d, tk, os⟩ := by
  have := RcNeAt.lists (A := A) (s := ⟨h, g, d, tk, os⟩) (e := fun _ => true) x.isList y.isList (by simp [xs.length, ys.length]) (Nat.lt_of_succ_lt hu) (lists_at xs ys hu)
  rw [all_true] at this
  exact this _ _ _ _ k
end

section
variable {mg mb : Str → Option Value} {hb h h' h₀ hs : Heap} {w : World} {A : Around} {E : Value → Shared → Prop} {g : Array GenState} {d : Drawn} {tk : Nat} {os : OsState} {i n : Nat} {f L a b e l : Addr} {m : Str → Option Value} {env : Env} {vs ws : List Value}

theorem cost_spec {v : Value} {Q : Value → Shared → Prop} (G : Glo mg mb hb) (H : FnAt mg hb 3 f) (K : Ext hb h) (R : Rm 1 A) (hc : Cell v)
    (k : ∀ h' tk t, Ext h h' → Q (.int (cst v) t) ⟨h', g, d, tk, os⟩) :
    wpAny (Md w) A (call (.ref f) [v]) Q E ⟨h, g, d, tk, os⟩ := by
  obtain ⟨b, t, rfl, hz⟩ := hc
  refine callFn (binds := [("raw", .bytes b t)]) G H K R ?b ?c ?l ?o ?g ?k ?_
  case b => intro doc pm an cd ct; kernel_rfl!
  case c => decide
  case l => exact locs rfl
  case o => rfl
  case g => rfl
  case k => rfl
  intro L cd h₁ tk₁ F K₁ hL R'
  obtain ⟨tp, hp⟩ := G.pointer
  obtain ⟨tl, hl⟩ := G.least
  refine wpAny_execs_cons ?_
  repeat' walk_at "z"
  refine n_glob F.keep G hp ?_
  repeat' walk_at "z"
  refine n_glob F.keep G hl ?_
  repeat' walk_at "z"
  refine z_lenb hz ?_
  intro _ _
  repeat' walk_at "z"
  exact k _ _ _ (K₁.trans (by assumption))

def RInv (h₀ : Heap) (P : Addr) (room : Int) (n : Nat) (h : Heap) (m : Str → Option Value) (s : Pg Value) : Prop :=
  ∃ qs q tu tr, m "pages" = some (.ref P) ∧ m "room" = some (.int room tr) ∧ m "used" = some (.int s.2.2 tu) ∧ LsAt h P (qs.map .ref ++ [.ref q]) ∧ Lists h qs s.1 ∧ LsAt h q s.2.1 ∧
    P ≠ q ∧ P ∉ qs ∧ q ∉ qs ∧ h₀.get? q = none ∧ Ext h₀ h ∧ qs.length ≤ n ∧ s.2.1.length ≤ n

theorem RInv.nt {P : Addr} {room : Int} {s : Pg Value} (x : RInv h₀ P room n h m s) (y : Ext h₀ hs) (K : Nt hs h h') : RInv h₀ P room n h' m s := by
  obtain ⟨qs, q, tu, tr, a1, a2, a3, a4, a5, a6, a7, a8, a9, a10, a11, a12⟩ := x
  exact ⟨qs, q, tu, tr, a1, a2, a3, a4.nt K, a5.nt K, a6.nt K, a7, a8, a9, a10, a11.nt y K, a12⟩
theorem RInv.loc {P : Addr} {room : Int} {s : Pg Value} (x : RInv h₀ P room n h m s) (F : Fm hb L h m) (hL : h₀.get? L = none) (K : Heap.ExtBut L h h') : RInv h₀ P room n h' m s := by
  obtain ⟨qs, q, tu, tr, a1, a2, a3, a4, a5, a6, a7, a8, a9, a10, a11, a12⟩ := x
  exact ⟨qs, q, tu, tr, a1, a2, a3, a4.but K (F.neL a4), a5.but K (a5.notL F), a6.but K (F.neL a6), a7, a8, a9, a10, a11.loc hL K, a12⟩


def forBd : Stmt → List Stmt
  | .For _ _ b _ _ => b
  | _ => []


/-- behind the test of a turn -/
def RMid (hb h₀ : Heap) (L P l : Addr) (room : Int) (n : Nat) (h : Heap) (g : Array GenState) (d : Drawn) (os : OsState) (v : Value) (s : Pg Value) (fl : Flow) (s' : Shared) : Prop :=
  fl = .next ∧ ∃ h₂ m₂ tk₂ s₂, s' = (⟨h₂, g, d, tk₂, os⟩ : Shared) ∧ Fm hb L h₂ m₂ ∧ m₂ "raw" = some v ∧ RInv h₀ P room (n + 1) h₂ m₂ s₂ ∧ s₂.2.1.length ≤ n ∧ Kp [l] h h₂ ∧
    rowsStep cst room s v = (s₂.1, s₂.2.1 ++ [v], s₂.2.2 + cst v)

theorem rows_turn {v : Value} {P : Addr} {room : Int} {s : Pg Value} (G : Glo mg mb hb) (H3 : FnAt mg hb 3 f) (R : Rm 1 A) (hc : Cell v) (hn : n ≤ 4096) (hP : h₀.get? P = none) (hL : h₀.get? L = none)
    (hbP : hb.get? P = none) (x : RInv h₀ P room n h m s) (hlP : h₀.get? l ≠ none) (hb0 : Ext hb h₀) (F : Fm hb L h (fun y => if y = "raw" then some v else m y)) {Q : Flow → Shared → Prop} {cd : Value} :
    wpAny (Md w) A (execs (forBd ((bd 5).getD 2 (.Pass default))) (En 5 L a cd)) (TurnEnd hb L [l] (fun h m => RInv h₀ P room (n + 1) h m (rowsStep cst room s v)) Q h g d os) (fun _ _ => False) ⟨h, g, d, tk, os⟩ := by
  obtain ⟨qs, q, tu, tr, a1, a2, a3, a4, a5, a6, a7, a8, a9, a10, a11, a12, a13⟩ := x
  have nlP : l ≠ P := fun z => hlP (z ▸ hP)
  have nlL : l ≠ L := fun z => hlP (z ▸ hL)
  have hbq : hb.get? q = none := hb0.gone a10
  refine wpAny_execs_cons (wpAny_mono (Q := RMid hb h₀ L P l room n h g d os v s) ?_ (fun fl s' hm => ?_) fun _ _ z => z)
  · -- the test
    repeat' walk_at "z"
    refine n_glob F.keep G H3.name ?_
    refine c_def H3 ?_
    repeat' walk_at "z"
    refine ⟨F.keep, cost_spec G H3 F.keep R hc ?_⟩
    intro h₁ tk₁ t₁ K₁
    have F₁ := F.ext K₁
    repeat' walk_at "z"
    by_cases hg : room < s.2.2 + cst v
    · refine if_t (decide_eq_true hg) ?_
      repeat' walk_at "z"
      refine (a4.ext K₁).last (by simp; omega) ?_
      repeat' walk_at "z"
      refine n_list ?_
      intro h₂ e K₂ he le
      have F₂ := F₁.ext K₂
      have K' := K₁.trans K₂
      refine ne_nil (a6.ext K') le R.units ?_
      repeat' walk_at "z"
      by_cases hz : s.2.1.length = 0
      · refine if_f (by simp [hz]) (if_f rfl ?_)
        repeat' walk_at "z"
        refine ⟨rfl, h₂, _, _, s, rfl, F₂, if_pos rfl, ⟨qs, q, tu, tr, by walk_at "lk", by walk_at "lk", by walk_at "lk", a4.ext K', a5.ext K', a6.ext K', a7, a8, a9, a10, a11.trans K', by omega, by omega⟩, a13, Kp.ext K', ?_⟩
        unfold rowsStep
        rw [if_neg (by simp [hz])]
      · refine if_t (by simpa using hz) ?_
        repeat' walk_at "z"
        refine if_t rfl ?_
        repeat' walk_at "z"
        refine m_append (a4.ext K') ?_
        refine c_append ?_
        repeat' walk_at "z"
        refine n_list ?_
        intro h₃ r K₃ hr lr
        have F₃ := F₂.ext K₃
        have K'' := K'.trans K₃
        refine ⟨_, a4.ext K'', by simp [sizeLine_eq]; omega, ?_⟩
        intro h₄ x₄ K₄
        have hrP : r ≠ P := fun z => ((a4.ext K').ne hr) z.symm
        have hrq : r ≠ q := fun z => ((a6.ext K').ne hr) z.symm
        have hrqs : r ∉ qs := (a5.ext K').notIn hr
        have F₄ := F₃.but K₄ (fun z => (F₃.neL (a4.ext K'')) z.symm) hbP
        repeat' walk_at "z"
        refine st F₄ ?_
        intro h₅ tk₅ F₅ K₅
        repeat' walk_at "z"
        refine ⟨rfl, h₅, _, _, (s.1 ++ [s.2.1], [], 0), rfl, F₅, by walk_at "lk", ⟨qs ++ [q], r, _, tr, by walk_at "lk", by walk_at "lk", by walk_at "lk", ?_, ?_, ?_, hrP.symm, ?_, ?_, ?_, ?_, ?_, ?_⟩, ?_, ?_, ?_⟩
        · have := x₄.but K₅ (F₄.neL x₄)
          simpa using this
        · have y := ((a5.ext K'').snoc (a6.ext K'')).but K₄ (by simp [a7, a8])
          exact y.but K₅ (y.notL F₄)
        · have y := lr.but K₄ hrP
          exact y.but K₅ (F₄.neL y)
        · simp [a7, a8]
        · simp [hrq, hrqs]
        · exact (a11.trans K').gone hr
        · exact ((a11.trans K'').loc hP K₄).loc hL K₅
        · simp; omega
        · simp
        · simp
        · exact ((Kp.ext K'').trans (Kp.lst (a4.ext K'') K₄ (oneKs nlP))).trans (Kp.loc F₄ K₅ (oneKs nlL))
        · unfold rowsStep
          rw [if_pos ⟨hg, hz⟩]
          simp
    · refine if_f (decide_eq_false hg) (if_f rfl ?_)
      repeat' walk_at "z"
      refine ⟨rfl, h₁, _, _, s, rfl, F₁, if_pos rfl, ⟨qs, q, tu, tr, by walk_at "lk", by walk_at "lk", by walk_at "lk", a4.ext K₁, a5.ext K₁, a6.ext K₁, a7, a8, a9, a10, a11.trans K₁, by omega, by omega⟩, a13, Kp.ext K₁, ?_⟩
      unfold rowsStep
      rw [if_neg (by simp [hg])]
  · obtain ⟨rfl, h₂, m₂, tk₂, s₂, rfl, F₂, hv₂, ⟨qs, q, tu, tr, a1, a2, a3, a4, a5, a6, a7, a8, a9, a10, a11, a12, a13⟩, hl₂, K₂, e₂⟩ := hm
    repeat' walk_at "z"
    refine a4.last (by simp; omega) ?_
    refine m_append a6 ?_
    refine c_append ?_
    repeat' walk_at "z"
    refine ⟨_, a6, by simp [sizeLine_eq]; omega, ?_⟩
    intro h₃ x₃ K₃
    have hbq : hb.get? q = none := hb0.gone a10
    have F₃ := F₂.but K₃ (fun z => (F₂.neL a6) z.symm) hbq
    repeat' walk_at "z"
    refine n_glob F₃.keep G H3.name ?_
    refine c_def H3 ?_
    repeat' walk_at "z"
    refine ⟨F₃.keep, cost_spec G H3 F₃.keep R hc ?_⟩
    intro h₄ tk₄ t₄ K₄
    have F₄ := F₃.ext K₄
    repeat' walk_at "z"
    refine st F₄ ?_
    intro h₅ tk₅ F₅ K₅
    repeat' walk_at "z"
    have nlq : l ≠ q := fun z => hlP (z ▸ a10)
    have y₄ := (a4.but K₃ a7).ext K₄
    have z₄ := x₃.ext K₄
    have u₄ := (a5.but K₃ a9).ext K₄
    refine ⟨h₅, _, _, rfl, F₅, ⟨qs, q, _, tr, by walk_at "lk", by walk_at "lk", by rw [e₂]; walk_at "lk", y₄.but K₅ (F₄.neL y₄), ?_, ?_, a7, a8, a9, a10, ?_, a12, ?_⟩, ?_⟩
    · rw [e₂]; exact u₄.but K₅ (u₄.notL F₄)
    · rw [e₂]; exact z₄.but K₅ (F₄.neL z₄)
    · exact (((a11.loc a10 K₃)).trans K₄).loc hL K₅
    · rw [e₂]; simp; exact hl₂
    · exact ((K₂.trans (Kp.lst a6 K₃ (oneKs nlq))).trans (Kp.ext K₄)).trans (Kp.loc F₄ K₅ (oneKs nlL))

/-- packed_rows -/
theorem rows_spec {room : Int} {tr : Tok} {Q : Value → Shared → Prop} (G : Glo mg mb hb) (H : FnAt mg hb 5 f) (K : Ext hb h) (R : Rm 2 A) (lx : LsAt h l vs) (hc : ∀ v ∈ vs, Cell v) (hz : vs.length ≤ 4096)
    (k : ∀ h' tk P qs, Ext h h' → h.get? P = none → LsAt h' P (qs.map .ref) → Lists h' qs (rows cst room vs) → Q (.ref P) ⟨h', g, d, tk, os⟩) :
    wpAny (Md w) A (call (.ref f) [.ref l, .int room tr]) Q E ⟨h, g, d, tk, os⟩ := by
  refine callFn (binds := [("raws", .ref l), ("room", .int room tr)]) G H K R ?b ?c ?l ?o ?g ?k ?_
  case b => intro doc pm an cd ct; kernel_rfl!
  case c => decide
  case l => exact locs rfl
  case o => rfl
  case g => rfl
  case k => rfl
  intro L cd h₁ tk₁ F K₁ hL R'
  obtain ⟨f3, H3⟩ := G.fn 3 (by decide)
  refine wpAny_execs_cons ?_
  repeat' walk_at "z"
  refine n_list ?_
  intro h₂ q K₂ hq lq
  repeat' walk_at "z"
  refine n_list ?_
  intro h₃ P K₃ hP lP
  have F₃ := (F.ext K₂).ext K₃
  repeat' walk_at "z"
  refine st F₃ ?_
  intro h₄ tk₄ F₄ K₄
  repeat' walk_at "z"
  refine st F₄ ?_
  intro h₅ tk₅ F₅ K₅
  repeat' walk_at "z"
  have nlL : l ≠ L := lx.ne hL
  have lq₃ := lq.ext K₃
  have lx₅ := ((((lx.ext K₁).ext K₂).ext K₃).but K₄ nlL).but K₅ nlL
  have hl0 : h.get? l ≠ none := by obtain ⟨n, e⟩ := lx; rw [e]; exact fun q => nomatch q
  have hP0 : h.get? P = none := (K₁.trans K₂).gone hP
  have hq0 : h.get? q = none := K₁.gone hq
  have hPq : P ≠ q := fun z => (lq.ne hP) z.symm
  have E₅ : Ext h h₅ := ((K₁.trans (K₂.trans K₃)).loc hL K₄).loc hL K₅
  refine for_list (vs := vs) (l := l) (fun i h' m' => RInv h P room i h' m' (rowsSt cst room (vs.take i))) R'.hh F₅ lx₅ ?_ ?_ ?_ ?_ ?_ ?_
  · refine ⟨[], q, _, tr, by walk_at "lk", by walk_at "lk", by walk_at "lk", ?_, .nil, ?_, hPq, by simp, by simp, hq0, E₅, by simp, by simp [rowsSt]⟩
    · exact (lP.but K₄ (F₃.neL lP)).but K₅ (F₄.neL (lP.but K₄ (F₃.neL lP)))
    · exact (lq₃.but K₄ (F₃.neL lq₃)).but K₅ (F₄.neL (lq₃.but K₄ (F₃.neL lq₃)))
  · intro Q' hQ'
    repeat' walk_at "z"
    exact hQ'
  · intro i h' h'' m' x N
    exact x.nt E₅ N
  · intro i h' h'' m' x F N
    exact x.loc F hL N
  · intro i v h' m' tk' hi hv x F'
    rw [take_succ_of hv, rowsSt_snoc]
    exact rows_turn G H3 (R'.le (by omega)) (hc v (List.mem_of_getElem? hv)) (by omega) hP0 hL (K.gone hP0) x hl0 K F'
  · intro h' m' tk' x F'
    obtain ⟨qs, q, tu, tr, a1, a2, a3, a4, a5, a6, a7, a8, a9, a10, a11, a12, a13⟩ := x
    rw [List.take_length] at a5 a6
    repeat' walk_at "z"
    exact k _ _ _ (qs ++ [q]) a11 hP0 (by simpa using a4) (a5.snoc a6)
end

section
variable {mg mb : Str → Option Value} {hb h h' h₀ hs : Heap} {w : World} {A : Around} {E : Value → Shared → Prop} {g : Array GenState} {d : Drawn} {tk : Nat} {os : OsState} {i n : Nat} {f L a b e l : Addr} {m : Str → Option Value} {env : Env} {vs ws : List Value}

def BInv (h₀ : Heap) (P M : Addr) (room : Int) (n : Nat) (h : Heap) (m : Str → Option Value) (s : Bt Value) : Prop :=
  ∃ qs q tu tr, m "pages" = some (.ref P) ∧ m "room" = some (.int room tr) ∧ m "used" = some (.int s.2.2.1 tu) ∧ m "middles" = some (.ref M) ∧
    LsAt h P (qs.map .ref ++ [.ref q]) ∧ Lists h qs s.1 ∧ LsAt h q s.2.1 ∧ LsAt h M s.2.2.2 ∧
    (P ≠ q ∧ P ∉ qs ∧ q ∉ qs ∧ qs.Nodup ∧ M ≠ P ∧ M ≠ q ∧ M ∉ qs) ∧ (h₀.get? q = none ∧ ∀ a ∈ qs, h₀.get? a = none) ∧ Ext h₀ h ∧
    (qs.length ≤ n ∧ s.2.1.length ≤ n ∧ s.2.2.2.length ≤ n ∧ ∀ p ∈ s.1, p.length ≤ n)

theorem BInv.nt {P M : Addr} {room : Int} {s : Bt Value} (x : BInv h₀ P M room n h m s) (y : Ext h₀ hs) (K : Nt hs h h') : BInv h₀ P M room n h' m s := by
  obtain ⟨qs, q, tu, tr, a1, a2, a3, a4, a5, a6, a7, a8, a9, a10, a11, a12⟩ := x
  exact ⟨qs, q, tu, tr, a1, a2, a3, a4, a5.nt K, a6.nt K, a7.nt K, a8.nt K, a9, a10, a11.nt y K, a12⟩
theorem BInv.loc {P M : Addr} {room : Int} {s : Bt Value} (x : BInv h₀ P M room n h m s) (F : Fm hb L h m) (hL : h₀.get? L = none) (K : Heap.ExtBut L h h') : BInv h₀ P M room n h' m s := by
  obtain ⟨qs, q, tu, tr, a1, a2, a3, a4, a5, a6, a7, a8, a9, a10, a11, a12⟩ := x
  exact ⟨qs, q, tu, tr, a1, a2, a3, a4, a5.but K (F.neL a5), a6.but K (a6.notL F), a7.but K (F.neL a7), a8.but K (F.neL a8), a9, a10, a11.loc hL K, a12⟩

theorem betw_turn {v : Value} {P M : Addr} {room : Int} {s : Bt Value} (G : Glo mg mb hb) (H3 : FnAt mg hb 3 f) (R : Rm 1 A) (hc : Cell v) (hn : n ≤ 4096) (hP : h₀.get? P = none) (hM : h₀.get? M = none) (hL : h₀.get? L = none)
    (x : BInv h₀ P M room n h m s) (hl0 : h₀.get? l ≠ none) (hb0 : Ext hb h₀) (F : Fm hb L h (fun y => if y = "raw" then some v else m y)) {Q : Flow → Shared → Prop} {cd : Value} :
    wpAny (Md w) A (execs (forBd ((bd 6).getD 3 (.Pass default))) (En 6 L a cd)) (TurnEnd hb L [l] (fun h m => BInv h₀ P M room (n + 1) h m (betwStep cst room s v)) Q h g d os) (fun _ _ => False) ⟨h, g, d, tk, os⟩ := by
  obtain ⟨qs, q, tu, tr, a1, a2, a3, a4, a5, a6, a7, a8, ⟨b1, b2, b3, b4, b5, b6, b7⟩, ⟨c1, c2⟩, a11, ⟨d1, d2, d3, d4⟩⟩ := x
  have nlP : l ≠ P := fun z => hl0 (z ▸ hP)
  have nlM : l ≠ M := fun z => hl0 (z ▸ hM)
  have nlq : l ≠ q := fun z => hl0 (z ▸ c1)
  have nlL : l ≠ L := fun z => hl0 (z ▸ hL)
  have hbq : hb.get? q = none := hb0.gone c1
  have hbP : hb.get? P = none := hb0.gone hP
  have hbM : hb.get? M = none := hb0.gone hM
  refine wpAny_execs_cons ?_
  repeat' walk_at "z"
  refine n_glob F.keep G H3.name ?_
  refine c_def H3 ?_
  repeat' walk_at "z"
  refine ⟨F.keep, cost_spec G H3 F.keep R hc ?_⟩
  intro h₁ tk₁ t₁ K₁
  have F₁ := F.ext K₁
  repeat' walk_at "z"
  -- what stands where the page holds the cell
  have last : ∀ h₁ tk₁, Ext h h₁ → Fm hb L h₁ (fun y => if y = "raw" then some v else m y) → ¬ (room < s.2.2.1 + cst v ∧ s.2.1.length ≠ 0) →
      wpAny (Md w) A (execs (match forBd ((bd 6).getD 3 (.Pass default)) with | .If _ _ o _ :: _ => o | _ => []) (En 6 L a cd)) (fun f s' => match f with | .next => TurnEnd hb L [l] (fun h m => BInv h₀ P M room (n + 1) h m (betwStep cst room s v)) Q h g d os .next s' | f => TurnEnd hb L [l] (fun h m => BInv h₀ P M room (n + 1) h m (betwStep cst room s v)) Q h g d os f s') (fun _ _ => False) ⟨h₁, g, d, tk₁, os⟩ := by
    intro h₁ tk₁ K₁ F₁ hno
    refine wpAny_execs_cons ?_
    repeat' walk_at "z"
    refine (a5.ext K₁).last (by simp; omega) ?_
    refine m_append (a7.ext K₁) ?_
    refine c_append ?_
    repeat' walk_at "z"
    refine ⟨_, a7.ext K₁, by simp [sizeLine_eq]; omega, ?_⟩
    intro h₂ x₂ K₂
    have F₂ := F₁.but K₂ (fun z => (F₁.neL (a7.ext K₁)) z.symm) hbq
    repeat' walk_at "z"
    refine n_glob F₂.keep G H3.name ?_
    refine c_def H3 ?_
    repeat' walk_at "z"
    refine ⟨F₂.keep, cost_spec G H3 F₂.keep R hc ?_⟩
    intro h₃ tk₃ t₃ K₃
    have F₃ := F₂.ext K₃
    repeat' walk_at "z"
    refine st F₃ ?_
    intro h₄ tk₄ F₄ K₄
    repeat' walk_at "z"
    have y1 := ((a5.ext K₁).but K₂ b1).ext K₃
    have y2 := ((a6.ext K₁).but K₂ b3).ext K₃
    have y3 := x₂.ext K₃
    have y4 := ((a8.ext K₁).but K₂ b6).ext K₃
    have e : betwStep cst room s v = (s.1, s.2.1 ++ [v], s.2.2.1 + cst v, s.2.2.2) := by unfold betwStep; rw [if_neg hno]
    rw [e]
    refine ⟨h₄, _, _, rfl, F₄, ⟨qs, q, _, tr, by walk_at "lk", by walk_at "lk", by walk_at "lk", by walk_at "lk", y1.but K₄ (F₃.neL y1), y2.but K₄ (y2.notL F₃), y3.but K₄ (F₃.neL y3), y4.but K₄ (F₃.neL y4), ⟨b1, b2, b3, b4, b5, b6, b7⟩, ⟨c1, c2⟩, ?_, ?_⟩, ?_⟩
    · exact (((a11.trans K₁).loc c1 K₂).trans K₃).loc hL K₄
    · exact ⟨by omega, by simp; omega, by show s.2.2.2.length ≤ _; omega, fun p hp => Nat.le_succ_of_le (d4 p hp)⟩
    · exact (((Kp.ext K₁).trans (Kp.lst (a7.ext K₁) K₂ (oneKs nlq))).trans (Kp.ext K₃)).trans (Kp.loc F₃ K₄ (oneKs nlL))
  by_cases hg : room < s.2.2.1 + cst v
  · refine if_t (decide_eq_true hg) ?_
    repeat' walk_at "z"
    refine (a5.ext K₁).last (by simp; omega) ?_
    repeat' walk_at "z"
    refine n_list ?_
    intro h₂ e K₂ he le
    have F₂ := F₁.ext K₂
    have K' := K₁.trans K₂
    refine ne_nil (a7.ext K') le R.units ?_
    repeat' walk_at "z"
    by_cases hz : s.2.1.length = 0
    · refine if_f (by simp [hz]) (if_f rfl ?_)
      refine wpAny_mono (last _ _ K' F₂ (by simp [hz])) (fun fl s' z => ?_) fun _ _ z => z
      cases fl <;> first | exact wpAny_execs_nil z | exact z
    · refine if_t (by simpa using hz) ?_
      repeat' walk_at "z"
      refine if_t rfl ?_
      repeat' walk_at "z"
      refine m_append (a8.ext K') ?_
      refine c_append ?_
      repeat' walk_at "z"
      refine ⟨_, a8.ext K', by simp [sizeLine_eq]; omega, ?_⟩
      intro h₃ x₃ K₃
      have F₃ := F₂.but K₃ (fun z => (F₂.neL (a8.ext K')) z.symm) hbM
      repeat' walk_at "z"
      have y1 := (a5.ext K').but K₃ b5.symm
      refine m_append y1 ?_
      refine c_append ?_
      repeat' walk_at "z"
      refine n_list ?_
      intro h₄ r K₄ hr lr
      have F₄ := F₃.ext K₄
      refine ⟨_, y1.ext K₄, by simp [sizeLine_eq]; omega, ?_⟩
      intro h₅ x₅ K₅
      have F₅ := F₄.but K₅ (fun z => (F₄.neL (y1.ext K₄)) z.symm) hbP
      repeat' walk_at "z"
      refine st F₅ ?_
      intro h₆ tk₆ F₆ K₆
      repeat' walk_at "z"
      have y2 := (a6.ext K').but K₃ b7
      have y3 := (a7.ext K').but K₃ b6.symm
      have hrP : r ≠ P := fun z => (y1.ne hr) z.symm
      have hrq : r ≠ q := fun z => (y3.ne hr) z.symm
      have hrM : r ≠ M := fun z => (x₃.ne hr) z.symm
      have hrqs : r ∉ qs := y2.notIn hr
      have E₃ : Ext h₀ h₃ := (a11.trans K').loc hM K₃
      have z1 := x₅
      have z2 := ((y2.snoc y3).ext K₄).but K₅ (by simp [b1, b2])
      have z3 := lr.but K₅ hrP
      have z4 := (x₃.ext K₄).but K₅ b5
      have e : betwStep cst room s v = (s.1 ++ [s.2.1], [], 0, s.2.2.2 ++ [v]) := by unfold betwStep; rw [if_pos ⟨hg, hz⟩]
      rw [e]
      refine ⟨h₆, _, _, rfl, F₆, ⟨qs ++ [q], r, _, tr, by walk_at "lk", by walk_at "lk", by walk_at "lk", by walk_at "lk", ?_, z2.but K₆ (z2.notL F₅), z3.but K₆ (F₅.neL z3), z4.but K₆ (F₅.neL z4), ?_, ?_, ?_, ?_⟩, ?_⟩
      · have := z1.but K₆ (F₅.neL z1)
        simpa using this
      · refine ⟨hrP.symm, by simp [b1, b2], by simp [hrq, hrqs], ?_, b5, hrM.symm, by simp [b6, b7]⟩
        rw [List.nodup_append]
        exact ⟨b4, by simp, by intro x hx y hy; rw [List.mem_singleton.mp hy]; exact fun z => b3 (z ▸ hx)⟩
      · refine ⟨E₃.gone hr, fun a ha => ?_⟩
        rcases List.mem_append.mp ha with ha | ha
        · exact c2 a ha
        · rw [List.mem_singleton.mp ha]; exact c1
      · exact ((E₃.trans K₄).loc hP K₅).loc hL K₆
      · refine ⟨by simp; omega, by simp, by simp; omega, fun p hp => ?_⟩
        rcases List.mem_append.mp hp with hp | hp
        · exact Nat.le_succ_of_le (d4 p hp)
        · rw [List.mem_singleton.mp hp]; omega
      · exact ((((Kp.ext K').trans (Kp.lst (a8.ext K') K₃ (oneKs nlM))).trans (Kp.ext K₄)).trans (Kp.lst (y1.ext K₄) K₅ (oneKs nlP))).trans (Kp.loc F₅ K₆ (oneKs nlL))
  · refine if_f (decide_eq_false hg) (if_f rfl ?_)
    refine wpAny_mono (last _ _ K₁ F₁ (by simp [hg])) (fun fl s' z => ?_) fun _ _ z => z
    cases fl <;> first | exact wpAny_execs_nil z | exact z

def BMid (hb h₀ : Heap) (L P M : Addr) (s : Bt Value) (g : Array GenState) (d : Drawn) (os : OsState) (fl : Flow) (s' : Shared) : Prop :=
  fl = .next ∧ ∃ h₂ m₂ tk₂ qs, s' = (⟨h₂, g, d, tk₂, os⟩ : Shared) ∧ Fm hb L h₂ m₂ ∧ m₂ "pages" = some (.ref P) ∧ m₂ "middles" = some (.ref M) ∧ Ext h₀ h₂ ∧
    LsAt h₂ P (qs.map .ref) ∧ Lists h₂ qs (betwFix s).1 ∧ LsAt h₂ M (betwFix s).2
/-- packed_between -/
theorem betw_spec {room : Int} {tr : Tok} {Q : Value → Shared → Prop} (G : Glo mg mb hb) (H : FnAt mg hb 6 f) (K : Ext hb h) (R : Rm 2 A) (lx : LsAt h l vs) (hc : ∀ v ∈ vs, Cell v) (hz : vs.length ≤ 4096)
    (k : ∀ h' tk T P M qs, Ext h h' → IsTup h' T #[.ref P, .ref M] → LsAt h' P (qs.map .ref) → Lists h' qs (betw cst room vs).1 → LsAt h' M (betw cst room vs).2 → Q (.ref T) ⟨h', g, d, tk, os⟩) :
    wpAny (Md w) A (call (.ref f) [.ref l, .int room tr]) Q E ⟨h, g, d, tk, os⟩ := by
  refine callFn (binds := [("raws", .ref l), ("room", .int room tr)]) G H K R ?b ?c ?l ?o ?g ?k ?_
  case b => intro doc pm an cd ct; kernel_rfl!
  case c => decide
  case l => exact locs rfl
  case o => rfl
  case g => rfl
  case k => rfl
  intro L cd h₁ tk₁ F K₁ hL R'
  obtain ⟨f3, H3⟩ := G.fn 3 (by decide)
  refine wpAny_execs_cons ?_
  repeat' walk_at "z"
  refine n_list ?_
  intro h₂ q K₂ hq lq
  repeat' walk_at "z"
  refine n_list ?_
  intro h₃ P K₃ hP lP
  have F₃ := (F.ext K₂).ext K₃
  repeat' walk_at "z"
  refine st F₃ ?_
  intro h₄ tk₄ F₄ K₄
  repeat' walk_at "z"
  refine n_list ?_
  intro h₅ M K₅ hM lM
  have F₅ := F₄.ext K₅
  repeat' walk_at "z"
  refine st F₅ ?_
  intro h₆ tk₆ F₆ K₆
  repeat' walk_at "z"
  refine st F₆ ?_
  intro h₇ tk₇ F₇ K₇
  repeat' walk_at "z"
  have nlL : l ≠ L := lx.ne hL
  have hl0 : h.get? l ≠ none := by obtain ⟨n, e⟩ := lx; rw [e]; exact fun q => nomatch q
  have lq₄ := (lq.ext K₃).but K₄ (F₃.neL (lq.ext K₃))
  have lP₄ := lP.but K₄ (F₃.neL lP)
  have toL : ∀ {a vs}, LsAt h₅ a vs → LsAt h₇ a vs := fun x => (x.but K₆ (F₅.neL x)).but K₇ (F₆.neL (x.but K₆ (F₅.neL x)))
  have lx₇ : LsAt h₇ l vs := toL (((((lx.ext K₁).ext K₂).ext K₃).but K₄ nlL).ext K₅)
  have E₄ : Ext h h₄ := (K₁.trans (K₂.trans K₃)).loc hL K₄
  have hP0 : h.get? P = none := (K₁.trans K₂).gone hP
  have hq0 : h.get? q = none := K₁.gone hq
  have hM0 : h.get? M = none := E₄.gone hM
  have hPq : P ≠ q := fun z => (lq.ne hP) z.symm
  have hMP : M ≠ P := fun z => (lP₄.ne hM) z.symm
  have hMq : M ≠ q := fun z => (lq₄.ne hM) z.symm
  have E₇ : Ext h h₇ := ((E₄.trans K₅).loc hL K₆).loc hL K₇
  refine for_list (vs := vs) (l := l) (fun i h' m' => BInv h P M room i h' m' (betwSt cst room (vs.take i))) R'.hh F₇ lx₇ ?_ ?_ ?_ ?_ ?_ ?_
  · refine ⟨[], q, _, tr, by walk_at "lk", by walk_at "lk", by walk_at "lk", by walk_at "lk", toL (lP₄.ext K₅), .nil, toL (lq₄.ext K₅), toL lM, ⟨hPq, by simp, by simp, by simp, hMP, hMq, by simp⟩, ⟨hq0, by simp⟩, E₇, by simp, by simp [betwSt], by simp [betwSt], by simp [betwSt]⟩
  · intro Q' hQ'
    repeat' walk_at "z"
    exact hQ'
  · intro i h' h'' m' x N
    exact x.nt E₇ N
  · intro i h' h'' m' x F N
    exact x.loc F hL N
  · intro i v h' m' tk' hi hv x F'
    rw [take_succ_of hv, betwSt_snoc]
    exact betw_turn G H3 (R'.le (by omega)) (hc v (List.mem_of_getElem? hv)) (by omega) hP0 hM0 hL x hl0 K F'
  · intro h' m' tk' x F'
    rw [List.take_length] at x
    have iv := betw_inv cst room vs
    unfold betw at k
    generalize betwSt cst room vs = s at x iv k
    obtain ⟨qs, q, tu, tr, a1, a2, a3, a4, a5, a6, a7, a8, ⟨b1, b2, b3, b4, b5, b6, b7⟩, ⟨c1, c2⟩, a11, ⟨d1, d2, d3, d4⟩⟩ := x
    have hbP : hb.get? P = none := K.gone hP0
    have hbM : hb.get? M = none := K.gone hM0
    have hbq : hb.get? q = none := K.gone c1
    refine wpAny_execs_cons (wpAny_mono (Q := BMid hb h L P M s g d os) ?_ (fun fl s' hm => ?_) fun _ _ z => z)
    · repeat' walk_at "z"
      refine z_len a5 (by simp; omega) ?_
      intro t₁ tk₁
      repeat' walk_at "z"
      have no : ¬ (s.1.length ≠ 0 ∧ s.2.1.length = 0) → ∀ h₂ tk₂, Ext h' h₂ → Fm hb L h₂ m' → BMid hb h L P M s g d os .next ⟨h₂, g, d, tk₂, os⟩ := fun hn h₂ tk₂ K₂ F₂ => by
        have e : betwFix s = (s.1 ++ [s.2.1], s.2.2.2) := by unfold betwFix; rw [if_neg hn]
        refine ⟨rfl, h₂, m', tk₂, qs ++ [q], rfl, F₂, a1, a4, a11.trans K₂, by simpa using a5.ext K₂, ?_, ?_⟩
        · rw [e]; exact (a6.ext K₂).snoc (a7.ext K₂)
        · rw [e]; exact a8.ext K₂
      by_cases h1 : s.1.length = 0
      · refine if_f (by simp [a6.length, h1]) (if_f rfl ?_)
        repeat' walk_at "z"
        exact no (fun z => z.1 h1) _ _ (Ext.refl _) F'
      · refine if_t (by simp [a6.length]; omega) ?_
        repeat' walk_at "z"
        refine a5.last (by simp; omega) ?_
        repeat' walk_at "z"
        refine n_list ?_
        intro h₂ e K₂ he le
        have F₂ := F'.ext K₂
        refine eq_nil (a7.ext K₂) le R'.units ?_
        repeat' walk_at "z"
        by_cases h2 : s.2.1.length = 0
        · refine if_t (by simp [h2]) ?_
          repeat' walk_at "z"
          refine if_t rfl ?_
          obtain ⟨dn, p, e1⟩ := snoc_of h1
          obtain ⟨pg, y, e2⟩ := snoc_of (iv.2 p (by rw [e1]; simp))
          obtain ⟨md, x, e3⟩ := snoc_of (by rw [iv.1]; exact h1 : s.2.2.2.length ≠ 0)
          obtain ⟨sd, sc, su, sm⟩ := s
          dsimp only at e1 e3 h2 d1 d2 d3 d4 a6 a7 a8
          subst e1 e2 e3
          have e4 : sc = [] := List.length_eq_zero_iff.mp h2
          subst e4
          obtain ⟨qs', r, rfl, u6, ur⟩ := a6.snoc_inv
          have nrP : r ≠ P := fun z => b2 (by simp [z])
          have nrM : r ≠ M := fun z => b7 (by simp [z])
          have nrq : r ≠ q := fun z => b3 (by simp [z])
          have b4' : qs'.Nodup ∧ r ∉ qs' := by
            rw [List.nodup_append] at b4
            exact ⟨b4.1, fun z => b4.2.2 r z r (by simp) rfl⟩
          have hbr : hb.get? r = none := K.gone (c2 r (by simp))
          have dm := d3
          have dp := d4 (pg ++ [y]) (by simp)
          simp only [List.length_append, List.length_cons, List.length_nil] at dm dp d1
          repeat' walk_at "z"
          refine m_pop (a8.ext K₂) ?_
          refine c_pop (a8.ext K₂) (by simp [sizeLine_eq]; omega) ?_
          intro h₃ x₃ K₃
          have F₃ := F₂.but K₃ (fun z => (F₂.neL (a8.ext K₂)) z.symm) hbM
          refine st F₃ ?_
          intro h₄ tk₄ F₄ K₄
          repeat' walk_at "z"
          have x₄ := x₃.but K₄ (F₃.neL x₃)
          refine m_append x₄ ?_
          refine c_append ?_
          repeat' walk_at "z"
          have p₃ := (a5.ext K₂).but K₃ b5.symm
          have p₄ := p₃.but K₄ (F₃.neL p₃)
          refine LsAt.last2 (vs := qs'.map .ref) (by simpa using p₄) (by simp; omega) ?_
          have r₃ := (ur.ext K₂).but K₃ nrM
          have r₄ := r₃.but K₄ (F₃.neL r₃)
          refine m_pop r₄ ?_
          refine c_pop r₄ (by simp [sizeLine_eq]; omega) ?_
          intro h₅ x₅ K₅
          have F₅ := F₄.but K₅ (fun z => (F₄.neL r₄) z.symm) hbr
          have m₅ := x₄.but K₅ nrM.symm
          refine ⟨_, m₅, by simp [sizeLine_eq]; omega, ?_⟩
          intro h₆ m₆ K₆
          have F₆ := F₅.but K₆ (fun z => (F₅.neL m₅) z.symm) hbM
          repeat' walk_at "z"
          have p₆ := (p₄.but K₅ nrP.symm).but K₆ b5.symm
          refine p₆.last (by simp; omega) ?_
          have q₃ := (a7.ext K₂).but K₃ b6.symm
          have q₄ := q₃.but K₄ (F₃.neL q₃)
          have q₆ := (q₄.but K₅ nrq.symm).but K₆ b6.symm
          refine m_append q₆ ?_
          refine c_append ?_
          repeat' walk_at "z"
          refine ⟨_, q₆, by simp [sizeLine_eq], ?_⟩
          intro h₇ x₇ K₇
          have F₇ := F₆.but K₇ (fun z => (F₆.neL q₆) z.symm) hbq
          repeat' walk_at "z"
          have nMqs : M ∉ qs' := fun z => b7 (by simp [z])
          have nqqs : q ∉ qs' := fun z => b3 (by simp [z])
          have u₃ := (u6.ext K₂).but K₃ nMqs
          have u₇ := (((u₃.but K₄ (u₃.notL F₃)).but K₅ b4'.2).but K₆ nMqs).but K₇ nqqs
          have rr := (x₅.but K₆ nrM).but K₇ nrq
          refine ⟨rfl, h₇, _, _, qs' ++ [r] ++ [q], rfl, F₇, by walk_at "lk", by walk_at "lk", ?_, ?_, ?_, ?_⟩
          · exact (((((a11.trans K₂).loc hM0 K₃).loc hL K₄).loc (c2 r (by simp)) K₅).loc hM0 K₆).loc c1 K₇
          · have := p₆.but K₇ b1
            simpa using this
          · rw [betwFix_last]
            exact (u₇.snoc rr).snoc (by simpa using x₇)
          · rw [betwFix_last]
            exact m₆.but K₇ b6
        · refine if_f (by simpa using h2) (if_f rfl ?_)
          repeat' walk_at "z"
          exact no (fun z => h2 z.2) _ _ K₂ F₂
    · obtain ⟨rfl, h₂, m₂, tk₂, qs₂, rfl, F₂, e1, e2, E₂, y1, y2, y3⟩ := hm
      repeat' walk_at "z"
      refine n_tuple ?_
      intro h₃ T K₃ hT lT
      exact k h₃ _ T P M qs₂ (E₂.trans K₃) lT (y1.ext K₃) (y2.ext K₃) (y3.ext K₃)
end

section
variable {mg mb : Str → Option Value} {hb h h' h₀ hs : Heap} {w : World} {A : Around} {E : Value → Shared → Prop} {g : Array GenState} {d : Drawn} {tk : Nat} {os : OsState} {i n : Nat} {f L a b e l : Addr} {m : Str → Option Value} {env : Env} {vs ws : List Value}

theorem c_sum {ns : List Int} {Q : Value → Shared → Prop} (hh : A.handled = none) (hl : h.IsList l vs.toArray) (hi : IntsAre vs ns) (k : ∀ h' tk t, Ext h h' → Q (.int ns.sum t) ⟨h', g, d, tk, os⟩) :
    wpAny (Md w) A (call (.builtin "sum") [.ref l]) Q E ⟨h, g, d, tk, os⟩ := by
  obtain ⟨xs, hx⟩ := hi.allInts.items
  have hn : numsOf vs.toArray.toList = ns := by rw [show vs.toArray.toList = vs from rfl, hi.numsOf]
  rw [hx] at hl hn
  rw [nums_intItems] at hn
  refine sum_intListG hh hl fun h' tk t' hk => ?_
  have := k h' tk t' hk
  rw [preSum_eq, List.take_of_length_le (by simp), hn]
  exact this

theorem lcost_spec {v : Value} {Q : Value → Shared → Prop} (G : Glo mg mb hb) (H : FnAt mg hb 11 f) (K : Ext hb h) (R : Rm 1 A) (hc : Cell v)
    (k : ∀ h' tk t, Ext h h' → Q (.int (cst v) t) ⟨h', g, d, tk, os⟩) :
    wpAny (Md w) A (call (.ref f) [v]) Q E ⟨h, g, d, tk, os⟩ := by
  obtain ⟨b, t, rfl, hz⟩ := hc
  refine callFn (binds := [("raw", .bytes b t)]) G H K R ?b ?c ?l ?o ?g ?k ?_
  case b => intro doc pm an cd ct; kernel_rfl!
  case c => decide
  case l => exact locs rfl
  case o => rfl
  case g => rfl
  case k => rfl
  intro L cd h₁ tk₁ F K₁ hL R'
  refine wpAny_execs_cons ?_
  repeat' walk_at "z"
  refine z_lenb hz ?_
  intro _ _
  repeat' walk_at "z"
  exact k _ _ _ (K₁.trans (by assumption))

theorem paired_ints : ∀ {vs ys : List Value}, Paired (fun v y => ∃ t, y = .int (cst v) t) vs ys → IntsAre ys (vs.map cst)
  | _, _, .nil => .nil
  | _, _, .cons ⟨t, e⟩ r => by subst e; exact .cons _ t (paired_ints r)

/-- a name in a comprehension's frame -/
theorem n_locC {x : Str} {pos : Pos} {v : Value} {s : Shared} {M : Model} {m : Str → Option Value} {Q : Value → Shared → Prop} (hn : s.heap.Ns env.locals m) (hv : m x = some v) (k : Q v s)
    (hk : env.scope.kind = .function := by rfl) (hl : env.kindOf x = some .local := by rfl) (hd : (x == ("__debug__" : Str)) = false := by decide) :
    wpAny M A (eval (.Name x pos) env) Q E s := wpAny_Name (wpAny_loadName_local hk hl hn hv k) hd

theorem lcosts_spec {Q : Value → Shared → Prop} (G : Glo mg mb hb) (H : FnAt mg hb 12 f) (K : Ext hb h) (R : Rm 2 A) (lx : LsAt h l vs) (hc : ∀ v ∈ vs, Cell v) (hz : vs.length ≤ 4096)
    (k : ∀ h' tk t, Ext h h' → Q (.int (vs.map cst).sum t) ⟨h', g, d, tk, os⟩) :
    wpAny (Md w) A (call (.ref f) [.ref l]) Q E ⟨h, g, d, tk, os⟩ := by
  refine callFn (binds := [("raws", .ref l)]) G H K R ?b ?c ?l ?o ?g ?k ?_
  case b => intro doc pm an cd ct; kernel_rfl!
  case c => decide
  case l => exact locs rfl
  case o => rfl
  case g => rfl
  case k => rfl
  intro L cd h₁ tk₁ F K₁ hL R'
  obtain ⟨f11, H11⟩ := G.fn 11 (by decide)
  refine wpAny_execs_cons ?_
  repeat' walk_at "z"
  have l₁ := lx.ext K₁
  have hne : l ≠ h₁.objs.size := l₁.ne (Heap.get?_none_of_le (Nat.le_refl _))
  refine wpAny_ListComp_walk (fun _ => true) (fun v y => ∃ t, y = .int (cst v) t) (by decide) (by decide) rfl (by decide) (by decide) ?_
  repeat' walk_at "z"
  refine wpAny_pyIter_list l₁.isList ?_
  have Kp := Ext.push h₁ { cls := .type "list_iterator", data := .fields #[.ref l, .int 0 0] }
  refine ⟨_, _, _, _, _, _, rfl, Walks.list (prog := Prg) (w := w) R'.hh h₁.objs.size l hne vs.toArray, by simp [sizeLine_eq]; omega, ⟨⟨_, Heap.get?_push_size _ rfl, rfl, rfl⟩, l₁.isList.push _⟩, ?_, ⟨?_, ?_⟩, ?_⟩
  · intro b hb'
    rcases List.mem_cons.mp hb' with rfl | hb'
    · simp
    · rw [List.mem_singleton.mp hb']
      obtain ⟨n, e⟩ := l₁
      simp only [Heap.size_push]
      exact Nat.lt_succ_of_lt (Heap.lt_size e)
  · intro C i v s₃ m₃ E' hv hn hm hk _
    exact wpAny_pure ⟨rfl, s₃.heap, s₃.toks, rfl, fun _ _ e => e⟩
  · intro C i v s₃ m₃ E' hv _ hn hm hk _
    have hcv : Cell v := hc v (by have := Array.mem_of_getElem? hv; simpa using this)
    have KB : Ext hb s₃.heap := fun b o e => hk b o (by
      intro q
      rw [List.mem_singleton.mp q] at e
      exact ne_of_none e (F.keep.gone (Heap.get?_none_of_le (Nat.le_refl _))) rfl) (Kp _ _ (F.keep _ _ e))
    obtain ⟨h₃, g₃, d₃, t₃, o₃⟩ := s₃
    repeat' walk_at "z"
    refine n_glob KB G H11.name ?_
    refine c_def H11 ?_
    repeat' walk_at "z"
    refine n_locC hn hm ?_
    repeat' walk_at "z"
    refine ⟨KB, lcost_spec G H11 KB R' hcv ?_⟩
    intro h₄ tk₄ t₄ K₄
    exact ⟨⟨_, rfl⟩, h₄, tk₄, rfl, K₄⟩
  · intro D h₂ tk₂ ys us hD hl hp hlen hP hF hk
    have e : us = vs := by
      apply List.ext_getElem?
      intro j
      rcases Nat.lt_or_ge j us.length with q | q
      · have := hP j us[j] (by simp [q])
        rw [List.getElem?_eq_getElem q, ← this]; simp
      · rw [List.getElem?_eq_none q, List.getElem?_eq_none]
        simp at hlen
        omega
    subst e
    rw [show us.filter (fun _ => true) = us from List.filter_eq_self.mpr fun _ _ => rfl] at hF
    have hi : IntsAre ys.toList (us.map cst) := paired_ints hF
    have K₂ : Ext h₁ h₂ := fun b o e => hk b o (by
      intro q
      rw [List.mem_singleton.mp q] at e
      exact ne_of_none e (Heap.get?_none_of_le (Nat.le_refl _)) rfl) (Kp _ _ e)
    have F₂ := F.ext K₂
    repeat' walk_at "z"
    refine c_sum R'.hh (vs := ys.toList) (by simpa using hl) hi ?_
    intro h₃ tk₃ t₃ K₃
    exact k _ _ _ ((K₁.trans K₂).trans K₃)
end

section
variable {mg mb : Str → Option Value} {hb h h' h₀ hs : Heap} {w : World} {A : Around} {E : Value → Shared → Prop} {g : Array GenState} {d : Drawn} {tk : Nat} {os : OsState} {i n : Nat} {f L a b e l sa : Addr} {m : Str → Option Value} {env : Env} {vs ws : List Value}

/-- what is drawn from -/
def Src (h : Heap) (sa : Addr) : Prop := ∃ x y t u, LsAt h sa [.int x t, .int y u] ∧ 0 ≤ x ∧ 0 ≤ y ∧ y < 2147483647
theorem Src.ext (x : Src h sa) (K : Ext h h') : Src h' sa := let ⟨a, b, t, u, l, r⟩ := x; ⟨a, b, t, u, l.ext K, r⟩
theorem Src.but (x : Src h sa) (K : Heap.ExtBut a h h') (ne : sa ≠ a) : Src h' sa := let ⟨a, b, t, u, l, r⟩ := x; ⟨a, b, t, u, l.but K ne, r⟩
theorem Src.nt (x : Src h sa) (K : Nt hs h h') : Src h' sa := let ⟨a, b, t, u, l, r⟩ := x; ⟨a, b, t, u, l.nt K, r⟩
theorem Src.neL (x : Src h sa) (F : Fm hb L h m) : sa ≠ L := let ⟨_, _, _, _, l, _⟩ := x; F.neL l
theorem Src.ne (x : Src h sa) (n : h.get? b = none) : sa ≠ b := let ⟨_, _, _, _, l, _⟩ := x; l.ne n

theorem but_trans {h₁ h₂ h₃ : Heap} (x : Heap.ExtBut a h₁ h₂) (K : Ext h₂ h₃) : Heap.ExtBut a h₁ h₃ := fun b o n e => K b o (x b o n e)
/-- a step that turned the frame at hand alone, which h did not hold -/
theorem but_loc {h₁ h₂ h₃ : Heap} (x : Heap.ExtBut a h₁ h₂) (n : h₁.get? L = none) (K : Heap.ExtBut L h₂ h₃) : Heap.ExtBut a h₁ h₃ := fun b o q e => K b o (ne_of_none e n) (x b o q e)

theorem take_spec {top : Int} {tt : Tok} {Q : Value → Shared → Prop} (G : Glo mg mb hb) (H : FnAt mg hb 9 f) (K : Ext hb h) (R : Rm 1 A) (S : Src h sa) (hsb : hb.get? sa = none) (h0 : 0 < top) (h1 : top < 1073741824)
    (k : ∀ h' tk t x, Heap.ExtBut sa h h' → Src h' sa → 0 ≤ x → x < top → Q (.int x t) ⟨h', g, d, tk, os⟩) :
    wpAny (Md w) A (call (.ref f) [.ref sa, .int top tt]) Q E ⟨h, g, d, tk, os⟩ := by
  refine callFn (binds := [("source", .ref sa), ("top", .int top tt)]) G H K R ?b ?c ?l ?o ?g ?k ?_
  case b => intro doc pm an cd ct; kernel_rfl!
  case c => decide
  case l => exact locs rfl
  case o => rfl
  case g => rfl
  case k => rfl
  intro L cd h₁ tk₁ F K₁ hL R'
  have sL : sa ≠ L := S.ne hL
  obtain ⟨x, y, t, u, lx, hx, hy, hy'⟩ := S
  have l₁ := lx.ext K₁
  refine wpAny_execs_cons ?_
  repeat' walk_at "z"
  refine l₁.item (by decide) (by decide) rfl ?_
  repeat' walk_at "z"
  by_cases hp : 0 < x
  · refine if_t (decide_eq_true hp) ?_
    refine wpAny_execs_cons ?_
    repeat' walk_at "z"
    refine l₁.item (by decide) (by decide) rfl ?_
    repeat' walk_at "z"
    refine z_mod h0 ?_
    intro t₂ tk₂
    refine st F ?_
    intro h₂ tk₂ F₂ K₂
    have l₂ := l₁.but K₂ sL
    repeat' walk_at "z"
    refine l₂.item (by decide) (by decide) rfl ?_
    repeat' walk_at "z"
    refine z_div h0 h1 ?_
    intro t₃ tk₃
    repeat' walk_at "z"
    refine s_set l₂ (by decide) (by simp) (by simp) ?_
    intro h₃ l₃ K₃
    have F₃ := F₂.but K₃ sL.symm hsb
    repeat' walk_at "z"
    refine k h₃ _ _ _ ?_ ⟨x / top, y, _, _, l₃, Int.ediv_nonneg hx (by omega), hy, hy'⟩ (Int.emod_nonneg _ (by omega)) (Int.emod_lt_of_pos _ h0)
    exact fun b o n e => K₃ b o n (K₂ b o (ne_of_none e hL) (K₁ b o e))
  · refine if_f (decide_eq_false hp) ?_
    repeat' walk_at "z"
    refine l₁.item (by decide) (by decide) rfl ?_
    repeat' walk_at "z"
    refine z_mul (by decide) (by decide) ?_
    intro t₂ tk₂
    repeat' walk_at "z"
    refine z_mod (by decide) ?_
    intro t₃ tk₃
    repeat' walk_at "z"
    have b0 := Int.emod_nonneg (y * 39373 + 7) (show (2147483647 : Int) ≠ 0 by decide)
    have b1 := Int.emod_lt_of_pos (y * 39373 + 7) (show (0 : Int) < 2147483647 by decide)
    generalize (y * 39373 + 7) % 2147483647 = y' at b0 b1
    refine s_set l₁ (by decide) (by simp) (by simp) ?_
    intro h₂ l₂ K₂
    have F₂ := F.but K₂ sL.symm hsb
    repeat' walk_at "z"
    refine l₂.item (by decide) (by decide) rfl ?_
    repeat' walk_at "z"
    refine l₂.item (by decide) (by decide) rfl ?_
    repeat' walk_at "z"
    refine z_mul (by omega) (by omega) ?_
    intro t₄ tk₄
    repeat' walk_at "z"
    refine z_mod (by decide) ?_
    intro t₅ tk₅
    repeat' walk_at "z"
    refine z_div (by decide) (by decide) ?_
    intro t₆ tk₆
    repeat' walk_at "z"
    refine z_mod h0 ?_
    intro t₇ tk₇
    repeat' walk_at "z"
    refine k h₂ _ _ _ ?_ ⟨x, y', _, _, l₂, hx, b0, b1⟩ (Int.emod_nonneg _ (by omega)) (Int.emod_lt_of_pos _ h0)
    exact fun b o n e => K₂ b o n (K₁ b o e)

theorem one_spec {Q : Value → Shared → Prop} (G : Glo mg mb hb) (H : FnAt mg hb 10 f) (K : Ext hb h) (R : Rm 2 A) (S : Src h sa) (hsb : hb.get? sa = none) (lx : LsAt h l vs) (hne : l ≠ sa) (h0 : 0 < vs.length) (h1 : vs.length ≤ 4096)
    (k : ∀ h' tk (j : Nat) v, Heap.ExtBut sa h h' → Src h' sa → vs[j]? = some v → Q v ⟨h', g, d, tk, os⟩) :
    wpAny (Md w) A (call (.ref f) [.ref sa, .ref l]) Q E ⟨h, g, d, tk, os⟩ := by
  refine callFn (binds := [("source", .ref sa), ("things", .ref l)]) G H K R ?b ?c ?l ?o ?g ?k ?_
  case b => intro doc pm an cd ct; kernel_rfl!
  case c => decide
  case l => exact locs rfl
  case o => rfl
  case g => rfl
  case k => rfl
  intro L cd h₁ tk₁ F K₁ hL R'
  obtain ⟨f9, H9⟩ := G.fn 9 (by decide)
  refine wpAny_execs_cons ?_
  repeat' walk_at "z"
  refine n_glob F.keep G H9.name ?_
  refine c_def H9 ?_
  repeat' walk_at "z"
  refine z_len (lx.ext K₁) (by omega) ?_
  intro t₂ tk₂
  repeat' walk_at "z"
  refine ⟨F.keep, take_spec G H9 F.keep R' (S.ext K₁) hsb (by omega) (by omega) ?_⟩
  intro h₂ tk₃ t₃ x K₂ S₂ x0 x1
  have l₂ := (lx.ext K₁).but K₂ hne
  have hj : x.toNat < vs.length := by omega
  refine l₂.item x0 (by omega) (List.getElem?_eq_getElem hj) ?_
  exact k h₂ _ x.toNat _ (fun b o n e => K₂ b o n (K₁ b o e)) S₂ (List.getElem?_eq_getElem hj)

theorem IntsAre.at {vs : List Value} {ns : List Int} (h : IntsAre vs ns) {j : Nat} (hj : j < ns.length) : ∃ t, vs[j]? = some (.int ns[j] t) := h.get j ns[j] (by simp [hj])

theorem pool_spec {ns : List Int} {kk : Int} {tt : Tok} {Q : Value → Shared → Prop} (G : Glo mg mb hb) (H : FnAt mg hb 8 f) (K : Ext hb h) (R : Rm 1 A) (lx : h.IsList l vs.toArray) (hi : IntsAre vs ns) (hz : vs.length ≤ 4096) (h0 : 0 ≤ kk) (h1 : kk < 1024)
    (k : ∀ h' tk sa, Ext h h' → h.get? sa = none → Src h' sa → Q (.ref sa) ⟨h', g, d, tk, os⟩) :
    wpAny (Md w) A (call (.ref f) [.ref l, .int kk tt]) Q E ⟨h, g, d, tk, os⟩ := by
  refine callFn (binds := [("script", .ref l), ("k", .int kk tt)]) G H K R ?b ?c ?l ?o ?g ?k ?_
  case b => intro doc pm an cd ct; kernel_rfl!
  case c => decide
  case l => exact locs rfl
  case o => rfl
  case g => rfl
  case k => rfl
  intro L cd h₁ tk₁ F K₁ hL R'
  have nlL : l ≠ L := by obtain ⟨o, e, _⟩ := lx; exact ne_of_none e hL
  refine wpAny_execs_cons ?_
  repeat' walk_at "z"
  refine st F ?_
  intro h₂ tk₂ F₂ K₂
  have l₂ : h₂.IsList l vs.toArray := by obtain ⟨o, e, r⟩ := lx; exact ⟨o, K₂ _ _ nlL (K₁ _ _ e), r⟩
  have E₂ : Ext h h₂ := K₁.loc hL K₂
  refine wpAny_execs_cons (wpAny_mono (Q := fun fl s' => fl = .next ∧ ∃ h₃ m₃ tk₃ c t, s' = (⟨h₃, g, d, tk₃, os⟩ : Shared) ∧ Fm hb L h₃ m₃ ∧ Ext h h₃ ∧ m₃ "cell" = some (.int c t) ∧ m₃ "k" = some (.int kk tt)) ?_ (fun fl s' hm => ?_) fun _ _ z => z)
  · repeat' walk_at "z"
    refine call_len_list l₂ (by rw [List.size_toArray]; omega) ?_
    repeat' walk_at "z"
    by_cases hk : kk < vs.length
    · refine if_t (decide_eq_true (by simpa using hk)) ?_
      repeat' walk_at "z"
      have hl := hi.length
      obtain ⟨t, ht⟩ := IntsAre.at hi (j := kk.toNat) (by omega)
      refine tail_any l₂.typeIs slot_list_getitem.lookup (wpAny_getItem_list l₂ h0 (by omega) (by simpa using ht) ?_) (by with_unfolding_all rfl)
      refine st F₂ ?_
      intro h₃ tk₃ F₃ K₃
      repeat' walk_at "z"
      exact ⟨rfl, h₃, _, _, _, _, rfl, F₃, E₂.loc hL K₃, by walk_at "lk", by walk_at "lk"⟩
    · refine if_f (decide_eq_false (by simpa using hk)) ?_
      repeat' walk_at "z"
      exact ⟨rfl, h₂, _, _, _, _, rfl, F₂, E₂, by walk_at "lk", by walk_at "lk"⟩
  · obtain ⟨rfl, h₃, m₃, tk₃, c, t, rfl, F₃, E₃, c1, c2⟩ := hm
    repeat' walk_at "z"
    rename_i h₄ tk₄ t₄ K₄
    have F₄ := F₃.ext K₄
    have hB : 0 ≤ max c (-1 - c) := by omega
    generalize max c (-1 - c) = B at hB
    refine st F₄ ?_
    intro h₅ tk₅ F₅ K₅
    have E₅ : Ext h h₅ := (E₃.trans K₄).loc hL K₅
    repeat' walk_at "z"
    refine z_mod (by decide) ?_
    intro t₆ tk₆
    have b0 := Int.emod_nonneg B (show (2147483629 : Int) ≠ 0 by decide)
    have b1 := Int.emod_lt_of_pos B (show (0 : Int) < 2147483629 by decide)
    generalize B % 2147483629 = r at b0 b1
    repeat' walk_at "z"
    refine z_mul (by omega) (by omega) ?_
    intro t₇ tk₇
    repeat' walk_at "z"
    refine z_mul (by omega) (by omega) ?_
    intro t₈ tk₈
    repeat' walk_at "z"
    refine z_mul (by omega) (by omega) ?_
    intro t₉ tk₉
    repeat' walk_at "z"
    refine z_mul (by decide) (by decide) ?_
    intro u₁ v₁
    repeat' walk_at "z"
    refine z_mod (by decide) ?_
    intro u₂ v₂
    have d0 := Int.emod_nonneg ((r + 7919 * kk * kk + 31 * kk + 17) * 48271) (show (2147483647 : Int) ≠ 0 by decide)
    have d1 := Int.emod_lt_of_pos ((r + 7919 * kk * kk + 31 * kk + 17) * 48271) (show (0 : Int) < 2147483647 by decide)
    generalize ((r + 7919 * kk * kk + 31 * kk + 17) * 48271) % 2147483647 = M at d0 d1
    refine st F₅ ?_
    intro h₆ tk₆ F₆ K₆
    have E₆ : Ext h h₆ := E₅.loc hL K₆
    repeat' walk_at "z"
    refine pow_int (by decide) (by decide) ?_
    repeat' walk_at "z"
    refine z_mul (by split <;> decide) (by split <;> decide) ?_
    intro u₃ v₃
    repeat' walk_at "z"
    refine n_list ?_
    intro h₇ sa K₇ hs ls
    refine k h₇ _ sa (E₆.trans K₇) (E₆.gone hs) ⟨_, M, _, _, ls, ?_, d0, d1⟩
    split
    · omega
    · omega
end

section
variable {mg mb : Str → Option Value} {hb h h' h₀ hs : Heap} {w : World} {A : Around} {E : Value → Shared → Prop} {g : Array GenState} {d : Drawn} {tk : Nat} {os : OsState} {i n : Nat} {f L a b e l sa zl : Addr} {m : Str → Option Value} {env : Env} {vs ws : List Value}

structure LInv (h₀ : Heap) (l zl : Addr) (vs : List Value) (room : Int) (step : Nat) (h : Heap) (m : Str → Option Value) (Z : List Int) : Prop where
  raws : m "raws" = some (.ref l)
  least : m "least" = some (.ref zl)
  room : ∃ t, m "room" = some (.int room t)
  step : ∃ t, m "step" = some (.int step t)
  many : ∃ t, m "many" = some (.int vs.length t)
  lx : LsAt h l vs
  zx : ∃ vz, LsAt h zl vz ∧ IntsAre vz Z
  ex : Ext h₀ h
theorem LInv.nt {room : Int} {step : Nat} {Z : List Int} (x : LInv h₀ l zl vs room step h m Z) (y : Ext h₀ hs) (K : Nt hs h h') : LInv h₀ l zl vs room step h' m Z :=
  ⟨x.raws, x.least, x.room, x.step, x.many, x.lx.nt K, (let ⟨vz, a, b⟩ := x.zx; ⟨vz, a.nt K, b⟩), x.ex.nt y K⟩
theorem LInv.ext {room : Int} {step : Nat} {Z : List Int} (x : LInv h₀ l zl vs room step h m Z) (K : Ext h h') : LInv h₀ l zl vs room step h' m Z :=
  ⟨x.raws, x.least, x.room, x.step, x.many, x.lx.ext K, (let ⟨vz, a, b⟩ := x.zx; ⟨vz, a.ext K, b⟩), x.ex.trans K⟩
theorem LInv.loc {room : Int} {step : Nat} {Z : List Int} (x : LInv h₀ l zl vs room step h m Z) (F : Fm hb L h m) (hL : h₀.get? L = none) (K : Heap.ExtBut L h h') : LInv h₀ l zl vs room step h' m Z :=
  ⟨x.raws, x.least, x.room, x.step, x.many, x.lx.but K (F.neL x.lx), (let ⟨vz, a, b⟩ := x.zx; ⟨vz, a.but K (F.neL a), b⟩), x.ex.loc hL K⟩
/-- another name stored -/
theorem LInv.put {room : Int} {step : Nat} {Z : List Int} {y : Str} {v : Value} (x : LInv h₀ l zl vs room step h m Z) (h1 : "raws" ≠ y) (h2 : "least" ≠ y) (h3 : "room" ≠ y) (h4 : "step" ≠ y) (h5 : "many" ≠ y) :
    LInv h₀ l zl vs room step h (fun z => if z = y then some v else m z) Z :=
  ⟨(if_neg h1).trans x.raws, (if_neg h2).trans x.least, (let ⟨t, e⟩ := x.room; ⟨t, (if_neg h3).trans e⟩), (let ⟨t, e⟩ := x.step; ⟨t, (if_neg h4).trans e⟩), (let ⟨t, e⟩ := x.many; ⟨t, (if_neg h5).trans e⟩), x.lx, x.zx, x.ex⟩
/-- an item of the table stored -/
theorem LInv.set {room : Int} {step : Nat} {Z : List Int} {j : Nat} {v : Int} {t : Tok} {vz : List Value} (x : LInv h₀ l zl vs room step h m Z) (hz : LsAt h zl vz) (hi : IntsAre vz Z) (hn : h₀.get? zl = none) (hlz : l ≠ zl)
    (y : LsAt h' zl (vz.set j (.int v t))) (K : Heap.ExtBut zl h h') : LInv h₀ l zl vs room step h' m (Z.set j v) :=
  ⟨x.raws, x.least, x.room, x.step, x.many, x.lx.but K hlz, ⟨_, y, PySem.W.ints_set hi j⟩, x.ex.loc hn K⟩

theorem least_turn {room : Int} {step first : Nat} {Z : List Int} {u : Int} {j : Nat} {tf te tu : Tok} (G : Glo mg mb hb) (H11 : FnAt mg hb 11 f) (R : Rm 1 A) (hc : ∀ v ∈ vs, Cell v) (hn : vs.length ≤ 4096) (hs : step ≤ 1024) (hz : h₀.get? zl = none) (hlz : l ≠ zl) (hL : h₀.get? L = none)
    (hb0 : Ext hb h₀) (hj : first + j < vs.length) (x : LInv h₀ l zl vs room step h m Z) (hZ : Z.length = vs.length) (hf : m "first" = some (.int first tf)) (hu : m "used" = some (.int u tu)) (he : m "end" = some (.int ((first : Int) + 1 + j) te)) (F : Fm hb L h m) {cd : Value} {Q : Flow → Shared → Prop}
    (k : ∀ h₂ m₂ tk₂ tf tu, Fm hb L h₂ m₂ → LInv h₀ l zl vs room step h₂ m₂ (inStep cst room step vs first (u, Z) j).2 → m₂ "first" = some (.int first tf) → m₂ "used" = some (.int (inStep cst room step vs first (u, Z) j).1 tu) → Kp [] h h₂ → Q .next ⟨h₂, g, d, tk₂, os⟩) :
    wpAny (Md w) A (execs (forBd ((forBd ((bd 13).getD 2 (.Pass default))).getD 2 (.Pass default))) (En 13 L a cd)) Q (fun _ _ => False) ⟨h, g, d, tk, os⟩ := by
  obtain ⟨tr, hr⟩ := x.room
  obtain ⟨ts, hst⟩ := x.step
  obtain ⟨tm, hm⟩ := x.many
  have hl := x.least
  have hw := x.raws
  have hv : vs[first + j]? = some vs[first + j] := List.getElem?_eq_getElem hj
  have hcv : Cell vs[first + j] := hc _ (List.getElem_mem hj)
  have ec : (vs[first + j]?.map cst).getD 0 = cst vs[first + j] := by rw [hv]; rfl
  generalize vs[first + j] = v at hv hcv ec
  have hbz : hb.get? zl = none := hb0.gone hz
  refine wpAny_execs_cons ?_
  repeat' walk_at "z"
  refine n_glob F.keep G H11.name ?_
  refine c_def H11 ?_
  repeat' walk_at "z"
  refine x.lx.item (by omega) (by omega) (by rw [show ((first : Int) + 1 + j - 1).toNat = first + j by omega]; exact hv) ?_
  repeat' walk_at "z"
  refine ⟨F.keep, lcost_spec G H11 F.keep R hcv ?_⟩
  intro h₁ tk₁ t₁ K₁
  have F₁ := F.ext K₁
  repeat' walk_at "z"
  refine st F₁ ?_
  intro h₂ tk₂ F₂ K₂
  have x₂ := fun y : Value => ((x.ext K₁).loc F₁ hL K₂).put (y := "used") (v := y) (by decide) (by decide) (by decide) (by decide) (by decide)
  have Kz : Kp [] h h₂ := (Kp.ext K₁).trans (Kp.loc F₁ K₂ noKs)
  have e1 : (inStep cst room step vs first (u, Z) j).1 = u + cst v := by unfold inStep; rw [ec]
  have e2 : (inStep cst room step vs first (u, Z) j).2 = if u + cst v ≤ room ∨ j = 0 then (if first + 1 + j = vs.length then Z.set first 1 else if first + 1 + j + step < vs.length then Z.set first (min (Z.getD first 0) (1 + Z.getD (first + 1 + j + step) 0)) else Z) else Z := by
    unfold inStep; rw [ec]
  rw [e1, e2] at k
  refine wpAny_execs_cons (wpAny_If (wpAny_mono (Q := fun b s' => b = decide (u + cst v ≤ room ∨ j = 0) ∧ ∃ tk, s' = (⟨h₂, g, d, tk, os⟩ : Shared)) ?_ ?_ fun _ _ z => z))
  · repeat' walk_at "z"
    by_cases h1 : u + cst v ≤ room
    · exact if_t (decide_eq_true h1) ⟨by simp [h1], _, rfl⟩
    · refine if_f (decide_eq_false h1) ?_
      repeat' walk_at "z"
      by_cases h2 : j = 0
      · exact if_t (by simp [h2]) ⟨by simp [h2], _, rfl⟩
      · refine if_f (by simp; omega) ?_
        repeat' walk_at "z"
        exact ⟨by simp [h1, h2], _, rfl⟩
  · rintro _ _ ⟨rfl, tk₃, rfl⟩
    by_cases hc' : u + cst v ≤ room ∨ j = 0
    · rw [if_pos hc'] at k
      refine if_t (decide_eq_true hc') ?_
      refine wpAny_execs_cons ?_
      obtain ⟨vz, zx, zi⟩ := (x₂ .none).zx
      have zl' : vz.length = vs.length := by rw [zi.length, hZ]
      repeat' walk_at "z"
      by_cases h3 : first + 1 + j = vs.length
      · rw [if_pos h3] at k
        refine if_t (by simp; omega) ?_
        repeat' walk_at "z"
        refine s_set zx (by omega) (by omega) (by omega) ?_
        intro h₃ z₃ K₃
        have F₃ := F₂.but K₃ (fun z => (F₂.neL zx) z.symm) hbz
        rw [Int.toNat_natCast] at z₃
        repeat' walk_at "z"
        exact k h₃ _ _ _ _ F₃ ((x₂ _).set zx zi hz hlz z₃ K₃) (by walk_at "lk") (by walk_at "lk") (Kz.trans (Kp.lst zx K₃ noKs))
      · rw [if_neg h3] at k
        refine if_f (by simp; omega) ?_
        refine wpAny_execs_cons ?_
        repeat' walk_at "z"
        by_cases h4 : first + 1 + j + step < vs.length
        · rw [if_pos h4] at k
          refine if_t (decide_eq_true (by omega)) ?_
          obtain ⟨ta, ha⟩ := IntsAre.at zi (j := first) (by omega)
          obtain ⟨tb, hb'⟩ := IntsAre.at zi (j := first + 1 + j + step) (by omega)
          have ga : Z.getD first 0 = Z[first]'(by omega) := by rw [List.getD_eq_getElem?_getD, List.getElem?_eq_getElem (by omega)]; rfl
          have gb : Z.getD (first + 1 + j + step) 0 = Z[first + 1 + j + step]'(by omega) := by rw [List.getD_eq_getElem?_getD, List.getElem?_eq_getElem (by omega)]; rfl
          rw [← ga] at ha
          rw [← gb] at hb'
          repeat' walk_at "z"
          refine zx.item (by omega) (by omega) (by rw [Int.toNat_natCast]; exact ha) ?_
          repeat' walk_at "z"
          refine zx.item (by omega) (by omega) (by rw [show ((first : Int) + 1 + j + step).toNat = first + 1 + j + step by omega]; exact hb') ?_
          repeat' walk_at "z"
          rename_i h₄ tk₄ t₄ K₄
          have F₄ := F₂.ext K₄
          repeat' walk_at "z"
          refine s_set (zx.ext K₄) (by omega) (by omega) (by omega) ?_
          intro h₅ z₅ K₅
          have F₅ := F₄.but K₅ (fun z => (F₂.neL zx) z.symm) hbz
          rw [Int.toNat_natCast] at z₅
          repeat' walk_at "z"
          exact k h₅ _ _ _ _ F₅ (((x₂ _).ext K₄).set (zx.ext K₄) zi hz hlz z₅ K₅) (by walk_at "lk") (by walk_at "lk") ((Kz.trans (Kp.ext K₄)).trans (Kp.lst (zx.ext K₄) K₅ noKs))
        · rw [if_neg h4] at k
          refine if_f (decide_eq_false (by omega)) ?_
          repeat' walk_at "z"
          exact k h₂ _ _ _ _ F₂ (x₂ _) (by walk_at "lk") (by walk_at "lk") Kz
    · rw [if_neg hc'] at k
      refine if_f (decide_eq_false hc') ?_
      repeat' walk_at "z"
      exact k h₂ _ _ _ _ F₂ (x₂ _) (by walk_at "lk") (by walk_at "lk") Kz

theorem inStep_len (c : Value → Int) (room : Int) (step : Nat) (xs : List Value) (first : Nat) (s : Int × List Int) (j : Nat) : (inStep c room step xs first s j).2.length = s.2.length := by
  unfold inStep; dsimp only; split <;> (try split) <;> (try split) <;> simp
theorem inSt_len (c : Value → Int) (room : Int) (step : Nat) (xs : List Value) (first : Nat) (Z : List Int) (k : Nat) : (inSt c room step xs first Z k).2.length = Z.length := by
  induction k with
  | zero => simp [inSt]
  | succ k ih => rw [inSt_succ, inStep_len, ih]
theorem outSt_len (c : Value → Int) (room : Int) (step : Nat) (xs : List Value) (k : Nat) : (outSt c room step xs k).length = xs.length := by
  induction k with
  | zero => simp [outSt]
  | succ k ih => rw [outSt_succ, inSt_len, ih]
theorem ints_rep (n : Nat) (t : Tok) : IntsAre (List.replicate n (.int 0 t)) (List.replicate n 0) := by
  induction n with
  | zero => exact .nil
  | succ n ih => exact .cons 0 t ih

/-- _law_least -/
theorem least_spec {room : Int} {step : Nat} {tr ts : Tok} {Q : Value → Shared → Prop} (G : Glo mg mb hb) (H : FnAt mg hb 13 f) (K : Ext hb h) (R : Rm 2 A) (lx : LsAt h l vs) (hc : ∀ v ∈ vs, Cell v) (hz : vs.length ≤ 4096) (hpos : 0 < vs.length) (hs : step ≤ 1024)
    (k : ∀ h' tk t, Ext h h' → Q (.int (leastOf cst room step vs) t) ⟨h', g, d, tk, os⟩) :
    wpAny (Md w) A (call (.ref f) [.ref l, .int room tr, .int step ts]) Q E ⟨h, g, d, tk, os⟩ := by
  refine callFn (binds := [("raws", .ref l), ("room", .int room tr), ("step", .int step ts)]) G H K R ?b ?c ?l ?o ?g ?k ?_
  case b => intro doc pm an cd ct; kernel_rfl!
  case c => decide
  case l => exact locs rfl
  case o => rfl
  case g => rfl
  case k => rfl
  intro L cd h₁ tk₁ F K₁ hL R'
  obtain ⟨f11, H11⟩ := G.fn 11 (by decide)
  refine wpAny_execs_cons ?_
  repeat' walk_at "z"
  refine z_len (lx.ext K₁) (by omega) ?_
  intro t₂ tk₂
  refine st F ?_
  intro h₂ tk₂ F₂ K₂
  have nlL : l ≠ L := lx.ne hL
  have l₂ := (lx.ext K₁).but K₂ nlL
  have E₂ : Ext h h₂ := K₁.loc hL K₂
  repeat' walk_at "z"
  refine n_list ?_
  intro h₃ z0 K₃ hz0 lz0
  have F₃ := F₂.ext K₃
  repeat' walk_at "z"
  refine c_rep lz0 (by omega) (by omega) ?_
  intro h₄ zl K₄ hzl lzl
  rw [Int.toNat_natCast] at lzl
  have F₄ := F₃.ext K₄
  refine st F₄ ?_
  intro h₅ tk₅ F₅ K₅
  repeat' walk_at "z"
  have E₄ : Ext h h₄ := (E₂.trans K₃).trans K₄
  have hzl0 : h.get? zl = none := (E₂.trans K₃).gone hzl
  have hlz : l ≠ zl := (l₂.ext K₃).ne hzl
  have E₅ : Ext h h₅ := E₄.loc hL K₅
  have l₅ := ((l₂.ext K₃).ext K₄).but K₅ nlL
  have z₅ := lzl.but K₅ (F₄.neL lzl)
  refine wpAny_For ?_
  repeat' walk_at "z"
  refine c_range2 ?_
  intro h₆ r t6 u6 v6 tk₆ K₆ hr
  have F₆ := F₅.ext K₆
  refine for_range (fun i h' m' => LInv h l zl vs room step h' m' (outSt cst room step vs i)) R'.hh F₆ hr (by decide) (by decide) (by omega) (by omega) ?_ ?_ ?_ ?_ ?_
  · exact ⟨by walk_at "lk", by walk_at "lk", ⟨_, by walk_at "lk"⟩, ⟨_, by walk_at "lk"⟩, ⟨_, by walk_at "lk"⟩, l₅.ext K₆, ⟨_, z₅.ext K₆, ints_rep _ _⟩, E₅.trans K₆⟩
  · intro i h' h'' m' x N
    exact x.nt (E₅.trans K₆) N
  · intro i h' h'' m' x F N
    exact x.loc F hL N
  · intro i t h' m' tk' hi x F'
    have hi' : i < vs.length := by omega
    have hZ := outSt_len cst room step vs i
    obtain ⟨tm, hm⟩ := x.many
    have hl := x.least
    rw [outSt_succ]
    have hbz : hb.get? zl = none := K.gone hzl0
    refine wpAny_execs_cons ?_
    repeat' walk_at "z"
    have ef : (vs.length : Int) - (1 + (i : Int)) = ((vs.length - (i + 1) : Nat) : Int) := by omega
    rw [ef]
    have hfi : vs.length - (i + 1) + (i + 1) = vs.length := by omega
    generalize vs.length - (i + 1) = first at hfi
    refine n_tuple ?_
    intro h₇ T K₇ hT lT
    have F₇ := F'.ext K₇
    refine c_unpack R'.hh lT rfl ?_
    intro h₈ K₈
    have F₈ := F₇.ext K₈
    repeat' walk_at "z"
    refine st F₈ ?_
    intro h₉ tk₉ F₉ K₉
    repeat' walk_at "z"
    refine st F₉ ?_
    intro h₁₀ tk₁₀ F₁₀ K₁₀
    repeat' walk_at "z"
    have x₇ := fun v => ((x.put (y := "back") (v := v) (by decide) (by decide) (by decide) (by decide) (by decide)).ext K₇).ext K₈
    have x₈ := fun v => ((x₇ _).loc F₈ hL K₉).put (y := "used") (v := v) (by decide) (by decide) (by decide) (by decide) (by decide)
    have x₉ := fun v => ((x₈ _).loc F₉ hL K₁₀).put (y := "first") (v := v) (by decide) (by decide) (by decide) (by decide) (by decide)
    obtain ⟨vz, zx, zi⟩ := (x₉ .none).zx
    have zl' : vz.length = vs.length := by rw [zi.length, hZ]
    refine s_set zx (by omega) (by omega) (by omega) ?_
    intro h₁₁ z₁₁ K₁₁
    have F₁₁ := F₁₀.but K₁₁ (fun z => (F₁₀.neL zx) z.symm) hbz
    rw [Int.toNat_natCast] at z₁₁
    have x₁₁ := fun v => (x₉ v).set zx zi hzl0 hlz z₁₁ K₁₁
    have Kz : Kp [] h' h₁₁ := ((((Kp.ext K₇).trans (Kp.ext K₈)).trans (Kp.loc F₈ K₉ noKs)).trans (Kp.loc F₉ K₁₀ noKs)).trans (Kp.lst zx K₁₁ noKs)
    repeat' walk_at "z"
    refine wpAny_For ?_
    repeat' walk_at "z"
    refine c_range2 ?_
    intro h₁₂ r' t12 u12 v12 tk₁₂ K₁₂ hr'
    have F₁₂ := F₁₁.ext K₁₂
    have Kz' := Kz.trans (Kp.ext (ks := []) K₁₂)
    refine for_range (fun j h'' m'' => LInv h l zl vs room step h'' m'' (inSt cst room step vs first (outSt cst room step vs i) j).2 ∧ (∃ t, m'' "first" = some (.int first t)) ∧ (∃ t, m'' "used" = some (.int (inSt cst room step vs first (outSt cst room step vs i) j).1 t)) ∧ Kp [] h' h'')
      R'.hh F₁₂ hr' (by omega) (by omega) (by omega) (by omega) ?_ ?_ ?_ ?_ ?_
    · exact ⟨(x₁₁ _).ext K₁₂, ⟨_, by walk_at "lk"⟩, ⟨_, by walk_at "lk"⟩, Kz'⟩
    · rintro j h1 h2 m'' ⟨y1, y2, y3, y4⟩ N
      exact ⟨y1.nt ((x₁₁ .none).ex.trans K₁₂) N, y2, y3, y4.nt Kz' N⟩
    · rintro j h1 h2 m'' ⟨y1, y2, y3, y4⟩ F N
      exact ⟨y1.loc F hL N, y2, y3, y4.trans (Kp.loc F N noKs)⟩
    · rintro j t h1 m'' tk'' hj ⟨y1, ⟨tf, y2⟩, ⟨tu, y3⟩, y4⟩ F1
      have hlen := inSt_len cst room step vs first (outSt cst room step vs i) j
      rw [hZ] at hlen
      rw [inSt_succ]
      generalize inSt cst room step vs first (outSt cst room step vs i) j = su at y1 y3 hlen
      obtain ⟨u, Z'⟩ := su
      refine least_turn (first := first) (j := j) (tf := tf) (tu := tu) G H11 (R'.le (by omega)) hc hz hs hzl0 hlz hL K (by omega) (y1.put (y := "end") (by decide) (by decide) (by decide) (by decide) (by decide)) hlen (by walk_at "lk") (by walk_at "lk") (by walk_at "lk") F1 ?_
      intro h2 m2 tk2 tf' tu' F2 w1 w2 w3 w4
      exact ⟨h2, m2, tk2, rfl, F2, ⟨w1, ⟨_, w2⟩, ⟨_, w3⟩, y4.trans w4⟩, w4⟩
    · rintro h1 m'' tk'' ⟨y1, y2, y3, y4⟩ F1
      rw [show ((vs.length : Int) + 1 - ((first : Int) + 1)).toNat = i + 1 by omega] at y1
      exact wpAny_execs_nil ⟨h1, m'', tk'', rfl, F1, y1, y4⟩
  · intro h' m' tk' x F'
    have hl := x.least
    obtain ⟨vz, zx, zi⟩ := x.zx
    rw [show ((vs.length : Int) + 1 - 1).toNat = vs.length by omega] at zi
    have hZ := outSt_len cst room step vs vs.length
    repeat' walk_at "z"
    obtain ⟨ta, ha⟩ := IntsAre.at zi (j := 0) (by omega)
    have ga : leastOf cst room step vs = (outSt cst room step vs vs.length)[0]'(by omega) := by
      unfold leastOf; rw [List.getD_eq_getElem?_getD, List.getElem?_eq_getElem (by omega)]; rfl
    rw [← ga] at ha
    refine zx.item (by decide) (by decide) ha ?_
    exact k _ _ _ x.ex
end

local macro_rules | `(tactic| walk_at "z") => `(tactic| first
  | ((with_reducible show ite (false = true) _ _); refine if_f rfl ?_)
  | ((with_reducible show ite (true = true) _ _); refine if_t rfl ?_))
section
variable {mg mb : Str → Option Value} {hb h h' h₀ hs : Heap} {w : World} {A : Around} {E : Value → Shared → Prop} {g : Array GenState} {d : Drawn} {tk : Nat} {os : OsState} {i n : Nat} {f L a b e l sa P : Addr} {m : Str → Option Value} {env : Env} {vs ws : List Value}

theorem add_ls {Q : Value → Shared → Prop} (x : LsAt h a vs) (y : LsAt h b ws) (hz : vs.length + ws.length ≤ 65536) (k : ∀ h' c, Ext h h' → h.get? c = none → LsAt h' c (vs ++ ws) → Q (.ref c) ⟨h', g, d, tk, os⟩) :
    wpAny (Md w) A (binaryOp .Add (.ref a) (.ref b)) Q E ⟨h, g, d, tk, os⟩ := by
  obtain ⟨n, e⟩ := x
  obtain ⟨n2, e2⟩ := y
  refine PySem.P.add_list e e2 ?_ (by simp [sizeLine_eq]; omega)
  have t : vs.toArray ++ ws.toArray = (vs ++ ws).toArray := by simp
  rw [t]
  exact k _ _ (Ext.push h _) (Heap.get?_none_of_le (Nat.le_refl _)) (LsAt.new h _)
/-- a slice -/
theorem sl_end {vl vu : Value} {lo hi : Option Int} {value slice : Expr} {Q : Value → Shared → Prop} (x : LsAt h l vs) (hz : vs.length ≤ 65536) (pl : IsPart vl lo) (pu : IsPart vu hi) (e : slicePick vs.toArray lo hi none = ws.toArray)
    (k : ∀ h' c, Ext h h' → h.get? c = none → LsAt h' c ws → Q (.ref c) ⟨h', g, d, tk, os⟩)
    (hs : subscripted slice false (.ref l) (.ref h.objs.size) = operate [.ref h.objs.size, .ref l] (getItem (.ref l) (.ref h.objs.size)) := by with_unfolding_all rfl) :
    wpAny (Md w) A (subscriptTail value slice (.ref l) (.ref h.objs.size)) Q E ⟨h.push { cls := .type "slice", data := .fields #[vl, vu, .none] }, g, d, tk, os⟩ := by
  have hl := x.isList.push { cls := .type "slice", data := .fields #[vl, vu, .none] }
  refine tail_any (s := ⟨h.push { cls := .type "slice", data := .fields #[vl, vu, .none] }, g, d, tk, os⟩) hl.typeIs slot_list_getitem.lookup (wpAny_getItem_list_slice hl (Heap.IsSliceOf.new ..) pl pu .none (by simp) ?_ (by simp [sizeLine_eq]; omega)) hs
  rw [e]
  dsimp only
  refine k _ _ ((Ext.push h _).trans (Ext.push _ _)) (Heap.get?_none_of_le (by rw [Heap.size_push]; exact Nat.le_succ _)) (LsAt.new _ ws)
theorem sl_first (vs : List Value) : slicePick vs.toArray none (some 1) none = (vs.take 1).toArray := slicePick_upto' vs.toArray 1
theorem sl_one (vs : List Value) (k : Nat) : slicePick vs.toArray (some (k : Int)) (some ((k : Int) + 1)) none = ((vs.drop k).take 1).toArray := by
  rw [slicePick_plain]
  simp only [Option.elim]
  rw [show ((k : Int) + 1) = ((k + 1 : Nat) : Int) by omega, clipAt_nat, clipAt_nat]
  congr 1
  simp only [List.size_toArray]
  rcases Nat.lt_or_ge k vs.length with q | q
  · rw [Nat.min_eq_left (by omega), Nat.min_eq_left (by omega), show k + 1 - k = 1 by omega]
  · rw [Nat.min_eq_right q, Nat.min_eq_right (by omega), List.drop_length, List.drop_of_length_le q]; simp

/-- the invariant of the two checks: what is told, with the pages as they are -/
structure TInv (h₀ : Heap) (l P : Addr) (qs : List Addr) (Ps : List (List Value)) (vs : List Value) (room : Int) (h : Heap) (m : Str → Option Value) (told : List Value) : Prop where
  raws : m "raws" = some (.ref l)
  pages : m "pages" = some (.ref P)
  room : ∃ t, m "room" = some (.int room t)
  told : ∃ t, m "told" = some (.ref t) ∧ LsAt h t told
  lx : LsAt h l vs
  px : LsAt h P (qs.map .ref)
  ls : Lists h qs Ps
  ex : Ext h₀ h
section
variable {qs : List Addr} {Ps : List (List Value)} {room : Int} {told told' : List Value}
theorem TInv.ext (x : TInv h₀ l P qs Ps vs room h m told) (K : Ext h h') : TInv h₀ l P qs Ps vs room h' m told :=
  ⟨x.raws, x.pages, x.room, (let ⟨t, e, y⟩ := x.told; ⟨t, e, y.ext K⟩), x.lx.ext K, x.px.ext K, x.ls.ext K, x.ex.trans K⟩
theorem TInv.nt (x : TInv h₀ l P qs Ps vs room h m told) (y : Ext h₀ hs) (K : Nt hs h h') : TInv h₀ l P qs Ps vs room h' m told :=
  ⟨x.raws, x.pages, x.room, (let ⟨t, e, y⟩ := x.told; ⟨t, e, y.nt K⟩), x.lx.nt K, x.px.nt K, x.ls.nt K, x.ex.nt y K⟩
theorem TInv.loc (x : TInv h₀ l P qs Ps vs room h m told) (F : Fm hb L h m) (hL : h₀.get? L = none) (K : Heap.ExtBut L h h') : TInv h₀ l P qs Ps vs room h' m told :=
  ⟨x.raws, x.pages, x.room, (let ⟨t, e, y⟩ := x.told; ⟨t, e, y.but K (F.neL y)⟩), x.lx.but K (F.neL x.lx), x.px.but K (F.neL x.px), x.ls.but K (x.ls.notL F), x.ex.loc hL K⟩
theorem TInv.put {y : Str} {v : Value} (x : TInv h₀ l P qs Ps vs room h m told) (h1 : "raws" ≠ y) (h2 : "pages" ≠ y) (h3 : "room" ≠ y) (h4 : "told" ≠ y) :
    TInv h₀ l P qs Ps vs room h (fun z => if z = y then some v else m z) told :=
  ⟨(if_neg h1).trans x.raws, (if_neg h2).trans x.pages, (let ⟨t, e⟩ := x.room; ⟨t, (if_neg h3).trans e⟩), (let ⟨t, e, z⟩ := x.told; ⟨t, (if_neg h4).trans e, z⟩), x.lx, x.px, x.ls, x.ex⟩
theorem TInv.tell {t : Addr} (x : TInv h₀ l P qs Ps vs room h m told) (y : LsAt h t told') :
    TInv h₀ l P qs Ps vs room h (fun z => if z = "told" then some (.ref t) else m z) told' :=
  ⟨(if_neg (by decide)).trans x.raws, (if_neg (by decide)).trans x.pages, (let ⟨t, e⟩ := x.room; ⟨t, (if_neg (by decide)).trans e⟩), ⟨t, if_pos rfl, y⟩, x.lx, x.px, x.ls, x.ex⟩
end

/-- _law_rows_right -/
theorem rr_spec {room : Int} {tr : Tok} {Q : Value → Shared → Prop} (G : Glo mg mb hb) (H : FnAt mg hb 14 f) (K : Ext hb h) (R : Rm 3 A) (lx : LsAt h l vs) (hc : ∀ v ∈ vs, Cell v) (hz : vs.length ≤ 4096)
    (k : ∀ h' tk, Ext h h' → Q (.bool true) ⟨h', g, d, tk, os⟩) :
    wpAny (Md w) A (call (.ref f) [.ref l, .int room tr]) Q E ⟨h, g, d, tk, os⟩ := by
  refine callFn (binds := [("raws", .ref l), ("room", .int room tr)]) G H K R ?b ?c ?l ?o ?g ?k ?_
  case b => intro doc pm an cd ct; kernel_rfl!
  case c => decide
  case l => exact locs rfl
  case o => rfl
  case g => rfl
  case k => rfl
  intro L cd h₁ tk₁ F K₁ hL R'
  obtain ⟨f5, H5⟩ := G.fn 5 (by decide)
  obtain ⟨f12, H12⟩ := G.fn 12 (by decide)
  obtain ⟨f13, H13⟩ := G.fn 13 (by decide)
  have lc0 : ∀ x, 0 ≤ cst x := fun x => by unfold cst; split <;> omega
  have nlL : l ≠ L := lx.ne hL
  refine wpAny_execs_cons ?_
  repeat' walk_at "z"
  refine n_glob F.keep G H5.name ?_
  refine c_def H5 ?_
  repeat' walk_at "z"
  refine ⟨F.keep, rows_spec G H5 F.keep R' (lx.ext K₁) hc hz ?_⟩
  intro h₂ tk₂ P qs K₂ hP lP ls
  have F₂ := F.ext K₂
  refine st F₂ ?_
  intro h₃ tk₃ F₃ K₃
  have l₃ := ((lx.ext K₁).ext K₂).but K₃ nlL
  have p₃ := lP.but K₃ (F₂.neL lP)
  have s₃ := ls.but K₃ (ls.notL F₂)
  have E₃ : Ext h h₃ := (K₁.trans K₂).loc hL K₃
  refine wpAny_execs_cons ?_
  repeat' walk_at "z"
  refine n_list ?_
  intro h₄ e₄ K₄ he₄ le₄
  have F₄ := F₃.ext K₄
  refine eq_nil (l₃.ext K₄) le₄ R'.units ?_
  repeat' walk_at "z"
  by_cases h0 : vs.length = 0
  · refine if_t (by simp [h0]) ?_
    have : vs = [] := List.length_eq_zero_iff.mp h0
    subst this
    rw [rows_nil] at s₃
    repeat' walk_at "z"
    refine n_list ?_
    intro h₅ e₅ K₅ he₅ le₅
    repeat' walk_at "z"
    refine n_list ?_
    intro h₆ e₆ K₆ he₆ le₆
    refine eq_lists (bs := [e₅]) (ps := [[]]) (((p₃.ext K₄).ext K₅).ext K₆) le₆ (((s₃.ext K₄).ext K₅).ext K₆) (.cons (le₅.ext K₆) .nil) R'.units1 ?_
    exact k _ _ (((E₃.trans K₄).trans K₅).trans K₆)
  · refine if_f (by simpa using h0) ?_
    repeat' walk_at "z"
    refine n_list ?_
    intro h₅ t₅ K₅ ht₅ lt₅
    have F₅ := F₄.ext K₅
    refine st F₅ ?_
    intro h₆ tk₆ F₆ K₆
    repeat' walk_at "z"
    refine wpAny_For ?_
    repeat' walk_at "z"
    have p₆ := ((p₃.ext K₄).ext K₅).but K₆ (F₅.neL ((p₃.ext K₄).ext K₅))
    obtain ⟨RO, RF⟩ := rows_ok (c := cst) (room := room) vs h0
    have RL := rows_length (c := cst) (room := room) vs
    have RG := gr_le (c := cst) (room := room) (step := 0) vs 0 false
    have LO := leastOf_zero (c := cst) (room := room) lc0 vs h0
    have sub : ∀ {i p}, (rows cst room vs)[i]? = some p → ∀ v ∈ p, v ∈ vs := fun hp v hv => by
      rw [← RF]; exact List.mem_flatten.mpr ⟨_, List.mem_of_getElem? hp, hv⟩
    have leng : ∀ {i p}, (rows cst room vs)[i]? = some p → List.length p ≤ 4096 := fun hp => by
      have := (List.sublist_flatten_of_mem (List.mem_of_getElem? hp)).length_le
      rw [RF] at this
      omega
    have s₆ := ((s₃.ext K₄).ext K₅).but K₆ (((s₃.ext K₄).ext K₅).notL F₅)
    have t₆ := lt₅.but K₆ (F₅.neL lt₅)
    have l₆ := ((l₃.ext K₄).ext K₅).but K₆ nlL
    have E₆ : Ext h h₆ := ((E₃.trans K₄).trans K₅).loc hL K₆
    have two : ∀ {i p q}, (rows cst room vs)[i]? = some p → (rows cst room vs)[i + 1]? = some q → List.length p + List.length q ≤ 4096 := fun {i p q} hp hq => by
      obtain ⟨a1, a2⟩ := List.getElem?_eq_some_iff.mp hp
      obtain ⟨b1, b2⟩ := List.getElem?_eq_some_iff.mp hq
      have e : (rows cst room vs).drop i = p :: q :: (rows cst room vs).drop (i + 1 + 1) := by
        rw [List.drop_eq_getElem_cons a1, List.drop_eq_getElem_cons b1, a2, b2]
      have := congrArg List.length RF
      rw [← List.take_append_drop i (rows cst room vs), List.flatten_append, e] at this
      simp only [List.length_append, List.flatten_cons] at this
      omega
    have RL' : ((rows cst room vs).length : Int) = leastOf cst room 0 vs := by rw [LO, RL]; omega
    generalize rows cst room vs = Ps at *
    have qlen := s₆.length
    refine z_len p₆ (by simp; omega) ?_
    intro t₇ tk₇
    repeat' walk_at "z"
    refine c_range1 ?_
    intro h₇ r t8 u8 v8 tk₈ K₇ hr
    have F₇ := F₆.ext K₇
    simp only [List.length_map] at hr
    refine for_range (fun i h' m' => ∃ told, TInv h l P qs Ps vs room h' m' told ∧ told ++ (Ps.drop i).flatten = vs) R'.hh F₇ hr (by decide) (by decide) (by omega) (by omega) ?_ ?_ ?_ ?_ ?_
    · exact ⟨[], ⟨by walk_at "lk", by walk_at "lk", ⟨_, by walk_at "lk"⟩, ⟨_, by walk_at "lk", t₆.ext K₇⟩, l₆.ext K₇, p₆.ext K₇, s₆.ext K₇, E₆.trans K₇⟩, by simpa using RF⟩
    · rintro i h' h'' m' ⟨told, x, e⟩ N
      exact ⟨told, x.nt (E₆.trans K₇) N, e⟩
    · rintro i h' h'' m' ⟨told, x, e⟩ F N
      exact ⟨told, x.loc F hL N, e⟩
    · rintro i t h' m' tk' hi ⟨told, x, e⟩ F'
      have hi' : i < Ps.length := by omega
      rw [Int.zero_add] at F'
      obtain ⟨pa, ga, la⟩ := x.ls.get hi'
      have gp : Ps[i]? = some Ps[i] := List.getElem?_eq_getElem hi'
      have dp : Ps.drop i = Ps[i] :: Ps.drop (i + 1) := List.drop_eq_getElem_cons hi'
      generalize Ps[i] = p at la gp dp
      have hpg := x.pages
      obtain ⟨trr, hrm⟩ := x.room
      obtain ⟨ta, htold, lta⟩ := x.told
      have lp := leng gp
      refine wpAny_execs_cons ?_
      repeat' walk_at "z"
      refine x.px.item (by omega) (by omega) (v := .ref pa) (by simp [ga]) ?_
      refine st F' ?_
      intro h₈ tk₈ F₈ K₈
      have x₈ := fun v => (((x.put (y := "at") (v := (.int i t)) (by decide) (by decide) (by decide) (by decide)).loc F' hL K₈).put (y := "page") (v := v) (by decide) (by decide) (by decide) (by decide))
      have la₈ := la.but K₈ (F'.neL la)
      have lt₈ := lta.but K₈ (F'.neL lta)
      have Kz : Kp [] h' h₈ := Kp.loc F' K₈ noKs
      refine wpAny_execs_cons (wpAny_If (wpAny_mono (Q := fun b s' => b = false ∧ ∃ h' tk, s' = (⟨h', g, d, tk, os⟩ : Shared) ∧ Ext h₈ h') ?_ ?_ fun _ _ z => z))
      · repeat' walk_at "z"
        refine n_list ?_
        intro h₉ e₉ K₉ he₉ le₉
        have F₉ := F₈.ext K₉
        refine eq_nil (la₈.ext K₉) le₉ R'.units ?_
        repeat' walk_at "z"
        refine if_f (by simpa using RO.ne gp) ?_
        repeat' walk_at "z"
        refine z_len (la₈.ext K₉) (by omega) ?_
        intro _ _
        repeat' walk_at "z"
        by_cases h1 : 1 < p.length
        · refine if_t (by simp; omega) ?_
          repeat' walk_at "z"
          refine n_glob F₉.keep G H12.name ?_
          refine c_def H12 ?_
          repeat' walk_at "z"
          refine ⟨F₉.keep, lcosts_spec G H12 F₉.keep R' (la₈.ext K₉) (fun v hv => hc v (sub gp v hv)) lp ?_⟩
          intro h₁₀ tk₁₀ t₁₀ K₁₀
          have F₁₀ := F₉.ext K₁₀
          repeat' walk_at "z"
          refine if_f (decide_eq_false (by have := RO.fit gp h1; omega)) ?_
          repeat' walk_at "z"
          exact ⟨rfl, _, _, rfl, K₉.trans K₁₀⟩
        · refine if_f (by simp; omega) ?_
          repeat' walk_at "z"
          exact ⟨rfl, _, _, rfl, K₉⟩
      · rintro _ _ ⟨rfl, h₉, tk₉, rfl, K₉⟩
        have F₉ := F₈.ext K₉
        refine if_f rfl (wpAny_execs_nil ?_)
        have x₉ := (x₈ (.ref pa)).ext K₉
        have la₉ := la₈.ext K₉
        refine wpAny_execs_cons (wpAny_If (wpAny_mono (Q := fun b s' => b = false ∧ ∃ h' tk, s' = (⟨h', g, d, tk, os⟩ : Shared) ∧ Ext h₉ h') ?_ ?_ fun _ _ z => z))
        · repeat' walk_at "z"
          refine z_len x₉.px (by simp; omega) ?_
          intro t₁₀ tk₁₀
          repeat' walk_at "z"
          by_cases h1 : i + 1 < Ps.length
          · refine if_t (by simp; omega) ?_
            obtain ⟨pb, gb, lb⟩ := x₉.ls.get h1
            have gq : Ps[i + 1]? = some Ps[i + 1] := List.getElem?_eq_getElem h1
            generalize Ps[i + 1] = q at lb gq
            have lq := leng gq
            repeat' walk_at "z"
            refine n_glob F₉.keep G H12.name ?_
            refine c_def H12 ?_
            repeat' walk_at "z"
            refine x₉.px.item (by omega) (by omega) (v := .ref pb) (by rw [show ((i : Int) + 1).toNat = i + 1 by omega]; simp [gb]) ?_
            repeat' walk_at "z"
            refine sl_end lb (by omega) .none (.int _ _) (sl_first q) ?_
            intro h₁₀ c₁₀ K₁₀ hc₁₀ lc₁₀
            have F₁₀ := F₉.ext K₁₀
            refine add_ls (la₉.ext K₁₀) lc₁₀ (by simp; omega) ?_
            intro h₁₁ c₁₁ K₁₁ hc₁₁ lc₁₁
            have F₁₁ := F₁₀.ext K₁₁
            repeat' walk_at "z"
            refine ⟨F₁₁.keep, lcosts_spec G H12 F₁₁.keep R' lc₁₁ (fun v hv => ?_) ?_ ?_⟩
            · rcases List.mem_append.mp hv with hv | hv
              · exact hc v (sub gp v hv)
              · exact hc v (sub gq v (List.mem_of_mem_take hv))
            · have := two gp gq
              simp
              omega
            intro h₁₂ tk₁₂ t₁₂ K₁₂
            have F₁₂ := F₁₁.ext K₁₂
            repeat' walk_at "z"
            refine if_f (decide_eq_false (by have := RO.nxt gp gq; omega)) ?_
            repeat' walk_at "z"
            exact ⟨rfl, _, _, rfl, (K₁₀.trans K₁₁).trans K₁₂⟩
          · refine if_f (by simp; omega) ?_
            repeat' walk_at "z"
            exact ⟨rfl, _, _, rfl, Ext.refl _⟩
        · rintro _ _ ⟨rfl, h₁₀, tk₁₀, rfl, K₁₀⟩
          have F₁₀ := F₉.ext K₁₀
          refine if_f rfl (wpAny_execs_nil ?_)
          have la₁₀ := la₉.ext K₁₀
          obtain ⟨ta', htold', lta'⟩ := (x₉.ext K₁₀).told
          repeat' walk_at "z"
          refine add_ls lta' la₁₀ ?_ ?_
          · have := congrArg List.length e
            rw [dp] at this
            simp only [List.length_append, List.flatten_cons] at this
            omega
          intro h₁₁ c₁₁ K₁₁ hc₁₁ lc₁₁
          have F₁₁ := F₁₀.ext K₁₁
          have x₁₁ := (x₉.ext K₁₀).ext K₁₁
          refine st F₁₁ ?_
          intro h₁₂ tk₁₂ F₁₂ K₁₂
          repeat' walk_at "z"
          have x₁₂ := (x₁₁.loc F₁₁ hL K₁₂).tell (lc₁₁.but K₁₂ (F₁₁.neL lc₁₁))
          refine ⟨h₁₂, _, _, rfl, F₁₂, ⟨_, x₁₂, ?_⟩, (((Kz.trans (Kp.ext K₉)).trans (Kp.ext K₁₀)).trans (Kp.ext K₁₁)).trans (Kp.loc F₁₁ K₁₂ noKs)⟩
          rw [← e, dp]
          simp
    · rintro h' m' tk' ⟨told, x, e⟩ F'
      rw [show ((qs.length : Int) - 0).toNat = Ps.length by omega, List.drop_length] at e
      have e' : told = vs := by simpa using e
      subst e'
      obtain ⟨t, hn, ht⟩ := x.told
      have hw := x.raws
      have hp := x.pages
      obtain ⟨tr', hrm⟩ := x.room
      repeat' walk_at "z"
      refine eq_same ht x.lx R'.units ?_
      repeat' walk_at "z"
      refine z_len x.px (by simp; omega) ?_
      intro t₈ tk₈
      repeat' walk_at "z"
      refine n_glob F'.keep G H13.name ?_
      refine c_def H13 ?_
      repeat' walk_at "z"
      refine ⟨F'.keep, least_spec (step := 0) G H13 F'.keep R' x.lx hc hz (by omega) (by decide) ?_⟩
      intro h₉ tk₉ t₉ K₉
      repeat' walk_at "z"
      rw [show (((qs.map Value.ref).length : Int) == leastOf cst room 0 told) = true by simp; omega]
      exact k _ _ (x.ex.trans K₉)
end

section
variable {mg mb : Str → Option Value} {hb h h' h₀ hs : Heap} {w : World} {A : Around} {E : Value → Shared → Prop} {g : Array GenState} {d : Drawn} {tk : Nat} {os : OsState} {i n : Nat} {f L a b e l sa P M : Addr} {m : Str → Option Value} {env : Env} {vs ws : List Value}

/-- the state within a turn of _law_between_right -/
structure BTurn (hb h₀ hs : Heap) (L l P M pa ma : Addr) (qs : List Addr) (Ps : List (List Value)) (vs mids p mid told : List Value) (room : Int) (i : Nat) (h : Heap) (m : Str → Option Value) : Prop where
  fm : Fm hb L h m
  t : TInv h₀ l P qs Ps vs room h m told
  at' : ∃ t, m "at" = some (.int i t)
  mi : m "middles" = some (.ref M)
  mx : LsAt h M mids
  pg : m "page" = some (.ref pa)
  px : LsAt h pa p
  md : m "middle" = some (.ref ma)
  dx : LsAt h ma mid
  kp : Kp [] hs h
section
variable {pa ma : Addr} {qs : List Addr} {Ps : List (List Value)} {vs mids p mid told : List Value} {room : Int}
theorem BTurn.ext (x : BTurn hb h₀ hs L l P M pa ma qs Ps vs mids p mid told room i h m) (K : Ext h h') : BTurn hb h₀ hs L l P M pa ma qs Ps vs mids p mid told room i h' m :=
  ⟨x.fm.ext K, x.t.ext K, x.at', x.mi, x.mx.ext K, x.pg, x.px.ext K, x.md, x.dx.ext K, x.kp.trans (Kp.ext K)⟩
end

/-- the second check of a turn -/
theorem br_second {pa ma f12 : Addr} {qs : List Addr} {Ps : List (List Value)} {mids p mid told : List Value} {room : Int} {cd : Value} (G : Glo mg mb hb) (H12 : FnAt mg hb 12 f12) (R : Rm 2 A) (hc : ∀ v ∈ vs, Cell v) (hz : vs.length ≤ 4096) (hL : h₀.get? L = none)
    (hPl : Ps.length ≤ 8192) (B : BetwOk cst room Ps mids) (gp : Ps[i]? = some p) (em : mid = (mids.drop i).take 1) (e : told ++ mixd (Ps.drop i) (mids.drop i) = vs)
    (x : BTurn hb h₀ hs L l P M pa ma qs Ps vs mids p mid told room i h m) :
    wpAny (Md w) A (exec ((forBd ((bd 15).getD 4 (.Pass default))).getD 2 (.Pass default)) (En 15 L f cd))
      (fun fl s' => fl = .next ∧ ∃ h₂ m₂ tk₂, s' = (⟨h₂, g, d, tk₂, os⟩ : Shared) ∧ BTurn hb h₀ hs L l P M pa ma qs Ps vs mids p mid told room i h₂ m₂) (fun _ _ => False) ⟨h, g, d, tk, os⟩ := by
  have F := x.fm
  have pg := x.pg
  have md := x.md
  obtain ⟨ta, hat⟩ := x.at'
  have hpg := x.t.pages
  obtain ⟨trr, hrm⟩ := x.t.room
  have qlen := x.t.ls.length
  have hi : i < Ps.length := (List.getElem?_eq_some_iff.mp gp).1
  have dp : Ps.drop i = p :: Ps.drop (i + 1) := by
    rw [List.drop_eq_getElem_cons hi, (List.getElem?_eq_some_iff.mp gp).2]
  have elen := congrArg List.length e
  rw [dp] at e elen
  simp only [mixd, ← em, List.length_append] at elen
  have cp : ∀ v ∈ p, Cell v := fun v hv => hc v (by rw [← e]; simp [mixd, hv])
  have cm : ∀ v ∈ mid, Cell v := fun v hv => hc v (by rw [← e]; simp only [mixd, ← em]; simp [hv])
  refine wpAny_If ?_
  repeat' walk_at "z"
  refine n_list ?_
  intro h₁ e₁ K₁ he₁ le₁
  have x₁ := x.ext K₁
  have F₁ := x₁.fm
  refine ne_nil x₁.dx le₁ R.units ?_
  repeat' walk_at "z"
  by_cases h0 : mid.length = 0
  · refine if_f (by simp [h0]) ?_
    repeat' walk_at "z"
    exact ⟨rfl, _, _, _, rfl, x₁⟩
  · refine if_t (by simpa using h0) ?_
    have hml : i < mids.length := by
      rw [em] at h0
      simp only [List.length_take, List.length_drop] at h0
      omega
    have gm : mids[i]? = some mids[i] := List.getElem?_eq_getElem hml
    have emid : mid = [mids[i]] := by rw [em, List.drop_eq_getElem_cons hml]; rfl
    generalize mids[i] = mm at gm emid
    have hq : i + 1 < Ps.length := by have := B.len; omega
    obtain ⟨pb, gb, lb⟩ := x.t.ls.get hq
    have gq : Ps[i + 1]? = some Ps[i + 1] := List.getElem?_eq_getElem hq
    have dq : Ps.drop (i + 1) = Ps[i + 1] :: Ps.drop (i + 1 + 1) := List.drop_eq_getElem_cons hq
    generalize Ps[i + 1] = q at lb gq dq
    rw [dq] at e elen
    simp only [mixd, List.length_append] at elen
    have cq : ∀ v ∈ q, Cell v := fun v hv => hc v (by rw [← e]; simp [mixd, hv])
    repeat' walk_at "z"
    refine n_glob F₁.keep G H12.name ?_
    refine c_def H12 ?_
    repeat' walk_at "z"
    refine add_ls x₁.px x₁.dx (by omega) ?_
    intro h₂ c₂ K₂ hc₂ lc₂
    have x₂ := x₁.ext K₂
    have F₂ := x₂.fm
    repeat' walk_at "z"
    refine ⟨F₂.keep, lcosts_spec G H12 F₂.keep R lc₂ (fun v hv => (List.mem_append.mp hv).elim (cp v) (cm v)) (by simp; omega) ?_⟩
    intro h₃ tk₃ t₃ K₃
    have x₃ := x₂.ext K₃
    have F₃ := x₃.fm
    repeat' walk_at "z"
    by_cases h1 : ((p ++ mid).map cst).sum ≤ room
    · refine if_t (decide_eq_true h1) ?_
      obtain ⟨b1, b2, b3⟩ := B.nxt gp gm gq (by rw [← emid]; exact h1)
      repeat' walk_at "z"
      refine x₃.t.px.item (by omega) (by omega) (v := .ref pb) (by rw [show ((i : Int) + 1).toNat = i + 1 by omega]; simp [gb]) ?_
      refine st F₃ ?_
      intro h₄ tk₄ F₄ K₄
      have lb₃ := ((lb.ext K₁).ext K₂).ext K₃
      have lb₄ := lb₃.but K₄ (F₃.neL lb₃)
      have x₄ : BTurn hb h₀ hs L l P M pa ma qs Ps vs mids p mid told room i h₄ (fun z => if z = "behind" then some (.ref pb) else m z) :=
        ⟨F₄, (x₃.t.loc F₃ hL K₄).put (by decide) (by decide) (by decide) (by decide), ⟨ta, (if_neg (by decide)).trans hat⟩, (if_neg (by decide)).trans x.mi, x₃.mx.but K₄ (F₃.neL x₃.mx),
          (if_neg (by decide)).trans pg, x₃.px.but K₄ (F₃.neL x₃.px), (if_neg (by decide)).trans md, x₃.dx.but K₄ (F₃.neL x₃.dx), x₃.kp.trans (Kp.loc F₃ K₄ noKs)⟩
      repeat' walk_at "z"
      refine z_len x₄.t.px (by simp; omega) ?_
      intro t₅ tk₅
      repeat' walk_at "z"
      refine if_f (by simp; omega) ?_
      repeat' walk_at "z"
      refine z_len lb₄ (by omega) ?_
      intro t₆ tk₆
      repeat' walk_at "z"
      refine if_f (by simp [b2]) ?_
      repeat' walk_at "z"
      refine n_glob F₄.keep G H12.name ?_
      refine c_def H12 ?_
      repeat' walk_at "z"
      refine add_ls x₄.px x₄.dx (by omega) ?_
      intro h₅ c₅ K₅ hc₅ lc₅
      have x₅ := x₄.ext K₅
      have F₅ := x₅.fm
      repeat' walk_at "z"
      refine add_ls lc₅ (lb₄.ext K₅) (by simp; omega) ?_
      intro h₆ c₆ K₆ hc₆ lc₆
      have x₆ := x₅.ext K₆
      have F₆ := x₆.fm
      repeat' walk_at "z"
      refine ⟨F₆.keep, lcosts_spec G H12 F₆.keep R lc₆ (fun v hv => (List.mem_append.mp hv).elim (fun hv => (List.mem_append.mp hv).elim (cp v) (cm v)) (cq v)) (by simp; omega) ?_⟩
      intro h₇ tk₇ t₇ K₇
      have x₇ := x₆.ext K₇
      have F₇ := x₇.fm
      repeat' walk_at "z"
      refine if_f (decide_eq_false (by rw [emid]; omega)) ?_
      repeat' walk_at "z"
      exact ⟨rfl, _, _, _, rfl, x₇⟩
    · refine if_f (decide_eq_false h1) ?_
      repeat' walk_at "z"
      exact ⟨rfl, _, _, _, rfl, x₃⟩

/-- _law_between_right -/
theorem br_spec {room : Int} {tr : Tok} {Q : Value → Shared → Prop} (G : Glo mg mb hb) (H : FnAt mg hb 15 f) (K : Ext hb h) (R : Rm 3 A) (lx : LsAt h l vs) (hc : ∀ v ∈ vs, Cell v) (hz : vs.length ≤ 4096)
    (hr0 : 0 ≤ room) (hh : ∀ v ∈ vs, 2 * cst v ≤ room) (k : ∀ h' tk, Ext h h' → Q (.bool true) ⟨h', g, d, tk, os⟩) :
    wpAny (Md w) A (call (.ref f) [.ref l, .int room tr]) Q E ⟨h, g, d, tk, os⟩ := by
  refine callFn (binds := [("raws", .ref l), ("room", .int room tr)]) G H K R ?b ?c ?l ?o ?g ?k ?_
  case b => intro doc pm an cd ct; kernel_rfl!
  case c => decide
  case l => exact locs rfl
  case o => rfl
  case g => rfl
  case k => rfl
  intro L cd h₁ tk₁ F K₁ hL R'
  obtain ⟨f6, H6⟩ := G.fn 6 (by decide)
  obtain ⟨f12, H12⟩ := G.fn 12 (by decide)
  obtain ⟨f13, H13⟩ := G.fn 13 (by decide)
  have lc0 : ∀ x, 0 ≤ cst x := fun x => by unfold cst; split <;> omega
  have nlL : l ≠ L := lx.ne hL
  refine wpAny_execs_cons ?_
  repeat' walk_at "z"
  refine n_glob F.keep G H6.name ?_
  refine c_def H6 ?_
  repeat' walk_at "z"
  refine ⟨F.keep, betw_spec G H6 F.keep R' (lx.ext K₁) hc hz ?_⟩
  intro h₂ tk₂ T P M qs K₂ hT lP ls lM
  refine c_assignTup R'.hh hT ?_
  intro h₃ K₃
  have F₃ := (F.ext K₂).ext K₃
  repeat' walk_at "z"
  refine st F₃ ?_
  intro h₄ tk₄ F₄ K₄
  repeat' walk_at "z"
  refine st F₄ ?_
  intro h₅ tk₅ F₅ K₅
  have nM4 := F₃.neL (lM.ext K₃)
  have l₅ := ((((lx.ext K₁).ext K₂).ext K₃).but K₄ nlL).but K₅ nlL
  have p₄ := (lP.ext K₃).but K₄ (F₃.neL (lP.ext K₃))
  have p₅ := p₄.but K₅ (F₄.neL p₄)
  have s₄ := (ls.ext K₃).but K₄ ((ls.ext K₃).notL F₃)
  have s₅ := s₄.but K₅ (s₄.notL F₄)
  have M₄ := (lM.ext K₃).but K₄ (F₃.neL (lM.ext K₃))
  have M₅ := M₄.but K₅ (F₄.neL M₄)
  have E₅ : Ext h h₅ := (((K₁.trans K₂).trans K₃).loc hL K₄).loc hL K₅
  repeat' walk_at "z"
  refine n_list ?_
  intro h₆ e₆ K₆ he₆ le₆
  have F₆ := F₅.ext K₆
  refine eq_nil (l₅.ext K₆) le₆ R'.units ?_
  repeat' walk_at "z"
  by_cases h0 : vs.length = 0
  · refine if_t (by simp [h0]) ?_
    have : vs = [] := List.length_eq_zero_iff.mp h0
    subst this
    rw [betw_nil] at s₅ M₅
    repeat' walk_at "z"
    refine n_list ?_
    intro h₇ e₇ K₇ he₇ le₇
    repeat' walk_at "z"
    refine n_list ?_
    intro h₈ e₈ K₈ he₈ le₈
    have F₈ := (F₆.ext K₇).ext K₈
    refine eq_lists (bs := [e₇]) (ps := [[]]) (((p₅.ext K₆).ext K₇).ext K₈) le₈ (((s₅.ext K₆).ext K₇).ext K₈) (.cons (le₇.ext K₈) .nil) R'.units1 ?_
    repeat' walk_at "z"
    refine n_list ?_
    intro h₉ e₉ K₉ he₉ le₉
    refine eq_nil ((((M₅.ext K₆).ext K₇).ext K₈).ext K₉) le₉ R'.units ?_
    exact k _ _ ((((E₅.trans K₆).trans K₇).trans K₈).trans K₉)
  · refine if_f (by simpa using h0) ?_
    repeat' walk_at "z"
    refine n_list ?_
    intro h₇ t₇ K₇ ht₇ lt₇
    have F₇ := F₆.ext K₇
    refine st F₇ ?_
    intro h₈ tk₈ F₈ K₈
    have toL : ∀ {a ws}, LsAt h₅ a ws → LsAt h₈ a ws := fun x => ((x.ext K₆).ext K₇).but K₈ (F₇.neL ((x.ext K₆).ext K₇))
    obtain ⟨BO, BF⟩ := betw_ok (c := cst) (room := room) hr0 vs h0 hh lc0
    have BL := betw_length (c := cst) (room := room) vs
    have BG := gr_le (c := cst) (room := room) (step := 1) vs 0 false
    have LO := leastOf_one (c := cst) (room := room) lc0 vs h0 hh
    have BL' : ((betw cst room vs).1.length : Int) = leastOf cst room 1 vs := by rw [LO, BL]; omega
    have blen := BO.len
    have l₈ := toL l₅
    have p₈ := toL p₅
    have s₈ := ((s₅.ext K₆).ext K₇).but K₈ (((s₅.ext K₆).ext K₇).notL F₇)
    have M₈ := toL M₅
    have t₈ := lt₇.but K₈ (F₇.neL lt₇)
    have E₈ : Ext h h₈ := ((E₅.trans K₆).trans K₇).loc hL K₈
    generalize (betw cst room vs).1 = Ps at *
    generalize (betw cst room vs).2 = mids at *
    have qlen := s₈.length
    repeat' walk_at "z"
    refine z_len M₈ (by omega) ?_
    intro t₉ tk₉
    repeat' walk_at "z"
    refine z_len p₈ (by simp; omega) ?_
    intro t₁₀ tk₁₀
    repeat' walk_at "z"
    refine if_f (by simp; omega) ?_
    repeat' walk_at "z"
    refine wpAny_For ?_
    repeat' walk_at "z"
    refine z_len p₈ (by simp; omega) ?_
    intro t₁₁ tk₁₁
    repeat' walk_at "z"
    refine c_range1 ?_
    intro h₉ r t12 u12 v12 tk₁₂ K₉ hr
    have F₉ := F₈.ext K₉
    simp only [List.length_map] at hr
    refine for_range (fun i h' m' => ∃ told, TInv h l P qs Ps vs room h' m' told ∧ m' "middles" = some (.ref M) ∧ LsAt h' M mids ∧ told ++ mixd (Ps.drop i) (mids.drop i) = vs) R'.hh F₉ hr (by decide) (by decide) (by omega) (by omega) ?_ ?_ ?_ ?_ ?_
    · exact ⟨[], ⟨by walk_at "lk", by walk_at "lk", ⟨_, by walk_at "lk"⟩, ⟨_, by walk_at "lk", t₈.ext K₉⟩, l₈.ext K₉, p₈.ext K₉, s₈.ext K₉, E₈.trans K₉⟩, by walk_at "lk", M₈.ext K₉, by simpa using BF⟩
    · rintro i h' h'' m' ⟨told, x, y, z, e⟩ N
      exact ⟨told, x.nt (E₈.trans K₉) N, y, z.nt N, e⟩
    · rintro i h' h'' m' ⟨told, x, y, z, e⟩ F N
      exact ⟨told, x.loc F hL N, y, z.but N (F.neL z), e⟩
    · rintro i t h' m' tk' hi ⟨told, x, y, z, e⟩ F'
      have hi' : i < Ps.length := by omega
      rw [Int.zero_add] at F'
      obtain ⟨pa, ga, la⟩ := x.ls.get hi'
      have gp : Ps[i]? = some Ps[i] := List.getElem?_eq_getElem hi'
      have dp : Ps.drop i = Ps[i] :: Ps.drop (i + 1) := List.drop_eq_getElem_cons hi'
      generalize Ps[i] = p at la gp dp
      have hpg := x.pages
      obtain ⟨trr, hrm⟩ := x.room
      obtain ⟨ta, htold, lta⟩ := x.told
      have elen := congrArg List.length e
      rw [dp] at elen
      simp only [mixd, List.length_append] at elen
      have cp : ∀ v ∈ p, Cell v := fun v hv => hc v (by rw [← e, dp]; simp [mixd, hv])
      refine wpAny_execs_cons ?_
      repeat' walk_at "z"
      refine x.px.item (by omega) (by omega) (v := .ref pa) (by simp [ga]) ?_
      repeat' walk_at "z"
      refine sl_end z (by omega) (.int _ _) (.int _ _) (sl_one mids i) ?_
      intro h₁₀ ma K₁₀ hma lma
      have F₁₀ := F'.ext K₁₀
      repeat' walk_at "z"
      refine n_tuple ?_
      intro h₁₁ T₁₁ K₁₁ hT₁₁ lT₁₁
      refine c_unpack R'.hh lT₁₁ rfl ?_
      intro h₁₂ K₁₂
      have F₁₂ := (F₁₀.ext K₁₁).ext K₁₂
      have KK := (K₁₀.trans K₁₁).trans K₁₂
      repeat' walk_at "z"
      refine st F₁₂ ?_
      intro h₁₃ tk₁₃ F₁₃ K₁₃
      repeat' walk_at "z"
      refine st F₁₃ ?_
      intro h₁₄ tk₁₄ F₁₄ K₁₄
      have toL : ∀ {a ws}, LsAt h₁₂ a ws → LsAt h₁₄ a ws := fun x => (x.but K₁₃ (F₁₂.neL x)).but K₁₄ (F₁₃.neL (x.but K₁₃ (F₁₂.neL x)))
      have x₁₄ : BTurn hb h h' L l P M pa ma qs Ps vs mids p ((mids.drop i).take 1) told room i h₁₄ (fun z => if z = "page" then some (.ref pa) else if z = "middle" then some (.ref ma) else if z = "at" then some (.int i t) else m' z) :=
        ⟨F₁₄, ((((x.put (y := "at") (v := (.int i t)) (by decide) (by decide) (by decide) (by decide)).ext KK).loc F₁₂ hL K₁₃).put (y := "middle") (v := (.ref ma)) (by decide) (by decide) (by decide) (by decide) |>.loc F₁₃ hL K₁₄).put (by decide) (by decide) (by decide) (by decide),
          ⟨t, by walk_at "lk"⟩, by walk_at "lk", toL (z.ext KK), by walk_at "lk", toL (la.ext KK), by walk_at "lk", toL ((lma.ext K₁₁).ext K₁₂), ((Kp.ext KK).trans (Kp.loc F₁₂ K₁₃ noKs)).trans (Kp.loc F₁₃ K₁₄ noKs)⟩
      walk_at "z"
      refine wpAny_execs_cons (wpAny_If (wpAny_mono (Q := fun b s' => b = false ∧ ∃ h' tk, s' = (⟨h', g, d, tk, os⟩ : Shared) ∧ Ext h₁₄ h') ?_ ?_ fun _ _ z => z))
      · repeat' walk_at "z"
        refine n_list ?_
        intro h₁₅ e₁₅ K₁₅ he₁₅ le₁₅
        have F₁₅ := F₁₄.ext K₁₅
        refine eq_nil (x₁₄.px.ext K₁₅) le₁₅ R'.units ?_
        repeat' walk_at "z"
        refine if_f (by simpa using BO.ne gp) ?_
        repeat' walk_at "z"
        refine n_glob F₁₅.keep G H12.name ?_
        refine c_def H12 ?_
        repeat' walk_at "z"
        refine ⟨F₁₅.keep, lcosts_spec G H12 F₁₅.keep R' (x₁₄.px.ext K₁₅) cp (by omega) ?_⟩
        intro h₁₆ tk₁₆ t₁₆ K₁₆
        have F₁₆ := F₁₅.ext K₁₆
        repeat' walk_at "z"
        refine if_f (decide_eq_false (by have := BO.fit gp; omega)) ?_
        repeat' walk_at "z"
        exact ⟨rfl, _, _, rfl, K₁₅.trans K₁₆⟩
      · rintro _ _ ⟨rfl, h₁₅, tk₁₅, rfl, K₁₅⟩
        refine if_f rfl (wpAny_execs_nil ?_)
        refine wpAny_execs_cons (wpAny_mono (br_second G H12 R' hc hz hL (by omega) BO gp rfl e (x₁₄.ext K₁₅)) (fun fl s' hm => ?_) fun _ _ z => z)
        obtain ⟨rfl, h₁₆, m₁₆, tk₁₆, rfl, x₁₆⟩ := hm
        have F₁₆ := x₁₆.fm
        obtain ⟨tb, htb, ltb⟩ := x₁₆.t.told
        have pg := x₁₆.pg
        have md := x₁₆.md
        repeat' walk_at "z"
        refine add_ls ltb x₁₆.px (by omega) ?_
        intro h₁₇ c₁₇ K₁₇ hc₁₇ lc₁₇
        have x₁₇ := x₁₆.ext K₁₇
        have F₁₇ := x₁₇.fm
        repeat' walk_at "z"
        refine add_ls lc₁₇ x₁₇.dx (by simp only [List.length_append]; omega) ?_
        intro h₁₈ c₁₈ K₁₈ hc₁₈ lc₁₈
        have x₁₈ := x₁₇.ext K₁₈
        have F₁₈ := x₁₈.fm
        refine st F₁₈ ?_
        intro h₁₉ tk₁₉ F₁₉ K₁₉
        repeat' walk_at "z"
        refine ⟨h₁₉, _, _, rfl, F₁₉, ⟨_, (x₁₈.t.loc F₁₈ hL K₁₉).tell (lc₁₈.but K₁₉ (F₁₈.neL lc₁₈)), (if_neg (by decide)).trans x₁₈.mi, x₁₈.mx.but K₁₉ (F₁₈.neL x₁₈.mx), ?_⟩, x₁₈.kp.trans (Kp.loc F₁₈ K₁₉ noKs)⟩
        rw [← e, dp]
        simp [mixd]
    · rintro h' m' tk' ⟨told, x, y, z, e⟩ F'
      rw [show ((qs.length : Int) - 0).toNat = Ps.length by omega, List.drop_length] at e
      have e' : told = vs := by simpa [mixd] using e
      subst e'
      obtain ⟨t, hn, ht⟩ := x.told
      have hw := x.raws
      have hp := x.pages
      obtain ⟨tr', hrm⟩ := x.room
      repeat' walk_at "z"
      refine eq_same ht x.lx R'.units ?_
      repeat' walk_at "z"
      refine z_len x.px (by simp; omega) ?_
      intro t₁₀ tk₁₀
      repeat' walk_at "z"
      refine n_glob F'.keep G H13.name ?_
      refine c_def H13 ?_
      repeat' walk_at "z"
      refine ⟨F'.keep, least_spec (step := 1) G H13 F'.keep R' x.lx hc hz (by omega) (by decide) ?_⟩
      intro h₁₀ tk₁₀ t₁₀ K₁₀
      repeat' walk_at "z"
      rw [show (((qs.map Value.ref).length : Int) == leastOf cst room 1 told) = true by simp; omega]
      exact k _ _ (x.ex.trans K₁₀)
end

section
variable {mg mb : Str → Option Value} {hb h h' h₀ hs : Heap} {w : World} {A : Around} {E : Value → Shared → Prop} {g : Array GenState} {d : Drawn} {tk : Nat} {os : OsState} {i n : Nat} {f L a b e l sa P M : Addr} {m : Str → Option Value} {env : Env} {vs ws : List Value}

/-- a comprehension's loop whose turns change one list, sa -/
theorem comp_sa {elt iter : Expr} {x : Str} {px : Pos} {scope : Scope} {pos : Pos} {I D C : Addr} {fp : List Addr} {n : Nat} {P : Nat → Value → Prop} {St : Nat → Heap → Prop} {cenv : Env} {R : Result → Shared → Prop} (T : Value → Prop)
    (W : Walks Prg w A I fp [I] n P St) (hC : cenv.locals = C) (hx : cenv.kindOf x = some .local) (hp : (cenv.scope.kind == .class || (cenv.scope.kind == .module && cenv.locals != cenv.globals)) = false)
    (hDC : D ≠ C) (hDf : D ∉ fp) (hCf : C ∉ fp) (hsC : sa ≠ C) (hsD : sa ≠ D) (hsf : sa ∉ fp)
    (hst : St 0 h) (hacc : h.PlainList D #[]) (hn : h.Ns C m) (S : Src h sa) (hsz : n ≤ 4096)
    (helt : ∀ i v h₂ m₂ tk₂, i < n → P i v → h₂.Ns C m₂ → m₂ x = some v → Src h₂ sa → (∀ b o, b ≠ C → b ≠ I → b ≠ D → b ≠ sa → h.get? b = some o → h₂.get? b = some o) →
      wpAny (Md w) A (eval elt cenv) (fun y s₃ => T y ∧ ∃ h₃ tk₃, s₃ = (⟨h₃, g, d, tk₃, os⟩ : Shared) ∧ Heap.ExtBut sa h₂ h₃ ∧ Src h₃ sa) (fun _ _ => False) ⟨h₂, g, d, tk₂, os⟩)
    (hR : ∀ h' tk m' ys, h'.Ns C m' → h'.PlainList D ys → ys.size = n → (∀ y ∈ ys.toList, T y) → Src h' sa → (∀ b o, b ≠ C → b ≠ I → b ≠ D → b ≠ sa → h.get? b = some o → h'.get? b = some o) → R (.ok .next) ⟨h', g, d, tk, os⟩) :
    codeAny (Md w) A (.compLoop (.ListComp elt [⟨.Name x px, iter, [], 0⟩] scope pos) 0 (.ref I) (.ref D) cenv) R ⟨h, g, d, tk, os⟩ := by
  subst hC
  have hIf : I ∈ fp := W.sub I (by simp)
  have hCI : cenv.locals ≠ I := fun q => hCf (q ▸ hIf)
  have hDI : D ≠ I := fun q => hDf (q ▸ hIf)
  have hsI : sa ≠ I := fun q => hsf (q ▸ hIf)
  refine codeAny_compLoop_tests (fun k s' => ∃ h' tk' m' ys, s' = (⟨h', g, d, tk', os⟩ : Shared) ∧ St ys.size h' ∧ h'.PlainList D ys ∧ h'.Ns cenv.locals m' ∧ (∀ y ∈ ys.toList, T y) ∧ Src h' sa ∧ ys.size ≤ n ∧ k = n + 1 - ys.size ∧
      (∀ b o, b ≠ cenv.locals → b ≠ I → b ≠ D → b ≠ sa → h.get? b = some o → h'.get? b = some o)) ?_ (n + 1)
    ⟨h, tk, m, #[], rfl, hst, hacc, hn, by simp, S, Nat.zero_le _, rfl, fun _ _ _ _ _ _ e => e⟩
  rintro k s' ⟨H, tk', m', ys, rfl, hst', hacc', hn', hT, hS, hi, rfl, hk⟩
  have one : ∀ b, b ≠ I → b ∉ [I] := fun b q => by simpa using q
  by_cases hlt : ys.size < n
  · refine W.item ys.size _ _ _ hlt hst' fun v h₁ tk₁ hPv hst₁ hk₁ => ?_
    refine wpAny_assign_Name (wpAny_storeName_local hx (hn'.at' fun o e => hk₁ _ o (one _ hCI) e) (fun h₂ hn₂ hs₂ => ?_) hp)
    have st₂ : St (ys.size + 1) h₂ := W.frame _ _ _ hst₁ fun b hb o e => hs₂.extBut b o (fun q => hCf (q ▸ hb)) e
    have up₂ : ∀ b o, b ≠ cenv.locals → b ≠ I → H.get? b = some o → h₂.get? b = some o := fun b o q1 q2 e => hs₂.extBut b o q1 (hk₁ b o (one _ q2) e)
    have S₂ : Src h₂ sa := let ⟨x, y, t, u, ⟨n, e⟩, r⟩ := hS; ⟨x, y, t, u, ⟨n, up₂ _ _ hsC hsI e⟩, r⟩
    refine wpAny_pure ?_
    rw [if_pos rfl]
    refine wpAny_mono (helt ys.size v h₂ _ _ hlt hPv hn₂ (if_pos rfl) S₂ fun b o q1 q2 q3 q4 e => up₂ b o q1 q2 (hk b o q1 q2 q3 q4 e)) (fun y s₃ h₃ => ?_) fun _ _ z => z.elim
    obtain ⟨hy, h₃, tk₃, rfl, K₃, S₃⟩ := h₃
    refine wpAny_list_append_plain (hsz := by simp only [sizeLine_eq]; omega) (hacc'.at fun o e => K₃ _ o hsD.symm (up₂ D o hDC hDI e)) fun h₄ hl₄ hs₄ => ?_
    have up₄ : ∀ b o, b ≠ D → b ≠ sa → h₂.get? b = some o → h₄.get? b = some o := fun b o q1 q2 e => hs₄.extBut b o q1 (K₃ b o q2 e)
    refine ⟨n + 1 - (ys.size + 1), by omega, h₄, _, _, ys.push y, rfl, ?_, hl₄, hn₂.at' fun o e => up₄ _ o hDC.symm hsC.symm e, ?_, ?_, (by rw [Array.size_push]; exact hlt), (by rw [Array.size_push]), fun b o q1 q2 q3 q4 e => up₄ b o q3 q4 (up₂ b o q1 q2 (hk b o q1 q2 q3 q4 e))⟩
    · rw [Array.size_push]
      exact W.frame _ _ h₄ st₂ fun b hb o e => up₄ b o (fun q => hDf (q ▸ hb)) (fun q => hsf (q ▸ hb)) e
    · intro z hz
      simp only [Array.toList_push, List.mem_append, List.mem_singleton] at hz
      rcases hz with hz | rfl
      · exact hT z hz
      · exact hy
    · exact S₃.but hs₄.extBut hsD
  · have hin : ys.size = n := by omega
    refine W.done _ _ _ (hin ▸ hst') fun h₁ tk₁ hk₁ => ?_
    refine hR h₁ tk₁ m' ys (hn'.at' fun o e => hk₁ _ o (one _ hCI) e) (hacc'.at fun o e => hk₁ _ o (one _ hDI) e) hin hT ?_ fun b o q1 q2 q3 q4 e => hk₁ b o (one _ q2) (hk b o q1 q2 q3 q4 e)
    obtain ⟨x, y, t, u, ⟨n, e⟩, r⟩ := hS
    exact ⟨x, y, t, u, ⟨n, hk₁ _ _ (one _ hsI) e⟩, r⟩

/-- a list comprehension over a range, its turns change one list, sa -/
theorem listcomp_sa {elt iter : Expr} {x : Str} {px : Pos} {scope : Scope} {cl : List (Str × Addr)} {pos : Pos} {Q : Value → Shared → Prop} (T : Value → Prop)
    (hclos : closureFor scope env = pure cl) (hcell : ∀ y ∈ scope.names, y.2 ≠ .cell) (hkind : scope.kind = .function)
    (hnames : ∀ y ∈ scope.names, y.2 = .local → scope.names.lookup y.1 = some .local) (hx : scope.names.lookup x = some .local) (hh : A.handled = none)
    (H : wpAny (Md w) A (eval iter env) (fun xv s₁ => ∃ h₁ tk₁ r hi t u v, xv = .ref r ∧ s₁ = (⟨h₁, g, d, tk₁, os⟩ : Shared) ∧ IsRange h₁ r 0 hi 1 t u v ∧ 0 ≤ hi ∧ hi ≤ 4096 ∧ Src h₁ sa ∧
       (∀ C i t h₂ m₂ tk₂, h₁.get? C = none → 0 ≤ i → i < hi → h₂.Ns C m₂ → m₂ x = some (.int i t) → Src h₂ sa → (∀ b o, b ≠ sa → h₁.get? b = some o → h₂.get? b = some o) →
         wpAny (Md w) A (eval elt (compEnvC scope cl C env)) (fun y s₃ => T y ∧ ∃ h₃ tk₃, s₃ = (⟨h₃, g, d, tk₃, os⟩ : Shared) ∧ Heap.ExtBut sa h₂ h₃ ∧ Src h₃ sa) (fun _ _ => False) ⟨h₂, g, d, tk₂, os⟩) ∧
       (∀ D h' tk ys, h₁.get? D = none → LsAt h' D ys → ys.length = hi.toNat → (∀ y ∈ ys, T y) → Src h' sa → Heap.ExtBut sa h₁ h' → Q (.ref D) ⟨h', g, d, tk, os⟩)) E ⟨h, g, d, tk, os⟩)
    (hfs : ∀ x, foldedSetIterable iter env x = pure x := by intro _; rfl) :
    wpAny (Md w) A (eval (.ListComp elt [⟨.Name x px, iter, [], 0⟩] scope pos) env) Q E ⟨h, g, d, tk, os⟩ := by
  rw [eval_ListComp]
  refine wpAny_comprehension_free (use := none) rfl hfs hclos hkind hnames (wpAny_mono H (fun xv s₁ h₁ => ?_) fun _ _ e => e)
  obtain ⟨h₁, tk₁, r, hi, t, u, v, rfl, rfl, hr, h0, h1, S, helt, hQ⟩ := h₁
  refine wpAny_pyIter_range hr (small_one (by decide) (by decide) (by omega) (by omega)) ?_
  have W := Walks.range (prog := Prg) (w := w) hh h₁.objs.size 0 1 (hi - 0).toNat
  have hsz : Builtin.Range.rangeSize 0 hi 1 = ((hi - 0).toNat : Int) := by rw [rangeSize_one]; split <;> omega
  have KI := Ext.push h₁ { cls := .type "range_iterator", data := .fields #[rawInt 0, rawInt (Builtin.Range.rangeSize 0 hi 1), rawInt 1] }
  have hI : IsRangeIter (h₁.push { cls := .type "range_iterator", data := .fields #[rawInt 0, rawInt (Builtin.Range.rangeSize 0 hi 1), rawInt 1] }) h₁.objs.size 0 ((hi - 0).toNat : Int) 1 := by
    show IsRangeIter _ _ _ _ _
    rw [hsz]
    simpa using Heap.get?_push_size _ rfl
  have hIs : (h₁.push { cls := .type "range_iterator", data := .fields #[rawInt 0, rawInt (Builtin.Range.rangeSize 0 hi 1), rawInt 1] }).objs.size = h₁.objs.size + 1 := Heap.size_push ..
  generalize h₁.push { cls := .type "range_iterator", data := .fields #[rawInt 0, rawInt (Builtin.Range.rangeSize 0 hi 1), rawInt 1] } = h₂ at KI hI hIs
  refine wpAny_newObj_type (wpAny_newFunctionEnv hcell (by intro y hy; simp at hy) (fun h₃ hns hsb => ?_) hkind)
  dsimp only at hns hsb ⊢
  generalize hH : h₂.push { cls := .type "list", dict := none, data := .seq ([] : List Value).toArray } = H2 at hns hsb ⊢
  have hC : H2.objs.size = h₁.objs.size + 2 := by rw [← hH, Heap.size_push, hIs]
  have KH : Ext h₂ H2 := hH ▸ Ext.push _ _
  have hD : h₂.objs.size ≠ H2.objs.size := by rw [hC, hIs]; omega
  have up : ∀ b o, h₂.get? b = some o → h₃.get? b = some o := fun b o e => hsb.extBut b o (Nat.ne_of_lt (Nat.lt_of_lt_of_le (Heap.lt_size e) (by rw [hC, hIs]; omega))) (Heap.get?_push_of_some _ (KH b o e))
  have nC : h₁.get? H2.objs.size = none := Heap.get?_none_of_le (by rw [hC]; omega)
  have nD : h₁.get? h₂.objs.size = none := Heap.get?_none_of_le (by rw [hIs]; omega)
  have nI : h₁.get? h₁.objs.size = none := Heap.get?_none_of_le (Nat.le_refl _)
  have hacc : h₃.PlainList h₂.objs.size #[] := ⟨_, hsb.extBut _ _ hD (Heap.get?_push_of_some _ (hH ▸ Heap.get?_push_size _ rfl))⟩
  have ho : ∀ b o, h₁.get? b = some o → b ≠ H2.objs.size ∧ b ≠ h₁.objs.size ∧ b ≠ h₂.objs.size := fun b o e => ⟨ne_of_none e nC, ne_of_none e nI, ne_of_none e nD⟩
  have back : ∀ h', (∀ b o, b ≠ H2.objs.size → b ≠ h₁.objs.size → b ≠ h₂.objs.size → b ≠ sa → h₃.get? b = some o → h'.get? b = some o) → Heap.ExtBut sa h₁ h' := fun h' k b o ne e =>
    k b o (ho b o e).1 (ho b o e).2.1 (ho b o e).2.2 ne (up b o (KI b o e))
  have st₃ : IsRangeIter h₃ h₁.objs.size 0 ((hi - 0).toNat : Int) 1 := up _ _ hI
  have loop : codeAny (Md w) A (.compLoop (.ListComp elt [⟨.Name x px, iter, [], 0⟩] scope pos) 0 (.ref h₁.objs.size) (.ref h₂.objs.size) (compEnvC scope cl H2.objs.size env))
      (compPost (Md w) A E none Q (.ref h₂.objs.size) H2.objs.size) ⟨h₃, g, d, tk₁ + ([] : List (Str × Value)).length, os⟩ := by
    refine comp_sa (sa := sa) (C := H2.objs.size) (n := (hi - 0).toNat) T W rfl (lookup_relabel_local hx) (by simp [compEnvC, relabel, hkind]) hD ?_ ?_ ?_ ?_ ?_ (by simpa using st₃) hacc hns ((S.ext KI).ext up) (by omega) ?_ ?_
    · simp [hIs]
    · simp [hC]
    · exact S.ne nC
    · exact S.ne nD
    · simpa using S.ne nI
    · rintro i v h₄ m₄ tk₄ hlt ⟨t', rfl⟩ hn₄ hm₄ S₄ k₄
      refine helt _ (0 + (i : Int) * 1) t' _ _ _ nC (by omega) (by omega) hn₄ (by simpa using hm₄) S₄ fun b o ne e => back _ k₄ b o ne e
    · intro h' tk m' ys hn' hl hy hT S' k'
      refine ⟨m', hn', fun h'' hs'' => ?_⟩
      have hs' := hs''.extBut
      obtain ⟨n, el⟩ := hl
      refine hQ _ h'' tk ys.toList nD ⟨n, hs' _ _ hD el⟩ (by simpa using hy) hT (S'.but hs' (S.ne nC)) fun b o ne e => hs' b o (ho b o e).1 (back h' k' b o ne e)
  exact codeAny_compStart_list loop (W.self 0 _ _ _ (by simpa using st₃) loop)
end

section
variable {mg mb : Str → Option Value} {hb h h' h₀ hs : Heap} {w : World} {A : Around} {E : Value → Shared → Prop} {g : Array GenState} {d : Drawn} {tk : Nat} {os : OsState} {i n : Nat} {f L a b e l sa P M : Addr} {m : Str → Option Value} {env : Env} {vs ws : List Value}

/-- a name that is a cell -/
theorem n_cell {x : Str} {pos : Pos} {c : Addr} {v : Value} {s : Shared} {Q : Value → Shared → Prop} (hv : s.heap.IsCell c (some v)) (k : Q v s)
    (hk : env.scope.kind = .function := by rfl) (hl : env.kindOf x = some .cell := by rfl) (hc : env.cells.lookup x = some c := by rfl) (hd : (x == ("__debug__" : Str)) = false := by decide) :
    wpAny (Md w) A (eval (.Name x pos) env) Q E s := wpAny_Name (wpAny_loadName_cell hk hl hc hv k) hd
theorem st_any {x : Str} {v : Value} {Q : Unit → Shared → Prop} (F : Fm hb env.locals h m)
    (k : ∀ h' tk, Fm hb env.locals h' (fun y => if y = x then some v else m y) → Heap.ExtBut env.locals h h' → Q () ⟨h', g, d, tk, os⟩)
    (hk : env.scope.kind = .function := by rfl) (hl : env.kindOf x = some .local := by rfl) :
    wpAny (Md w) A (storeName env x v) Q E ⟨h, g, d, tk, os⟩ :=
  wpAny_storeName_local hl F.ns (fun h' hn hs => k h' _ (F.set hn hs.extBut) hs.extBut) (by rw [hk]; rfl)

theorem cell_but {c : Addr} {v : Option Value} (x : h.IsCell c v) (K : Heap.ExtBut a h h') (ne : c ≠ a) : h'.IsCell c v := let ⟨o, e, r⟩ := x; ⟨o, K _ _ ne e, r⟩
/-- a list that is not what is drawn from -/
theorem Src.ne_fresh (x : Src h sa) (hn : h.get? b = none) : b ≠ sa := (x.ne hn).symm
/-- the one expression of a comprehension that a body returns -/
def compElt : Stmt → Expr
  | .Return (some (.ListComp e _ _ _)) _ => e
  | _ => default
/-- a cell of _law_raws -/
theorem raws_elt {top i : Int} {tt t : Tok} {cenv : Env} {c1 c2 : Addr} {h₅ : Heap} {tk₅ : Nat} {m₅ : Str → Option Value} (G : Glo mg mb hb) (R' : Rm 2 A) (S₅ : Src h₅ sa) (hsb : hb.get? sa = none) (h0 : 0 < top) (h1 : top < 4096) (i0 : 0 ≤ i) (i1 : i < 12)
    (F₅ : Fm hb cenv.locals h₅ m₅) (hat : m₅ "at" = some (.int i t)) (I1 : h₅.IsCell c1 (some (.ref sa))) (I2 : h₅.IsCell c2 (some (.int top tt)))
    (hk : cenv.scope.kind = .function) (hla0 : cenv.kindOf "at" = some .local) (hls : cenv.kindOf "source" = some .cell) (hlt : cenv.kindOf "top" = some .cell) (hl9 : cenv.kindOf (nm 9) = some .globalImplicit) (hl10 : cenv.kindOf (nm 10) = some .globalImplicit) (hlb : cenv.kindOf "bytes" = some .globalImplicit)
    (hcs : cenv.cells.lookup (Str.ofString "source") = some c1) (hct : cenv.cells.lookup (Str.ofString "top") = some c2) (hg : cenv.globals = mainGlobals) (hbn : cenv.builtins = builtinsNs) :
    wpAny (Md w) A (eval (compElt ((bd 16).getD 1 (.Pass default))) cenv) (fun y s₃ => (∃ b t, y = .bytes b t ∧ (b.size : Int) ≤ max 4 (top - 1)) ∧ ∃ h₃ tk₃, s₃ = (⟨h₃, g, d, tk₃, os⟩ : Shared) ∧ Heap.ExtBut sa h₅ h₃ ∧ Src h₃ sa) (fun _ _ => False) ⟨h₅, g, d, tk₅, os⟩ := by
  obtain ⟨f9, H9⟩ := G.fn 9 (by decide)
  obtain ⟨f10, H10⟩ := G.fn 10 (by decide)
  have sC : sa ≠ cenv.locals := S₅.neL F₅
  refine Call_ ?_
  refine n_bi F₅.keep G bi_bytes in_bytes ?_ hk hlb hg hbn
  repeat' walk_at "z"
  refine n_locC F₅.ns hat ?_ hk hla0
  repeat' walk_at "z"
  refine n_list ?_
  intro h₆ la K₆ hla lla
  have F₆ := F₅.ext K₆
  have S₆ := S₅.ext K₆
  repeat' walk_at "z"
  refine n_glob F₆.keep G H10.name ?_ hk hl10 hg
  refine c_def H10 ?_
  repeat' walk_at "z"
  refine n_cell (I1.keeps K₆) ?_ hk hls hcs
  repeat' walk_at "z"
  refine n_cell (I2.keeps K₆) ?_ hk hlt hct
  repeat' walk_at "z"
  refine n_glob F₆.keep G H9.name ?_ hk hl9 hg
  refine c_def H9 ?_
  repeat' walk_at "z"
  refine n_cell (I1.keeps K₆) ?_ hk hls hcs
  repeat' walk_at "z"
  refine n_cell (I2.keeps K₆) ?_ hk hlt hct
  repeat' walk_at "z"
  refine ⟨F₆.keep, take_spec G H9 F₆.keep (R'.le (by omega)) S₆ hsb h0 (by omega) ?_⟩
  intro h₇ tk₇ t₇ x K₇ S₇ x0 x1
  have F₇ := F₆.but K₇ sC.symm hsb
  repeat' walk_at "z"
  refine n_list ?_
  intro h₈ lb K₈ hlb llb
  have F₈ := F₇.ext K₈
  have S₈ := S₇.ext K₈
  repeat' walk_at "z"
  refine ⟨F₈.keep, one_spec G H10 F₈.keep R' S₈ hsb llb (S₇.ne hlb).symm (by simp) (by simp) ?_⟩
  intro h₉ tk₉ j v K₉ S₉ hv
  have F₉ := F₈.but K₉ sC.symm hsb
  have hv' : ∃ n t, v = .int n t ∧ 0 ≤ n ∧ n ≤ max 4 (top - 1) := by
    match j, hv with
    | 0, hv => cases hv; exact ⟨_, _, rfl, by omega, by omega⟩
    | 1, hv => cases hv; exact ⟨_, _, rfl, by omega, by omega⟩
    | 2, hv => cases hv; exact ⟨_, _, rfl, by omega, by omega⟩
    | j + 3, hv => cases hv
  obtain ⟨n, tn, rfl, n0, n1⟩ := hv'
  have lane : la ≠ sa := (S₅.ne hla).symm
  have lla₉ := ((lla.but K₇ lane).ext K₈).but K₉ lane
  refine c_rep lla₉ n0 (by omega) ?_
  intro h₁₀ lc K₁₀ hlc llc
  repeat' walk_at "z"
  refine call_bytes_ints (ns := List.replicate n.toNat i) llc.isList ?_ ?_ (by simp [sizeLine_eq]; omega) R'.hh ?_
  · generalize n.toNat = k
    induction k with
    | zero => exact .nil
    | succ k ih => exact .cons i t ih
  · intro y hy
    rw [(List.mem_replicate.mp hy).2]
    omega
  · intro h₁₁ t₁₁ tk₁₁ K₁₁
    refine ⟨⟨_, _, rfl, by rw [byteArr_size, List.length_replicate]; omega⟩, h₁₁, _, rfl, ?_, ((S₉.ext K₁₀).ext K₁₁)⟩
    exact fun b o ne e => K₁₁ b o (K₁₀ b o (K₉ b o ne (K₈ b o (K₇ b o ne (K₆ b o e)))))

/-- _law_raws -/
theorem raws_spec {top : Int} {tt : Tok} {Q : Value → Shared → Prop} (G : Glo mg mb hb) (H : FnAt mg hb 16 f) (K : Ext hb h) (R : Rm 3 A) (S : Src h sa) (hsb : hb.get? sa = none) (h0 : 0 < top) (h1 : top < 4096)
    (k : ∀ h' tk D vs, Heap.ExtBut sa h h' → h.get? D = none → LsAt h' D vs → vs.length ≤ 12 → (∀ v ∈ vs, ∃ b t, v = .bytes b t ∧ (b.size : Int) ≤ max 4 (top - 1)) → Src h' sa → Q (.ref D) ⟨h', g, d, tk, os⟩) :
    wpAny (Md w) A (call (.ref f) [.ref sa, .int top tt]) Q E ⟨h, g, d, tk, os⟩ := by
  obtain ⟨o, doc, pm, an, cd, ct, ho, hd, hc⟩ := H.made
  refine wpAny_call ?_
  refine codeAny_call_cells (fd := fnd 16 doc pm an cd ct) (body := bd 16) (binds := [("source", .ref sa), ("top", .int top tt)]) R.depth (K _ _ ho) hd (G.lim.keeps K) (hc.keeps K) rfl ?b rfl ?kd (fun s₁ X => ?_) rfl rfl rfl
  case b => kernel_rfl!
  case kd =>
    intro x hx
    simp only [List.mem_cons, List.not_mem_nil, or_false] at hx
    rcases hx with rfl | rfl
    · exact .inr ⟨rfl, rfl⟩
    · exact .inr ⟨rfl, rfl⟩
  have hL : h.get? h.objs.size = none := Heap.get?_none_of_le (Nat.le_refl _)
  refine wpAny_mono (Q := fun fl s' => Q (match fl with | .ret v => v | _ => .none) s') (E := fun _ _ => False) ?_ (fun _ _ q => q) fun _ _ q => q.elim
  obtain ⟨⟨⟨h₁, tk₁, rfl⟩, ns, K₁, fr⟩, cell, apart, above⟩ := X
  have C1 : h₁.IsCell (h.objs.size + 1) (some (.ref sa)) := cell "source" _ rfl
  have C2 : h₁.IsCell (h.objs.size + 2) (some (.int top tt)) := cell "top" _ rfl
  have F : Fm hb h.objs.size h₁ _ := ⟨ns, K.trans K₁, K.gone hL⟩
  have ns1 : h.get? (h.objs.size + 1) = none := Heap.get?_none_of_le (Nat.le_succ _)
  have ns2 : h.get? (h.objs.size + 2) = none := Heap.get?_none_of_le (by omega)
  have R' : Rm 2 (A.deeper (callEnvC (fnd 16 doc pm an cd ct) h.objs.size f)) := R.deeper _
  obtain ⟨f9, H9⟩ := G.fn 9 (by decide)
  obtain ⟨f10, H10⟩ := G.fn 10 (by decide)
  refine wpAny_execs_cons ?_
  repeat' walk_at "z"
  refine n_glob F.keep G H9.name ?_
  refine c_def H9 ?_
  repeat' walk_at "z"
  refine n_cell C1 ?_
  repeat' walk_at "z"
  refine ⟨F.keep, take_spec G H9 F.keep (R'.le (by omega)) (Src.ext S K₁) hsb (by decide) (by decide) ?_⟩
  intro h₂ tk₂ t₂ many K₂ S₂ m0 m1
  have D1 := cell_but C1 K₂ (S.ne ns1).symm
  have D2 := cell_but C2 K₂ (S.ne ns2).symm
  have F₂ := F.but K₂ (S.ne hL).symm hsb
  refine st_any F₂ ?_
  intro h₃ tk₃ F₃ K₃
  have G1 := cell_but D1 K₃ (by show h.objs.size + 1 ≠ h.objs.size; omega)
  have G2 := cell_but D2 K₃ (by show h.objs.size + 2 ≠ h.objs.size; omega)
  have S₃ := S₂.but K₃ (S.ne hL)
  repeat' walk_at "z"
  refine listcomp_sa (sa := sa) (cl := [("top", h.objs.size + 2), ("source", h.objs.size + 1)]) (fun v => ∃ b t, v = .bytes b t ∧ (b.size : Int) ≤ max 4 (top - 1)) ?c1 ?c2 ?c3 ?c4 ?c5 R'.hh ?_
  case c1 => rfl
  case c2 => decide
  case c3 => rfl
  case c4 => decide
  case c5 => rfl
  repeat' walk_at "z"
  refine n_locC (env := callEnvC (fnd 16 doc pm an cd ct) h.objs.size f) F₃.ns (if_pos rfl) ?_ rfl (by kernel_rfl!)
  repeat' walk_at "z"
  refine c_range1 ?_
  intro h₄ r t4 u4 v4 tk₄ K₄ hr
  have F₄ := F₃.ext K₄
  have S₄ := S₃.ext K₄
  have up : Heap.ExtBut sa h h₄ := fun b o ne e => K₄ b o (K₃ b o (ne_of_none e hL) (K₂ b o ne (K₁ b o e)))
  refine ⟨h₄, _, r, many, _, _, _, rfl, rfl, hr, m0, by omega, S₄, ?_, ?_⟩
  · intro C i t h₅ m₅ tk₅ nC i0 i1 ns₅ hat S₅ k₅
    have F₅ : Fm hb C h₅ m₅ := ⟨ns₅, fun b o e => k₅ b o (ne_of_none e hsb) (F₄.keep b o e), F₄.keep.gone nC⟩
    have sC : sa ≠ C := S₄.ne nC
    have I1 := cell_but (G1.keeps K₄) k₅ (S.ne ns1).symm
    have I2 := cell_but (G2.keeps K₄) k₅ (S.ne ns2).symm
    exact raws_elt (tt := tt) G R' S₅ hsb h0 h1 i0 (by omega) F₅ hat I1 I2 rfl (by kernel_rfl!) (by kernel_rfl!) (by kernel_rfl!) (by kernel_rfl!) (by kernel_rfl!) (by kernel_rfl!) rfl rfl rfl rfl
  · intro D h₅ tk₅ ys hD ly hlen hT S₅ K₅
    refine k h₅ _ D ys (fun b o ne e => K₅ b o ne (up b o ne e)) ?_ ly (by omega) hT S₅
    cases q : h.get? D with
    | none => rfl
    | some o => 
      by_cases hs : D = sa
      · subst hs
        exact absurd rfl (S₄.ne hD)
      · rw [up _ _ hs q] at hD; cases hD
end

open PySem.SeqAt in
section
variable {mg mb : Str → Option Value} {hb h h' h₀ hs : Heap} {w : World} {A : Around} {E : Value → Shared → Prop} {g : Array GenState} {d : Drawn} {tk : Nat} {os : OsState} {i n : Nat} {f L a b e l sa P M : Addr} {m : Str → Option Value} {env : Env} {vs ws : List Value}

theorem eqAt_lists {as bs : List Addr} {ps : List (List Value)} (x : LsAt h a (as.map .ref)) (y : LsAt h e (bs.map .ref)) (xs : Lists h as ps) (ys : Lists h bs ps) (hu : A.in1.units < cLine) :
    EqAt A ⟨h, g, d, tk, os⟩ (.ref a) (.ref e) true := by
  by_cases q : a = e
  · subst q; exact EqAt.same _
  · have := RcAt.lists (A := A) (s := ⟨h, g, d, tk, os⟩) (e := fun _ => true) x.isList y.isList (by simp [xs.length, ys.length]) (Nat.lt_of_succ_lt hu) (lists_at xs ys hu)
    rw [all_true] at this
    exact EqAt.of_refs q this
/-- pages and what stands between, of the same values -/
theorem ne_pages {p q u v t t' : Addr} {as bs : List Addr} {ps : List (List Value)} {Q : Value → Shared → Prop} (ht : IsTup h t #[.ref p, .ref u]) (ht' : IsTup h t' #[.ref q, .ref v])
    (x : LsAt h p (as.map .ref)) (y : LsAt h q (bs.map .ref)) (xs : Lists h as ps) (ys : Lists h bs ps) (x' : LsAt h u ws) (y' : LsAt h v ws) (hu : A.in1.in1.units < cLine) (k : Q (.bool false) ⟨h, g, d, tk, os⟩) :
    wpAny (Md w) A (compareOp .NotEq (.ref t) (.ref t')) Q E ⟨h, g, d, tk, os⟩ := by
  have hu1 : A.in1.units < cLine := Nat.lt_of_succ_lt hu
  have := RcNeAt.tuples (A := A) (s := ⟨h, g, d, tk, os⟩) (e := fun _ => true) ht ht' (Nat.lt_of_succ_lt hu1) (fun j h1 h2 => by
    match j, h1 with
    | 0, _ => exact eqAt_lists x y xs ys hu
    | 1, _ => exact eqAt_same x' y' hu1
    | j + 2, h1 => exact absurd h1 (by simp))
  exact this _ _ _ _ (by simpa [all_true] using k)

theorem law_first {cd : Value} {Q : Flow → Shared → Prop} (G : Glo mg mb hb) (R : Rm 4 A) (F : Fm hb L h m) (hsN : m "script" = some (.ref l)) 
    (k : ∀ h' m' tk', Fm hb L h' m' → m' "script" = some (.ref l) → wpAny (Md w) A (execs ((bd 17).drop 3) (En 17 L f cd)) Q (fun _ _ => False) ⟨h', g, d, tk', os⟩) :
    wpAny (Md w) A (execs (bd 17) (En 17 L f cd)) Q (fun _ _ => False) ⟨h, g, d, tk, os⟩ := by
  obtain ⟨f5, H5⟩ := G.fn 5 (by decide)
  obtain ⟨f6, H6⟩ := G.fn 6 (by decide)
  refine wpAny_execs_cons ?_
  repeat' walk_at "z"
  rename_i tc tkc tb tkb ta tka
  refine n_tuple ?_
  intro h₁ T K₁ hT lT
  have F₁ := F.ext K₁
  refine c_assignTup R.hh lT ?_
  intro h₂ K₂
  have F₂ := F₁.ext K₂
  repeat' walk_at "z"
  refine st F₂ ?_
  intro h₃ tk₃ F₃ K₃
  repeat' walk_at "z"
  refine st F₃ ?_
  intro h₄ tk₄ F₄ K₄
  repeat' walk_at "z"
  refine st F₄ ?_
  intro h₅ tk₅ F₅ K₅
  repeat' walk_at "z"
  refine n_glob F₅.keep G H5.name ?_
  refine c_def H5 ?_
  repeat' walk_at "z"
  refine n_list ?_
  intro h₆ la K₆ hla lla
  have F₆ := F₅.ext K₆
  have cell : ∀ {x : List UInt8} {t}, x.length ≤ 65536 → Cell (.bytes x.toArray t) := fun hx => ⟨_, _, rfl, by simpa using hx⟩
  repeat' walk_at "z"
  refine ⟨F₆.keep, rows_spec G H5 F₆.keep (R.le (by omega)) lla ?_ (by simp) ?_⟩
  · intro v hv
    simp only [List.mem_cons, List.not_mem_nil, or_false] at hv
    rcases hv with rfl | rfl
    · exact cell (x := [97, 97, 97, 97]) (by decide)
    · exact cell (x := [98, 98, 98, 98]) (by decide)
  intro h₇ tk₇ P qs K₇ hP lP ls
  have F₇ := F₆.ext K₇
  repeat' walk_at "z"
  refine n_list ?_
  intro h₈ lb K₈ hlb llb
  have F₈ := F₇.ext K₈
  repeat' walk_at "z"
  refine n_list ?_
  intro h₉ lc K₉ hlc llc
  have F₉ := F₈.ext K₉
  refine ne_lists (bs := [lb]) ((lP.ext K₈).ext K₉) llc ((ls.ext K₈).ext K₉) (.cons (llb.ext K₉) .nil) R.units1 ?_
  repeat' walk_at "z"
  refine n_glob F₉.keep G H6.name ?_
  refine c_def H6 ?_
  repeat' walk_at "z"
  refine n_list ?_
  intro h₁₀ ld K₁₀ hld lld
  have F₁₀ := F₉.ext K₁₀
  repeat' walk_at "z"
  refine ⟨F₁₀.keep, betw_spec G H6 F₁₀.keep (R.le (by omega)) lld ?_ (by simp) ?_⟩
  · intro v hv
    simp only [List.mem_cons, List.not_mem_nil, or_false] at hv
    rcases hv with rfl | rfl | rfl
    · exact cell (x := [97, 97, 97, 97]) (by decide)
    · exact cell (x := [98, 98, 98, 98]) (by decide)
    · exact cell (x := [99, 99, 99, 99]) (by decide)
  intro h₁₁ tk₁₁ T₁₁ P₁₁ M₁₁ qs₁₁ K₁₁ hT₁₁ lP₁₁ ls₁₁ lM₁₁
  have F₁₁ := F₁₀.ext K₁₁
  repeat' walk_at "z"
  refine n_list ?_
  intro h₁₂ l1 K₁₂ hl1 ll1
  have F₁₂ := F₁₁.ext K₁₂
  repeat' walk_at "z"
  refine n_list ?_
  intro h₁₃ l2 K₁₃ hl2 ll2
  have F₁₃ := F₁₂.ext K₁₃
  repeat' walk_at "z"
  refine n_list ?_
  intro h₁₄ l3 K₁₄ hl3 ll3
  have F₁₄ := F₁₃.ext K₁₄
  repeat' walk_at "z"
  refine n_list ?_
  intro h₁₅ l4 K₁₅ hl4 ll4
  have F₁₅ := F₁₄.ext K₁₅
  repeat' walk_at "z"
  refine n_tuple ?_
  intro h₁₆ T₁₆ K₁₆ hT₁₆ lT₁₆
  have F₁₆ := F₁₅.ext K₁₆
  have K5 : Ext h₁₁ h₁₆ := (((K₁₂.trans K₁₃).trans K₁₄).trans K₁₅).trans K₁₆
  refine ne_pages (bs := [l1, l2]) (hT₁₁.keeps K5) lT₁₆ (lP₁₁.ext K5) ((ll3.ext K₁₅).ext K₁₆) (ls₁₁.ext K5) (.cons ((((ll1.ext K₁₃).ext K₁₄).ext K₁₅).ext K₁₆) (.cons (((ll2.ext K₁₄).ext K₁₅).ext K₁₆) .nil)) (lM₁₁.ext K5) (ll4.ext K₁₆) R.units2 ?_
  walk_at "z"
  walk_at "z"
  refine wpAny_execs_nil ?_
  exact k _ _ _ F₁₆ (by walk_at "lk")

theorem Kp.src (S : Src h sa) (K : Heap.ExtBut sa h h') : Kp [] h h' := let ⟨_, _, _, _, l, _⟩ := S; Kp.lst l K noKs

/-- a turn of the law's loop -/
theorem law_turn {ns : List Int} {cd : Value} {t : Tok} (G : Glo mg mb hb) (R : Rm 4 A) (F : Fm hb L h m) (hsN : m "script" = some (.ref l)) (hkN : m "k" = some (.int i t)) (hi1 : i < 1024) (lx : hb.IsList l vs.toArray) (hi : IntsAre vs ns) (hz : vs.length ≤ 4096) :
    wpAny (Md w) A (execs (forBd ((bd 17).getD 3 (.Pass default))) (En 17 L f cd))
      (fun fl s' => fl = .next ∧ ∃ h₂ m₂ tk₂, s' = (⟨h₂, g, d, tk₂, os⟩ : Shared) ∧ Fm hb L h₂ m₂ ∧ m₂ "script" = some (.ref l) ∧ Kp [] h h₂) (fun _ _ => False) ⟨h, g, d, tk, os⟩ := by
  obtain ⟨f8, H8⟩ := G.fn 8 (by decide)
  obtain ⟨f10, H10⟩ := G.fn 10 (by decide)
  obtain ⟨f14, H14⟩ := G.fn 14 (by decide)
  obtain ⟨f15, H15⟩ := G.fn 15 (by decide)
  obtain ⟨f16, H16⟩ := G.fn 16 (by decide)
  refine wpAny_execs_cons ?_
  repeat' walk_at "z"
  refine n_glob F.keep G H8.name ?_
  refine c_def H8 ?_
  repeat' walk_at "z"
  refine ⟨F.keep, pool_spec G H8 F.keep (R.le (by omega)) (by obtain ⟨o, e, r⟩ := lx; exact ⟨o, F.keep _ _ e, r⟩) hi hz (by omega) (by omega) ?_⟩
  intro h₁ tk₁ sa K₁ hsa S₁
  have F₁ := F.ext K₁
  have hsb : hb.get? sa = none := F.keep.gone hsa
  refine st F₁ ?_
  intro h₂ tk₂ F₂ K₂
  have sL : sa ≠ L := S₁.neL F₁
  have S₂ := S₁.but K₂ sL
  repeat' walk_at "z"
  refine n_glob F₂.keep G H10.name ?_
  refine c_def H10 ?_
  repeat' walk_at "z"
  refine n_list ?_
  intro h₃ la K₃ hla lla
  have F₃ := F₂.ext K₃
  have S₃ := S₂.ext K₃
  repeat' walk_at "z"
  refine ⟨F₃.keep, one_spec G H10 F₃.keep (R.le (by omega)) S₃ hsb lla (S₂.ne hla).symm (by simp) (by simp) ?_⟩
  intro h₄ tk₄ j v K₄ S₄ hv
  have hv' : ∃ n t, v = .int n t ∧ 12 ≤ n ∧ n ≤ 40 := by
    match j, hv with
    | 0, hv => cases hv; exact ⟨_, _, rfl, by omega, by omega⟩
    | 1, hv => cases hv; exact ⟨_, _, rfl, by omega, by omega⟩
    | 2, hv => cases hv; exact ⟨_, _, rfl, by omega, by omega⟩
    | 3, hv => cases hv; exact ⟨_, _, rfl, by omega, by omega⟩
    | 4, hv => cases hv; exact ⟨_, _, rfl, by omega, by omega⟩
    | 5, hv => cases hv; exact ⟨_, _, rfl, by omega, by omega⟩
    | j + 6, hv => cases hv
  obtain ⟨room, tr, rfl, r0, r1⟩ := hv'
  have F₄ := F₃.but K₄ sL.symm hsb
  refine st F₄ ?_
  intro h₅ tk₅ F₅ K₅
  have S₅ := S₄.but K₅ sL
  have Z₅ : Kp [] h h₅ := ((((Kp.ext K₁).trans (Kp.loc F₁ K₂ noKs)).trans (Kp.ext K₃)).trans (Kp.src S₃ K₄)).trans (Kp.loc F₄ K₅ noKs)
  repeat' walk_at "z"
  refine isTrue_plain ?_
  repeat' walk_at "z"
  refine n_glob F₅.keep G H15.name ?_
  refine c_def H15 ?_
  repeat' walk_at "z"
  refine n_glob F₅.keep G H16.name ?_
  refine c_def H16 ?_
  repeat' walk_at "z"
  refine z_div (by decide) (by decide) ?_
  intro _ _
  repeat' walk_at "z"
  refine ⟨F₅.keep, raws_spec G H16 F₅.keep (R.le (by omega)) S₅ hsb (by omega) (by omega) ?_⟩
  intro h₆ tk₆ D₆ vs₆ K₆ hD₆ lD₆ n₆ hT₆ S₆
  have F₆ := F₅.but K₆ sL.symm hsb
  repeat' walk_at "z"
  refine ⟨F₆.keep, br_spec G H15 F₆.keep (R.le (by omega)) lD₆ ?_ (by omega) (by omega) ?_ ?_⟩
  · intro v hv
    obtain ⟨b, t, rfl, hb⟩ := hT₆ v hv
    exact ⟨b, t, rfl, by omega⟩
  · intro v hv
    obtain ⟨b, t, rfl, hb⟩ := hT₆ v hv
    show 2 * (2 + max 4 (b.size : Int)) ≤ room
    omega
  intro h₇ tk₇ K₇
  have F₇ := F₆.ext K₇
  have S₇ := S₆.ext K₇
  repeat' walk_at "z"
  refine if_f rfl (wpAny_execs_nil ?_)
  repeat' walk_at "z"
  refine isTrue_plain ?_
  repeat' walk_at "z"
  refine n_glob F₇.keep G H14.name ?_
  refine c_def H14 ?_
  repeat' walk_at "z"
  refine n_glob F₇.keep G H16.name ?_
  refine c_def H16 ?_
  repeat' walk_at "z"
  refine n_glob F₇.keep G H10.name ?_
  refine c_def H10 ?_
  repeat' walk_at "z"
  refine z_div (by decide) (by decide) ?_
  intro _ _
  repeat' walk_at "z"
  refine n_list ?_
  intro h₈ lb K₈ hlb llb
  have F₈ := F₇.ext K₈
  have S₈ := S₇.ext K₈
  repeat' walk_at "z"
  refine ⟨F₈.keep, one_spec G H10 F₈.keep (R.le (by omega)) S₈ hsb llb (S₇.ne hlb).symm (by simp) (by simp) ?_⟩
  intro h₉ tk₉ j v K₉ S₉ hv
  have hv' : ∃ n t, v = .int n t ∧ 0 < n ∧ n < 64 := by
    match j, hv with
    | 0, hv => cases hv; exact ⟨_, _, rfl, by omega, by omega⟩
    | 1, hv => cases hv; exact ⟨_, _, rfl, by omega, by omega⟩
    | 2, hv => cases hv; exact ⟨_, _, rfl, by omega, by omega⟩
    | j + 3, hv => cases hv
  obtain ⟨top, tt, rfl, p0, p1⟩ := hv'
  have F₉ := F₈.but K₉ sL.symm hsb
  repeat' walk_at "z"
  refine ⟨F₉.keep, raws_spec G H16 F₉.keep (R.le (by omega)) S₉ hsb p0 (by omega) ?_⟩
  intro h₁₀ tk₁₀ D₁₀ vs₁₀ K₁₀ hD₁₀ lD₁₀ n₁₀ hT₁₀ S₁₀
  have F₁₀ := F₉.but K₁₀ sL.symm hsb
  repeat' walk_at "z"
  refine ⟨F₁₀.keep, rr_spec G H14 F₁₀.keep (R.le (by omega)) lD₁₀ ?_ (by omega) ?_⟩
  · intro v hv
    obtain ⟨b, t, rfl, hb⟩ := hT₁₀ v hv
    exact ⟨b, t, rfl, by omega⟩
  intro h₁₁ tk₁₁ K₁₁
  have F₁₁ := F₁₀.ext K₁₁
  repeat' walk_at "z"
  refine if_f rfl (wpAny_execs_nil ?_)
  repeat' walk_at "z"
  exact ⟨rfl, h₁₁, _, _, rfl, F₁₁, by walk_at "lk", (((((Z₅.trans (Kp.src S₅ K₆)).trans (Kp.ext K₇)).trans (Kp.ext K₈)).trans (Kp.src S₈ K₉)).trans (Kp.src S₉ K₁₀)).trans (Kp.ext K₁₁)⟩

/-- law -/
theorem law_spec {ns : List Int} {cd : Value} (G : Glo mg mb hb) (R : Rm 4 A) (F : Fm hb L h m) (hsN : m "script" = some (.ref l)) (lx : hb.IsList l vs.toArray) (hi : IntsAre vs ns) (hz : vs.length ≤ 4096) :
    wpAny (Md w) A (execs (bd 17) (En 17 L f cd)) (fun fl s' => fl = .ret (.bool true) ∧ Ext hb s'.heap ∧ s'.os = os ∧ s'.gens = g) (fun _ _ => False) ⟨h, g, d, tk, os⟩ := by
  refine law_first G R F hsN ?_
  intro h₁ m₁ tk₁ F₁ hs₁
  refine wpAny_execs_cons ?_
  refine wpAny_For ?_
  repeat' walk_at "z"
  refine call_len_list (by obtain ⟨o, e, r⟩ := lx; exact ⟨o, F₁.keep _ _ e, r⟩) (by rw [List.size_toArray]; omega) ?_
  repeat' walk_at "z"
  rename_i ha tka ta Ka hb' tkb tb Kb
  have F₂ := (F₁.ext Ka).ext Kb
  refine c_range1 ?_
  intro h₃ r t3 u3 v3 tk₃ K₃ hr
  have F₃ := F₂.ext K₃
  refine for_range (fun i h' m' => m' "script" = some (.ref l)) R.hh F₃ hr (by decide) (by decide) (by omega) (by omega) hs₁ ?_ ?_ ?_ ?_
  · exact fun _ _ _ _ x _ => x
  · exact fun _ _ _ _ x _ _ => x
  · intro i t h' m' tk' hi' x F'
    rw [Int.zero_add] at F'
    refine wpAny_mono (law_turn G R F' ((if_neg (by decide)).trans x) (if_pos rfl) (by omega) lx hi hz) (fun fl s' hm => ?_) fun _ _ z => z
    obtain ⟨rfl, h₂, m₂, tk₂, rfl, F₂, x₂, K₂⟩ := hm
    exact ⟨h₂, m₂, tk₂, rfl, F₂, x₂, K₂⟩
  · intro h' m' tk' x F'
    repeat' walk_at "z"
    exact ⟨rfl, F'.keep, rfl, rfl⟩
end

end Mine
end
section
open PySem PySem.W PyProof.Rows
set_option maxHeartbeats 8000000
namespace Mine
open_top hd for PySem.Challenge.rw_xm0742_01

/-- a def of the text that the heap at hand holds -/
theorem fnAt_of {K : Frag} {h : Heap} {mg : Str → Option Value} {i : Nat} {f : Addr} {oc doc pm cd ct : Value} {od an : Option Addr} {osl : Array (Option Value)} (X : K.In h) (g : h.Ns mainGlobals mg)
    (e1 : nsIn K mainGlobals (nm i) = some (some (.ref f))) (e2 : K.lookup f = some ⟨oc, od, .func (fnd i doc pm an cd ct), osl⟩) (e3 : codeIn K cd (nm i) = true) : ∃ f, FnAt mg h i f :=
  ⟨f, mg_of X g e1, _, doc, pm, an, cd, ct, X _ _ e2, rfl, codeRec_of X e3⟩

theorem glo_of {w : World} {h : Heap} {mg mb : Str → Option Value} {p : Program} {loose : List Str} (KX : (hd.heap_39 w.params).In h) (T : TopRead p loose mg mb h) : Glo mg mb h where
  g := T.g
  b := T.b
  lim := T.nolimit
  bi := T.builtins
  no := by
    intro x hx
    simp only [List.mem_cons, List.not_mem_nil, or_false] at hx
    rcases hx with rfl | rfl | rfl | rfl | rfl | rfl | rfl
    · exact mg_none_of KX T.g (by k_is)
    · exact mg_none_of KX T.g (by k_is)
    · exact mg_none_of KX T.g (by k_is)
    · exact mg_none_of KX T.g (by k_is)
    · exact mg_none_of KX T.g (by k_is)
    · exact mg_none_of KX T.g (by k_is)
    · exact mg_none_of KX T.g (by k_is)
  pointer := ⟨_, mg_of KX T.g (by k_is)⟩
  least := ⟨_, mg_of KX T.g (by k_is)⟩
  fn := by
    intro i hi
    simp only [List.mem_cons, List.not_mem_nil, or_false] at hi
    rcases hi with rfl | rfl | rfl | rfl | rfl | rfl | rfl | rfl | rfl | rfl | rfl | rfl
    all_goals exact fnAt_of KX T.g (by k_is) (by k_is) (by k_is)

end Mine
open Mine
theorem PySem.Challenge.cw_xm0742_01_holds : PySem.Challenge.rw_xm0742_01.Holds := by
  exact hd (by
  k_go0
  rename_i hL ra w1 r0 hI hr hc1 hc2 K0 hD h₁ F N0
  have KX := (by assumption : (hd.heap_39 _).In _)
  have T' := topRead_of (by assumption : Top _ _ _ _ _ _)
  have G := glo_of KX T'
  have hg := (by assumption : Shared.gens _ = #[])
  have hlen := hI.length
  refine wpAny_mono (law_spec G (Rm.deeper (n := 4) ⟨rfl, by decide, by decide⟩ _) ⟨F.ns, F.keep, Heap.get?_none_of_le (Nat.le_refl _)⟩ rfl hL hI (by omega)) ?_ ?_
  · intro fl s' hm
    obtain ⟨rfl, hm1, hm2, hm3⟩ := hm
    refine ⟨.inl ⟨.bool true, .bool true, [], rfl, ?hn, .bool true, ?hp, unshared_nil⟩, hm1, hm2, hm3.trans hg⟩
    case hn => first | exact fun _ => rfl | exact raisesW_false (by wrow_none_raised)
    case hp => first | kernel_rfl! | (refine' postW_of ?s ?v ?e; (case s => o_shape); (case v => wtm_val); (case e => w_fin))
  · exact fun _ _ z => z.elim)

end
