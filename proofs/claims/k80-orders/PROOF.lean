import PyProof.Rows.All
import Wide.All
import OpenK.AllK
import Wide.FinOn
import HandS.ForMost
import HandS.ForExc
import HandS.Walk
import HandS.IsInst
import HandS.SetFor
import HandS.Strs
import HandS.CallLocal
import HandS.Sort
import HandS.Small
import KE.SortData
import KE.DataMinMax
import HandS.Codes
import HandS.Conv
import HandS.TupMul
import PySem.Challenge.RW_palbuilds_k80_whole_orders_of_letters
set_option Elab.async false
set_option linter.all false
set_option autoImplicit false
set_option maxRecDepth 100000
set_option maxHeartbeats 8000000
/-! The plain law of the orders of letters: no program in sight. A letter at place a has the code 97 + a; a plan is the list of its codes. -/
namespace Pal

/-! ### the two enumerations -/
/-- one letter fewer at place a -/
def dec (l : List Nat) (a : Nat) : List Nat := l.mapIdx fun i m => if i = a then m - 1 else m
/-- the steps behind a step with the letter at place a -/
def grow (now : List Int) (a : Nat) : List Int := now.mapIdx fun i x => if i = a then x else x + now.getD a 0
/-- what orders_of puts into its list, n letters left -/
def orders : Nat → List Nat → List Nat → List Int → Int → List (Int × List Nat)
  | 0, _, plan, _, total => [(total, plan)]
  | n + 1, left, plan, now, total => (List.range left.length).flatMap fun a =>
      if 0 < left.getD a 0 then orders n (dec left a) (plan ++ [97 + a]) (grow now a) (total + now.getD a 0) else []
/-- a plan with each letter behind it of which some are left -/
def nexts (told p : List Nat) : List (List Nat) := ((List.range told.length).filter fun a => decide (p.count (97 + a) < told.getD a 0)).map fun a => p ++ [97 + a]
def levels (told : List Nat) : Nat → List (List Nat) → List (List Nat)
  | 0, ps => ps
  | n + 1, ps => levels told n (ps.flatMap (nexts told))

theorem dec_length (l : List Nat) (a : Nat) : (dec l a).length = l.length := by simp [dec]
theorem grow_length (l : List Int) (a : Nat) : (grow l a).length = l.length := by simp [grow]
theorem dec_getD (l : List Nat) (a b : Nat) : (dec l a).getD b 0 = if b = a then l.getD b 0 - 1 else l.getD b 0 := by
  unfold dec
  rw [List.getD_eq_getElem?_getD, List.getElem?_mapIdx, List.getD_eq_getElem?_getD]
  cases l[b]? with
  | none => simp
  | some x => simp
theorem grow_getD (l : List Int) (a b : Nat) (hb : b < l.length) : (grow l a).getD b 0 = if b = a then l.getD b 0 else l.getD b 0 + l.getD a 0 := by
  unfold grow
  rw [List.getD_eq_getElem?_getD, List.getElem?_mapIdx, List.getD_eq_getElem?_getD (i := b), List.getElem?_eq_getElem hb]
  simp
theorem sum_of_getD : ∀ (l m : List Nat), l.length = m.length → ∀ a, (∀ b, b ≠ a → l.getD b 0 = m.getD b 0) → l.getD a 0 + 1 = m.getD a 0 → l.sum + 1 = m.sum
  | [], [], _, a, _, h => by simp at h
  | x :: l, y :: m, hl, 0, h1, h2 => by
    have e : l = m := by
      refine List.ext_getElem (by simpa using hl) fun i h3 h4 => ?_
      have q := h1 (i + 1) (by omega)
      simpa [h3, h4] using q
    have q : x + 1 = y := by simpa using h2
    subst e
    simp only [List.sum_cons]
    omega
  | x :: l, y :: m, hl, a + 1, h1, h2 => by
    have e : x = y := by simpa using h1 0 (by omega)
    have ih := sum_of_getD l m (by simpa using hl) a (fun b hb => by simpa using h1 (b + 1) (by omega)) (by simpa using h2)
    simp only [List.sum_cons]
    omega
theorem dec_sum {l : List Nat} {a : Nat} (h : 0 < l.getD a 0) : (dec l a).sum + 1 = l.sum := by
  refine sum_of_getD _ _ (dec_length l a) a (fun b hb => ?_) ?_
  · rw [dec_getD, if_neg hb]
  · rw [dec_getD, if_pos rfl]
    omega
theorem getD_le_sum : ∀ (l : List Nat) (a : Nat), l.getD a 0 ≤ l.sum
  | [], a => by simp
  | x :: l, 0 => by simp
  | x :: l, a + 1 => by
    have ih := getD_le_sum l a
    simp only [List.getD_cons_succ, List.sum_cons]
    omega
theorem getD_lt {l : List Nat} {a : Nat} (h : 0 < l.getD a 0) : a < l.length := by
  rw [List.getD_eq_getElem?_getD] at h
  cases e : l[a]? with
  | none => rw [e] at h; simp at h
  | some x => exact (List.getElem?_eq_some_iff.mp e).1

/-! ### levels -/
theorem levels_append (told : List Nat) : ∀ (n : Nat) (ps qs : List (List Nat)), levels told n (ps ++ qs) = levels told n ps ++ levels told n qs
  | 0, _, _ => rfl
  | n + 1, ps, qs => by
    simp only [levels]
    rw [List.flatMap_append, levels_append told n]
theorem levels_nil (told : List Nat) : ∀ n : Nat, levels told n [] = []
  | 0 => rfl
  | n + 1 => by simp only [levels, List.flatMap_nil]; exact levels_nil told n
theorem levels_each (told : List Nat) (n : Nat) : ∀ ps : List (List Nat), levels told n ps = ps.flatMap fun p => levels told n [p]
  | [] => by rw [levels_nil, List.flatMap_nil]
  | p :: ps => by
    rw [List.flatMap_cons, ← levels_each told n ps, ← levels_append]
    rfl
theorem levels_last (told : List Nat) : ∀ (n : Nat) (ps : List (List Nat)), levels told (n + 1) ps = (levels told n ps).flatMap (nexts told)
  | 0, _ => rfl
  | n + 1, ps => by
    show levels told (n + 1) (ps.flatMap (nexts told)) = _
    rw [levels_last told n]
    rfl
theorem flatMap_filter_map {α β γ : Type} (p : α → Bool) (f : α → β) (g : β → List γ) : ∀ l : List α, ((l.filter p).map f).flatMap g = l.flatMap fun a => if p a = true then g (f a) else []
  | [] => rfl
  | a :: l => by
    have ih := flatMap_filter_map p f g l
    rw [List.flatMap_cons]
    cases h : p a with
    | true => rw [List.filter_cons_of_pos h, List.map_cons, List.flatMap_cons, ih, if_pos rfl]
    | false => rw [List.filter_cons_of_neg (by rw [h]; decide), ih, if_neg (by decide), List.nil_append]
theorem flatMap_same {α β : Type} {f g : α → List β} : ∀ l : List α, (∀ a ∈ l, f a = g a) → l.flatMap f = l.flatMap g
  | [], _ => rfl
  | a :: l, h => by rw [List.flatMap_cons, List.flatMap_cons, h a (by simp), flatMap_same l fun b hb => h b (by simp [hb])]
theorem map_flatMap' {α β γ : Type} (f : α → List β) (g : β → γ) : ∀ l : List α, (l.flatMap f).map g = l.flatMap fun a => (f a).map g
  | [] => rfl
  | a :: l => by rw [List.flatMap_cons, List.flatMap_cons, List.map_append, map_flatMap' f g l]

/-- both tell the same plans in the same order -/
theorem orders_plans (told : List Nat) : ∀ (n : Nat) (left plan : List Nat) (now : List Int) (total : Int), left.length = told.length →
    (∀ a, a < told.length → left.getD a 0 + plan.count (97 + a) = told.getD a 0) → (orders n left plan now total).map Prod.snd = levels told n [plan]
  | 0, _, _, _, _, _, _ => rfl
  | n + 1, left, plan, now, total, hl, hc => by
    show (List.flatMap _ _).map Prod.snd = levels told n ([plan].flatMap (nexts told))
    rw [map_flatMap', List.flatMap_singleton, levels_each]
    show _ = (nexts told plan).flatMap _
    rw [nexts, flatMap_filter_map, hl]
    refine flatMap_same _ fun a ha => ?_
    have ha' : a < told.length := List.mem_range.mp ha
    have h0 := hc a ha'
    by_cases hp : 0 < left.getD a 0
    · rw [if_pos hp, if_pos (decide_eq_true (by omega))]
      refine orders_plans told n _ _ _ _ (by rw [dec_length, hl]) fun b hb => ?_
      have hb0 := hc b hb
      rw [dec_getD, List.count_append, List.count_singleton]
      by_cases e : b = a
      · subst e
        rw [if_pos rfl, if_pos (by simp)]
        omega
      · rw [if_neg e, if_neg (by simp; omega)]
        omega
    · rw [if_neg hp, if_neg (fun q => absurd (of_decide_eq_true q) (by omega))]
      rfl

/-! ### lengths of builds -/
abbrev Held := List Int × (Nat → Option Nat)
/-- a turn of the law's own count of lengths: the lengths so far; the last place of each letter -/
def turn (s : Held) (c : Nat) : Held :=
  (s.1 ++ [match s.2 c with | some j => 2 * s.1.getLastD 0 - s.1.getD j 0 | none => 2 * s.1.getLastD 0 + 1], fun d => if d = c then some (s.1.length - 1) else s.2 d)
def held (p : List Nat) : Held := p.foldl turn ([0], fun _ => none)
def sizes (p : List Nat) : List Int := (held p).1
def lasts (p : List Nat) : Nat → Option Nat := (held p).2
def size (p : List Nat) : Int := (sizes p).getLastD 0
theorem held_snoc (p : List Nat) (c : Nat) : held (p ++ [c]) = turn (held p) c := by unfold held; rw [List.foldl_append]; rfl
/-- the length behind one letter more -/
def more (p : List Nat) (c : Nat) : Int := match lasts p c with | some j => 2 * size p - (sizes p).getD j 0 | none => 2 * size p + 1
theorem sizes_snoc (p : List Nat) (c : Nat) : sizes (p ++ [c]) = sizes p ++ [more p c] := by
  show (held (p ++ [c])).1 = _
  rw [held_snoc]
  rfl
theorem size_snoc (p : List Nat) (c : Nat) : size (p ++ [c]) = more p c := by
  show (sizes (p ++ [c])).getLastD 0 = _
  rw [sizes_snoc]
  simp
theorem snoc_ind {P : List Nat → Prop} (h0 : P []) (h1 : ∀ p c, P p → P (p ++ [c])) (p : List Nat) : P p := by
  have h : ∀ q : List Nat, P q.reverse := fun q => by
    induction q with
    | nil => exact h0
    | cons c q ih => rw [List.reverse_cons]; exact h1 _ _ ih
  rw [← List.reverse_reverse p]
  exact h _
theorem sizes_length (p : List Nat) : (sizes p).length = p.length + 1 := by
  refine snoc_ind (P := fun p => (sizes p).length = p.length + 1) rfl (fun p c ih => ?_) p
  rw [sizes_snoc, List.length_append, ih, List.length_append] <;> rfl
theorem lasts_snoc (p : List Nat) (c d : Nat) : lasts (p ++ [c]) d = if d = c then some p.length else lasts p d := by
  show (held (p ++ [c])).2 d = _
  rw [held_snoc]
  show (if d = c then some ((sizes p).length - 1) else lasts p d) = _
  rw [sizes_length]
  rfl
theorem lasts_lt (p : List Nat) : ∀ c j, lasts p c = some j → j < p.length := by
  refine snoc_ind (P := fun p => ∀ c j, lasts p c = some j → j < p.length) (fun c j h => ?_) (fun p d ih c j h => ?_) p
  · cases (show (none : Option Nat) = some j from h)
  · rw [lasts_snoc] at h
    rw [show (p ++ [d]).length = p.length + 1 by simp]
    by_cases e : c = d
    · rw [if_pos e] at h
      cases h
      omega
    · rw [if_neg e] at h
      have := ih c j h
      omega
theorem sizes_snoc_getD (p : List Nat) (c j : Nat) : (sizes (p ++ [c])).getD j 0 = if j = p.length + 1 then more p c else (sizes p).getD j 0 := by
  have hl := sizes_length p
  rw [sizes_snoc, List.getD_eq_getElem?_getD, List.getD_eq_getElem?_getD]
  by_cases h : j = p.length + 1
  · subst h
    rw [if_pos rfl, List.getElem?_append_right (by omega), hl]
    simp
  · rw [if_neg h]
    by_cases h2 : j < p.length + 1
    · rw [List.getElem?_append_left (by omega)]
    · rw [List.getElem?_eq_none (by rw [List.length_append, hl]; simp; omega), List.getElem?_eq_none (by omega)]
theorem size_getD (p : List Nat) : (sizes p).getD p.length 0 = size p := by
  refine snoc_ind (P := fun p => (sizes p).getD p.length 0 = size p) rfl (fun p c _ => ?_) p
  rw [sizes_snoc_getD, size_snoc, List.length_append, List.length_singleton, if_pos rfl]
/-- what a step with the letter at place a adds -/
def gain (p : List Nat) (c : Nat) : Int := match lasts p c with | some j => size p - (sizes p).getD j 0 | none => size p + 1
theorem more_gain (p : List Nat) (c : Nat) : more p c = size p + gain p c := by
  unfold more gain
  cases lasts p c with
  | none => show 2 * size p + 1 = size p + (size p + 1); omega
  | some j => show 2 * size p - _ = size p + (size p - _); omega
theorem gain_snoc (p : List Nat) (c d : Nat) : gain (p ++ [c]) d = if d = c then gain p c else gain p d + gain p c := by
  unfold gain
  rw [lasts_snoc]
  by_cases h : d = c
  · subst h
    rw [if_pos rfl, if_pos rfl]
    show size (p ++ [d]) - (sizes (p ++ [d])).getD p.length 0 = gain p d
    rw [size_snoc, sizes_snoc_getD, if_neg (by omega), size_getD, more_gain]
    omega
  · rw [if_neg h, if_neg h, size_snoc, more_gain]
    show _ = gain p d + gain p c
    unfold gain
    cases e : lasts p d with
    | none =>
      show size p + gain p c + 1 = size p + 1 + gain p c
      omega
    | some j =>
      have hj := lasts_lt p d j e
      show size p + gain p c - (sizes (p ++ [c])).getD j 0 = size p - (sizes p).getD j 0 + gain p c
      rw [sizes_snoc_getD, if_neg (by omega)]
      omega
/-- the program's numbers at a plan -/
structure Fits (k : Nat) (plan : List Nat) (now : List Int) (total : Int) : Prop where
  tot : total = size plan
  len : now.length = k
  at' : ∀ a, a < k → now.getD a 0 = gain plan (97 + a)
theorem Fits.start (k : Nat) : Fits k [] (List.replicate k 1) 0 := by
  refine ⟨rfl, by simp, fun a ha => ?_⟩
  rw [List.getD_eq_getElem?_getD, List.getElem?_replicate, if_pos ha]
  rfl
theorem Fits.step {k : Nat} {plan : List Nat} {now : List Int} {total : Int} {a : Nat} (h : Fits k plan now total) (ha : a < k) : Fits k (plan ++ [97 + a]) (grow now a) (total + now.getD a 0) := by
  refine ⟨?_, by rw [grow_length]; exact h.len, fun b hb => ?_⟩
  · rw [size_snoc, more_gain, h.tot, h.at' a ha]
  · rw [grow_getD _ _ _ (by rw [h.len]; exact hb), gain_snoc, h.at' a ha, h.at' b hb]
    by_cases e : b = a
    · rw [if_pos e, if_pos (by omega), e]
    · rw [if_neg e, if_neg (by omega)]
theorem orders_size : ∀ (n : Nat) (left plan : List Nat) (now : List Int) (total : Int), Fits left.length plan now total → ∀ y ∈ orders n left plan now total, y.1 = size y.2
  | 0, _, plan, _, total, h, y, hy => by
    rw [orders, List.mem_singleton] at hy
    rw [hy]
    exact h.tot
  | n + 1, left, plan, now, total, h, y, hy => by
    rw [orders, List.mem_flatMap] at hy
    obtain ⟨a, ha, hy⟩ := hy
    by_cases hp : 0 < left.getD a 0
    · rw [if_pos hp] at hy
      refine orders_size n _ _ _ _ ?_ y hy
      rw [dec_length]
      exact h.step (List.mem_range.mp ha)
    · rw [if_neg hp] at hy
      cases hy
theorem pairs_of {L : List (Int × List Nat)} {ps : List (List Nat)} (h1 : L.map Prod.snd = ps) (h2 : ∀ y ∈ L, y.1 = size y.2) : L = ps.map fun p => (size p, p) := by
  subst h1
  rw [List.map_map]
  have e : L.map id = L.map ((fun p => (size p, p)) ∘ Prod.snd) := List.map_congr_left fun y hy => by
    show y = (size y.2, y.2)
    rw [← h2 y hy]
  rw [List.map_id] at e
  exact e
/-- the list that all_orders makes -/
def all (told : List Nat) : List (Int × List Nat) := orders told.sum told [] (List.replicate told.length 1) 0
theorem all_eq (told : List Nat) : all told = (levels told told.sum [[]]).map fun p => (size p, p) :=
  pairs_of (orders_plans told told.sum told [] _ _ rfl fun a _ => by simp) (orders_size _ _ _ _ _ (Fits.start _))

/-! ### bounds -/
theorem flatMap_length_le {α β : Type} {f : α → List β} {m : Nat} : ∀ l : List α, (∀ a ∈ l, (f a).length ≤ m) → (l.flatMap f).length ≤ l.length * m
  | [], _ => by simp
  | a :: l, h => by
    have ih := flatMap_length_le l fun b hb => h b (by simp [hb])
    have h1 := h a (by simp)
    rw [List.flatMap_cons, List.length_append, List.length_cons, Nat.succ_mul]
    omega
theorem orders_one : ∀ (left plan : List Nat) (now : List Int) (total : Int), left.sum = 1 → (orders 1 left plan now total).length ≤ 1 := by
  intro left plan now total h
  show ((List.range left.length).flatMap fun a => if 0 < left.getD a 0 then [(total + now.getD a 0, plan ++ [97 + a])] else []).length ≤ 1
  have key : ∀ (l : List Nat) (f : Nat → (Int × List Nat)) (g : Nat → Nat), (∀ a b, a ∈ l → b ∈ l → 0 < g a → 0 < g b → a = b) → l.Nodup → (l.flatMap fun a => if 0 < g a then [f a] else []).length ≤ 1 := by
    intro l f g hu hd
    induction l with
    | nil => simp
    | cons a l ih =>
      rw [List.flatMap_cons, List.length_append]
      have hd' := List.nodup_cons.mp hd
      by_cases ha : 0 < g a
      · have e : (l.flatMap fun a => if 0 < g a then [f a] else []) = [] := by
          refine List.flatMap_eq_nil_iff.mpr fun b hb => ?_
          by_cases hb0 : 0 < g b
          · exact absurd (hu a b (by simp) (by simp [hb]) ha hb0) (fun q => hd'.1 (q ▸ hb))
          · rw [if_neg hb0]
        rw [e, if_pos ha]
        simp
      · rw [if_neg ha]
        have := ih (fun x y hx hy => hu x y (by simp [hx]) (by simp [hy])) hd'.2
        simpa using this
  refine key _ (fun a => (total + now.getD a 0, plan ++ [97 + a])) (fun a => left.getD a 0) (fun a b _ _ h1 h2 => ?_) List.nodup_range
  by_cases e : a = b
  · exact e
  · exfalso
    have q := dec_sum h1
    have q2 : 0 < (dec left a).getD b 0 := by rw [dec_getD, if_neg (fun z => e z.symm)]; exact h2
    have q3 := getD_le_sum (dec left a) b
    omega
theorem orders_length : ∀ (n : Nat) (left plan : List Nat) (now : List Int) (total : Int), left.sum = n + 1 → (orders (n + 1) left plan now total).length ≤ left.length ^ n
  | 0, left, plan, now, total, h => orders_one left plan now total h
  | n + 1, left, plan, now, total, h => by
    rw [orders, Nat.pow_succ, Nat.mul_comm]
    refine Nat.le_trans (flatMap_length_le (m := left.length ^ n) _ fun a ha => ?_) (by rw [List.length_range]; exact Nat.le_refl _)
    by_cases hp : 0 < left.getD a 0
    · rw [if_pos hp]
      have q := orders_length n (dec left a) (plan ++ [97 + a]) (grow now a) (total + now.getD a 0) (by have := dec_sum hp; omega)
      rw [dec_length] at q
      exact q
    · rw [if_neg hp]
      simp
theorem all_length (told : List Nat) : (all told).length ≤ max 1 (told.length ^ (told.sum - 1)) := by
  unfold all
  cases h : told.sum with
  | zero => simp [orders]
  | succ n =>
    have q := orders_length n told [] (List.replicate told.length 1) 0 h
    show _ ≤ max 1 (told.length ^ n)
    omega
/-- each has as many letters as there were -/
theorem orders_letters : ∀ (n : Nat) (left plan : List Nat) (now : List Int) (total : Int), ∀ y ∈ orders n left plan now total, y.2.length = plan.length + n
  | 0, _, plan, _, total, y, hy => by
    rw [orders, List.mem_singleton] at hy
    rw [hy]
    rfl
  | n + 1, left, plan, now, total, y, hy => by
    rw [orders, List.mem_flatMap] at hy
    obtain ⟨a, _, hy⟩ := hy
    by_cases hp : 0 < left.getD a 0
    · rw [if_pos hp] at hy
      have q := orders_letters n _ _ _ _ y hy
      rw [q, List.length_append, List.length_singleton]
      omega
    · rw [if_neg hp] at hy
      cases hy
theorem all_letters {told : List Nat} {y : Int × List Nat} (h : y ∈ all told) : y.2.length = told.sum := by
  have q := orders_letters _ _ _ _ _ y h
  simpa using q
/-- there is one at least -/
theorem orders_some : ∀ (n : Nat) (left plan : List Nat) (now : List Int) (total : Int), left.sum = n → orders n left plan now total ≠ []
  | 0, _, _, _, _, _ => by simp [orders]
  | n + 1, left, plan, now, total, h => by
    have hex : ∃ a, 0 < left.getD a 0 := by
      refine Classical.byContradiction fun none' => ?_
      have h0 : ∀ a, left.getD a 0 = 0 := fun a => Nat.eq_zero_of_not_pos fun q => none' ⟨a, q⟩
      have : ∀ l : List Nat, (∀ a, l.getD a 0 = 0) → l.sum = 0 := fun l => by
        induction l with
        | nil => intro _; rfl
        | cons x l ih =>
          intro q
          rw [List.sum_cons, ih fun a => by simpa using q (a + 1)]
          simpa using q 0
      rw [this left h0] at h
      omega
    obtain ⟨a, ha⟩ := hex
    rw [orders]
    intro e
    have q := List.flatMap_eq_nil_iff.mp e a (List.mem_range.mpr (getD_lt ha))
    rw [if_pos ha] at q
    exact orders_some n _ _ _ _ (by have := dec_sum ha; omega) q
theorem all_some (told : List Nat) : all told ≠ [] := orders_some _ _ _ _ _ rfl
/-- lengths rise -/
theorem size_bounds (p : List Nat) : (∀ j, j ≤ p.length → 0 ≤ (sizes p).getD j 0 ∧ (sizes p).getD j 0 + ((p.length - j : Nat) : Int) ≤ size p) ∧ size p + 1 ≤ 2 ^ p.length := by
  refine snoc_ind (P := fun p => (∀ j, j ≤ p.length → 0 ≤ (sizes p).getD j 0 ∧ (sizes p).getD j 0 + ((p.length - j : Nat) : Int) ≤ size p) ∧ size p + 1 ≤ 2 ^ p.length) ⟨fun j hj => ?_, by decide⟩ (fun p c ih => ?_) p
  · have e : j = 0 := by simpa using hj
    subst e
    exact ⟨by decide, by decide⟩
  · obtain ⟨h1, h2⟩ := ih
    have hz : 0 ≤ size p := by have q := (h1 p.length (Nat.le_refl _)).1; rw [size_getD] at q; exact q
    have hg : size p + 1 ≤ more p c ∧ more p c ≤ 2 * size p + 1 := by
      unfold more
      cases e : lasts p c with
      | none =>
        show size p + 1 ≤ 2 * size p + 1 ∧ 2 * size p + 1 ≤ 2 * size p + 1
        omega
      | some j =>
        have hj := lasts_lt p c j e
        have q := h1 j (by omega)
        show size p + 1 ≤ 2 * size p - (sizes p).getD j 0 ∧ 2 * size p - (sizes p).getD j 0 ≤ 2 * size p + 1
        have : (1 : Int) ≤ ((p.length - j : Nat) : Int) := by omega
        omega
    refine ⟨fun j hj => ?_, ?_⟩
    · rw [List.length_append, List.length_singleton] at hj ⊢
      rw [sizes_snoc_getD, size_snoc]
      by_cases e : j = p.length + 1
      · subst e
        rw [if_pos rfl]
        exact ⟨by omega, by simp⟩
      · rw [if_neg e]
        have q := h1 j (by omega)
        have : ((p.length + 1 - j : Nat) : Int) = ((p.length - j : Nat) : Int) + 1 := by omega
        omega
    · rw [size_snoc, List.length_append, List.length_singleton, Int.pow_succ]
      omega

theorem nexts_length (told p : List Nat) : (nexts told p).length ≤ told.length := by
  unfold nexts
  rw [List.length_map]
  exact Nat.le_trans (List.length_filter_le _ _) (by rw [List.length_range]; exact Nat.le_refl _)
theorem nexts_many (told : List Nat) (ps : List (List Nat)) : (ps.flatMap (nexts told)).length ≤ ps.length * told.length := flatMap_length_le ps fun p _ => nexts_length told p
theorem levels_length (told : List Nat) : ∀ n : Nat, (levels told n [[]]).length ≤ told.length ^ n
  | 0 => Nat.le_refl _
  | n + 1 => by
    rw [levels_last, Nat.pow_succ]
    exact Nat.le_trans (nexts_many told _) (Nat.mul_le_mul_right _ (levels_length told n))

theorem levels_letters {told : List Nat} : ∀ {n : Nat} {p : List Nat}, p ∈ levels told n [[]] → p.length = n
  | 0, p, h => by
    rw [levels, List.mem_singleton] at h
    rw [h]
    rfl
  | n + 1, p, h => by
    rw [levels_last, List.mem_flatMap] at h
    obtain ⟨q, hq, hp⟩ := h
    have e := levels_letters hq
    obtain ⟨a, _, rfl⟩ := List.mem_map.mp hp
    rw [List.length_append, e]
    rfl

/-! ### lists of whole numbers that rise -/
theorem rising_one : ∀ (l m : List Int), l.Pairwise (· < ·) → m.Pairwise (· < ·) → (∀ k, k ∈ l ↔ k ∈ m) → l = m
  | [], [], _, _, _ => rfl
  | [], y :: m, _, _, h => absurd ((h y).mpr (by simp)) (by simp)
  | x :: l, [], _, _, h => absurd ((h x).mp (by simp)) (by simp)
  | x :: l, y :: m, rl, rm, h => by
    obtain ⟨l1, l2⟩ := List.pairwise_cons.mp rl
    obtain ⟨m1, m2⟩ := List.pairwise_cons.mp rm
    have e : x = y := by
      rcases List.mem_cons.mp ((h x).mp (by simp)) with q | q
      · exact q
      · rcases List.mem_cons.mp ((h y).mpr (by simp)) with r | r
        · exact r.symm
        · have a := m1 x q
          have b := l1 y r
          omega
    subst e
    refine congrArg (x :: ·) (rising_one l m l2 m2 fun k => ?_)
    constructor
    · intro q
      have a := l1 k q
      rcases List.mem_cons.mp ((h k).mp (List.mem_cons_of_mem _ q)) with r | r
      · omega
      · exact r
    · intro q
      have a := m1 k q
      rcases List.mem_cons.mp ((h k).mpr (List.mem_cons_of_mem _ q)) with r | r
      · omega
      · exact r
theorem few_between : ∀ (n : Nat) (lo : Int) (l : List Int), l.Nodup → (∀ k ∈ l, lo ≤ k ∧ k < lo + n) → l.length ≤ n
  | 0, lo, l, _, h => by
    cases l with
    | nil => simp
    | cons x l =>
      have := h x (by simp)
      omega
  | n + 1, lo, l, hd, h => by
    have q := few_between n lo (l.erase (lo + n)) (hd.erase _) fun k hk => by
      have h1 := h k (List.mem_of_mem_erase hk)
      have h2 : k ≠ lo + n := fun e => by
        rw [e] at hk
        exact absurd hk (hd.not_mem_erase)
      omega
    have e := List.length_erase (a := lo + n) (l := l)
    split at e <;> omega

/-! ### the least, the greatest -/
/-- Python's order of the pairs (length, plan) -/
def lt2 (x y : Int × List Nat) : Prop := x.1 < y.1 ∨ (x.1 = y.1 ∧ x.2 < y.2)
theorem list_one {p q : List Nat} (h1 : ¬ p < q) (h2 : ¬ q < p) : p = q := List.le_antisymm (List.not_lt.mp h2) (List.not_lt.mp h1)
theorem lt2_one {x y : Int × List Nat} (h1 : ¬ lt2 x y) (h2 : ¬ lt2 y x) : x = y := by
  unfold lt2 at h1 h2
  have e : x.1 = y.1 := by omega
  have e2 : x.2 = y.2 := list_one (fun q => h1 (.inr ⟨e, q⟩)) (fun q => h2 (.inr ⟨e.symm, q⟩))
  exact Prod.ext e e2
/-- the first of the sorted ones is the least -/
theorem least_first {L S : List (Int × List Nat)} {m h : Int × List Nat} (hp : S.Perm L) (hs : S.Pairwise fun x y => ¬ lt2 y x) (hh : S[0]? = some h) (hm : m ∈ L) (hl : ∀ y ∈ L, ¬ lt2 y m) : m = h := by
  cases S with
  | nil => cases hh
  | cons x S =>
    have ex : x = h := Option.some.inj hh
    subst ex
    have h1 : x ∈ L := hp.mem_iff.mp (by simp)
    refine lt2_one (fun q => ?_) (hl x h1)
    rcases List.mem_cons.mp (hp.mem_iff.mpr hm) with e | e
    · subst e
      unfold lt2 at q
      rcases q with q | q
      · omega
      · exact absurd q.2 (List.lt_irrefl _)
    · exact (List.pairwise_cons.mp hs).1 m e q
/-- the last of the sorted ones has the greatest length -/
theorem last_most {L S : List (Int × List Nat)} {z : Int × List Nat} (hp : S.Perm L) (hs : S.Pairwise fun x y => ¬ lt2 y x) (hz : S[S.length - 1]? = some z) : z ∈ L ∧ ∀ y ∈ L, y.1 ≤ z.1 := by
  obtain ⟨hb, e⟩ := List.getElem?_eq_some_iff.mp hz
  refine ⟨hp.mem_iff.mp (by rw [← e]; exact List.getElem_mem hb), fun y hy => ?_⟩
  obtain ⟨i, hi, ei⟩ := List.getElem_of_mem (hp.mem_iff.mpr hy)
  by_cases q : i = S.length - 1
  · subst q
    rw [← ei, e]
    exact Int.le_refl _
  · have r := List.pairwise_iff_getElem.mp hs i (S.length - 1) hi hb (by omega)
    rw [ei, e] at r
    unfold lt2 at r
    omega
theorem greatest_plan {L : List (Int × List Nat)} {m : Int × List Nat} {M : Int} {q : List Nat} (hM : ∀ y ∈ L, y.1 ≤ M) (hz : ∃ z ∈ L, z.1 = M)
    (hm : m ∈ L) (hl : ∀ y ∈ L, ¬ lt2 (-y.1, y.2) (-m.1, m.2)) (hq : (M, q) ∈ L) (hq2 : ∀ p, (M, p) ∈ L → ¬ p < q) : m.2 = q := by
  obtain ⟨z, z1, z2⟩ := hz
  have e : m.1 = M := by
    have a := hM m hm
    have b := hl z z1
    unfold lt2 at b
    dsimp only at b
    omega
  refine list_one (hq2 m.2 (by rw [← e]; exact hm)) fun r => hl _ hq (.inr ⟨?_, r⟩)
  show -M = -m.1
  rw [e]
end Pal
/-! Rules of our own: min and sorted of lists of (int, text) pairs, min of texts, sum of a tuple, set(list), an own exception made without arguments. -/
namespace PalR
open PySem PySem.Spec PyProof.Rows L2

/-! ### pairs of a number and a text, each at its address -/
abbrev Pr := Addr × Int × Str
def encP (b : Pr) : PyData := .tuple [.int b.2.1, .str b.2.2]
def ltP (x y : Int × Str) : Prop := x.1 < y.1 ∨ (x.1 = y.1 ∧ x.2.cps.toList < y.2.cps.toList)
instance (x y : Int × Str) : Decidable (ltP x y) := by unfold ltP; exact inferInstance
abbrev refs (xs : List Pr) : List V := xs.map fun b => V.ref b.1
def Stand (H : Hp) (xs : List Pr) : Prop := ∀ b ∈ xs, H b.1 = some (.tup [.int b.2.1, .str b.2.2])
theorem lt_enc (x y : Pr) : PySem.W.dataLt (encP x) (encP y) = decide (ltP x.2 y.2) := by
  unfold encP
  rw [PySem.W.dataLt_pair (by simp [PySem.W.alike]) (by simp [PySem.W.alike])]
  by_cases h1 : x.2.1 = y.2.1
  · rw [if_pos (by simp [PyData.eqv, h1])]
    by_cases h2 : x.2.2 = y.2.2
    · rw [if_pos (by simp [PyData.eqv, h2])]
      refine (decide_eq_false fun q => ?_).symm
      have q' : x.2.1 < y.2.1 ∨ (x.2.1 = y.2.1 ∧ x.2.2.cps.toList < y.2.2.cps.toList) := q
      rw [h2] at q'
      rcases q' with q' | q'
      · omega
      · exact absurd q'.2 (List.lt_irrefl _)
    · rw [if_neg (by simp [PyData.eqv, h2]), PySem.W.dataLt_str]
      exact decide_eq_decide.mpr ⟨fun q => .inr ⟨h1, q⟩, fun q => by
        rcases q with q | q
        · omega
        · exact q.2⟩
  · rw [if_neg (by simp [PyData.eqv, h1]), PySem.W.dataLt_int]
    exact decide_eq_decide.mpr ⟨fun q => .inl q, fun q => by
      rcases q with q | q
      · exact q
      · exact absurd q.1 h1⟩
theorem ltP_irr (x : Int × Str) : ¬ ltP x x := fun q => by
  rcases q with q | q
  · omega
  · exact absurd q.2 (List.lt_irrefl _)
theorem ltP_tr {x y z : Int × Str} (h1 : ltP x y) (h2 : ltP y z) : ltP x z := by
  unfold ltP at *
  rcases h1 with h1 | h1 <;> rcases h2 with h2 | h2
  · exact .inl (by omega)
  · exact .inl (by omega)
  · exact .inl (by omega)
  · exact .inr ⟨by omega, List.lt_trans h1.2 h2.2⟩
theorem each_of : ∀ {xs : List Pr} {us : List Value}, Vals (refs xs) us → PySem.W.EachIs (fun v b => v = Value.ref b.1) us xs
  | [], us, h => by
    have h' : Vals [] us := h
    cases h'
    exact .nil
  | x :: xs, us, h => by
    have h' : Vals (V.ref x.1 :: refs xs) us := h
    cases h' with
    | cons r t => exact .cons r (each_of t)
theorem of_each : ∀ {xs : List Pr} {us : List Value}, PySem.W.EachIs (fun v b => v = Value.ref b.1) us xs → Vals (refs xs) us
  | _, _, .nil => .nil
  | _, _, .cons r t => .cons r (of_each t)
theorem read_pair {X : Cx} {pins : List (Addr × Obj)} {σ : L2.St} {H : Hp} {s : Shared} (I : Inv X pins σ H s) {b : Pr} (h : H b.1 = some (.tup [.int b.2.1, .str b.2.2])) : ∃ as, Reads s.heap (.ref b.1) (encP b) as := by
  obtain ⟨_, its, rv, o, h1, h2, n, h3⟩ := I.hok _ _ h
  obtain ⟨u1, u2, rfl, r1, r2⟩ := vals2 rv
  obtain ⟨t1, rfl⟩ := r1
  obtain ⟨t2, rfl⟩ := r2
  exact ⟨_, .tuple h1 h2 h3 (.cons (.int _ _) (.cons (.str _ _) .nil))⟩
theorem each_reads {h : Heap} : ∀ {xs : List Pr} {us : List Value}, PySem.W.EachIs (fun v b => v = Value.ref b.1) us xs → (∀ b ∈ xs, ∃ as, Reads h (.ref b.1) (encP b) as) → PySem.W.EachIs (fun v b => ∃ as, Reads h v (encP b) as) us xs
  | _, _, .nil, _ => .nil
  | _, _, .cons r t, k => .cons (by rw [r]; exact k _ (by simp)) (each_reads t fun b hb => k b (by simp [hb]))
theorem enc_alike (a b : Pr) : PySem.W.alike (encP a) (encP b) = true := by simp [encP, PySem.W.alike, PySem.W.alikeAll]
theorem enc_depth (b : Pr) : (encP b).depth ≤ 1 := by simp [encP, PyData.depth, PyData.depthAll]

/-- sorted(xs) of such pairs -/
def rSortedIS (K : PySem.W.Frag) : List V → Hp → VK → Prop := fun vs H Q => ∃ (a : Addr) (xs : List Pr), vs = [V.ref a] ∧ SqL K H a (refs xs) ∧ Stand H xs ∧
  ∀ (ys : List Pr) (p : Addr), ys.Perm xs → ys.Pairwise (fun x y => ¬ ltP y.2 x.2) → H p = none → Q (.ref p) (upd H p (.lst (refs ys)))
theorem le_total : PySem.W.TotalLe (PySem.W.dataLe false encP) := by
  have e : PySem.W.dataLe false encP = fun a b => decide (¬ ltP b.2 a.2) := by
    rw [PySem.W.dataLe_eq]
    funext a b
    show (!PySem.W.dataLt (encP b) (encP a)) = _
    rw [lt_enc]
    exact (decide_not ..).symm
  rw [e]
  have tri : ∀ x y : Int × Str, ¬ ltP x y → ¬ ltP y x → x.1 = y.1 ∧ x.2.cps.toList = y.2.cps.toList := fun x y h1 h2 => by
    unfold ltP at h1 h2
    have q : x.1 = y.1 := by omega
    exact ⟨q, List.le_antisymm (List.not_lt.mp fun r => h2 (.inr ⟨q.symm, r⟩)) (List.not_lt.mp fun r => h1 (.inr ⟨q, r⟩))⟩
  refine ⟨fun a b c h1 h2 => ?_, fun a b => ?_⟩
  · have h1 := of_decide_eq_true h1
    have h2 := of_decide_eq_true h2
    refine decide_eq_true fun h3 => ?_
    by_cases q : ltP a.2 b.2
    · exact h2 (ltP_tr h3 q)
    · have r := tri _ _ q h1
      refine h2 ?_
      unfold ltP at h3 ⊢
      rw [← r.1, ← r.2]
      exact h3
  · by_cases q : ltP a.2 b.2
    · exact .inl (decide_eq_true fun r => ltP_irr _ (ltP_tr q r))
    · exact .inr (decide_eq_true q)
section
variable {X : Cx}
theorem cr_sortedIS (hu : X.A.units + 64 < cLine) : CallR X (.builtin "sorted") (rSortedIS X.K) := by
  intro pins s σ H vs us Q I rel h
  obtain ⟨a, xs, rfl, hs, hst, q⟩ := h
  obtain ⟨its, rv, hl, fits⟩ := I.list hs
  rw [Vals.ref1 rel]
  have e := each_of rv
  refine PySem.W.sorted_data (enc := encP) (R := fun v b => v = Value.ref b.1) hl.isList e (each_reads e fun b hb => read_pair I (hst b hb)) (PySem.W.AllAlike.of enc_alike) (PySem.W.Sortable.tuples fun b => ⟨_, _, rfl⟩)
    (by rw [← List.length_map (f := fun b : Pr => V.ref b.1)]; exact fits) (fun b _ => by have := enc_depth b; omega) fun out ho eo => ?_
  have hp : (xs.mergeSort (PySem.W.dataLe false encP)).Perm xs := List.mergeSort_perm _ _
  obtain ⟨n, hn⟩ := PyProof.Rows.sortedAll_at s.heap its out.toArray
  have hlen : (refs (xs.mergeSort (PySem.W.dataLe false encP))).length ≤ sizeLine := by
    rw [List.length_map, hp.length_eq, ← List.length_map (f := fun b : Pr => V.ref b.1)]
    exact fits
  refine ⟨.ref _, upd H (s.heap.objs.size + 1) (.lst (refs (xs.mergeSort (PySem.W.dataLe false encP)))), I.laid (t' := s.toks) (fun _ _ => PyProof.Rows.sortedAll_old) (Nat.le_succ _) ⟨hlen, out, n, of_each eo, hn⟩, rfl,
    q _ _ hp ?_ (I.hok.fresh (Nat.le_succ _))⟩
  refine (PySem.W.sort_pairwise le_total xs).imp fun {x y} h => ?_
  have h' : (!PySem.W.dataLt (encP y) (encP x)) = true := h
  rw [lt_enc] at h'
  simpa using h'
end

/-! ### min of a list whose items are compared over the heap as it stands -/
abbrev Kept (g h : Heap) : Prop := ∀ b o, g.get? b = some o → h.get? b = some o
section
variable {prog : Program} {w : World} {A : Around} {E : Value → Shared → Prop} {s : Shared} {l : Addr} {items : Array Value} {Q : Value → Shared → Prop}
theorem min_any (lt : Nat → Nat → Bool) (hh : A.handled = none) (hl : s.heap.IsList l items) (hne : 0 < items.size)
    (cmp : ∀ (i j : Nat) (u v : Value) (s' : Shared) (Q E : Value → Shared → Prop), items[i]? = some u → items[j]? = some v → Kept s.heap s'.heap → Q (.bool (lt i j)) s' → wpAny (model prog w) A.in1 (richCompare .Lt u v) Q E s')
    (h : ∀ v h' tk, items[argBest lt (items.size - 1)]? = some v → Kept s.heap h' → Q v { s with heap := h', toks := tk }) : wpAny (model prog w) A (call (.builtin "min") [.ref l]) Q E s := by
  refine call_min_walkH (PySem.W.iter_listW (A := A.in1) hh hl fun s₂ e Wk st f1 f2 f3 => ⟨_, _, _, _, _, _, _, s.heap, lt, rfl, Wk, st, f1, hne, f2, f3, fun i j u v s' Q' E' k hu hv q => cmp i j u v s' Q' E' hu hv k q, fun v s' hv mv => ?_⟩)
  obtain ⟨h', tk, rfl, k⟩ := PySem.W.moved_old e rfl mv
  exact h v h' tk hv k
end

/-! ### the best of them -/
theorem best_no {lt : Nat → Nat → Bool} (irr : ∀ i, lt i i = false) (tr : ∀ a b c, lt a b = true → lt c b = false → lt c a = false) : ∀ k, argBest lt k ≤ k ∧ ∀ j, j ≤ k → lt j (argBest lt k) = false
  | 0 => ⟨Nat.le_refl _, fun j hj => by
      have e : j = 0 := by omega
      rw [e]
      exact irr 0⟩
  | k + 1 => by
    obtain ⟨h1, h2⟩ := best_no irr tr k
    rw [argBest]
    by_cases q : lt (k + 1) (argBest lt k) = true
    · rw [if_pos q]
      refine ⟨Nat.le_refl (k + 1), fun j hj => ?_⟩
      by_cases e : j = k + 1
      · rw [e]
        exact irr _
      · exact tr _ _ _ q (h2 j (by omega))
    · rw [if_neg q]
      refine ⟨Nat.le_succ_of_le h1, fun j hj => ?_⟩
      by_cases e : j = k + 1
      · rw [e]
        exact Bool.eq_false_iff.mpr q
      · exact h2 j (by omega)
theorem each_at {α β : Type} {R : α → β → Prop} : ∀ {us : List α} {xs : List β}, PySem.W.EachIs R us xs → ∀ {i : Nat} {u : α}, us[i]? = some u → ∃ b, xs[i]? = some b ∧ R u b
  | _, _, .nil, i, u, h => by simp at h
  | _, _, .cons r t, 0, u, h => ⟨_, rfl, by
      have e := Option.some.inj h
      rw [← e]
      exact r⟩
  | _, _, .cons r t, i + 1, u, h => each_at t (i := i) (u := u) h
/-- min(xs) of such pairs -/
def rMinIS (K : PySem.W.Frag) : List V → Hp → VK → Prop := fun vs H Q => ∃ (a : Addr) (xs : List Pr), vs = [V.ref a] ∧ SqL K H a (refs xs) ∧ Stand H xs ∧ xs ≠ [] ∧
  ∀ m, m ∈ xs → (∀ y ∈ xs, ¬ ltP y.2 m.2) → Q (.ref m.1) H
/-- min(xs) of texts -/
def rMinS (K : PySem.W.Frag) : List V → Hp → VK → Prop := fun vs H Q => ∃ (a : Addr) (xs : List Str), vs = [V.ref a] ∧ SqL K H a (xs.map V.str) ∧ xs ≠ [] ∧
  ∀ m, m ∈ xs → (∀ y ∈ xs, ¬ y.cps.toList < m.cps.toList) → Q (.str m) H
/-- sum(t) of a tuple of ints -/
def rSumT (K : PySem.W.Frag) : List V → Hp → VK → Prop := fun vs H Q => ∃ (a : Addr) (ns : List Int), vs = [V.ref a] ∧ SqT K H a (ns.map V.int) ∧ Q (.int ns.sum) H
theorem pre_sum (ns : List Int) : ∀ n, n ≤ ns.length → preSum (fun i => ns.getD i 0) n = (ns.take n).sum
  | 0, _ => rfl
  | n + 1, h => by
    rw [preSum, pre_sum ns n (by omega), List.take_add_one, List.sum_append, List.getD_eq_getElem?_getD, List.getElem?_eq_getElem (by omega)]
    simp
section
variable {X : Cx}
theorem cr_minIS (hc : X.calm = true) (hu : X.A.units + 64 < cLine) : CallR X (.builtin "min") (rMinIS X.K) := by
  intro pins s σ H vs us Q I rel h
  obtain ⟨a, xs, rfl, hs, hst, hne, q⟩ := h
  obtain ⟨its, rv, hl, fits⟩ := I.list hs
  rw [Vals.ref1 rel]
  have e := each_of rv
  have hlen : its.length = xs.length := e.length
  have h0 : 0 < xs.length := List.length_pos_iff.mpr hne
  have at_ : ∀ {i : Nat} {u : Value}, its.toArray[i]? = some u → ∃ b, xs[i]? = some b ∧ u = Value.ref b.1 := fun h => each_at e (by simpa using h)
  let key : Nat → Int × Str := fun i => (xs[i]?.map (·.2)).getD (0, "")
  have kat : ∀ {i : Nat} {b : Pr}, xs[i]? = some b → key i = b.2 := fun h => by
    show (_ : Option (Int × Str)).getD _ = _
    rw [h]
    rfl
  refine min_any (fun i j => decide (ltP (key i) (key j))) (I.ok.hd hc) hl.isList (by rw [List.size_toArray]; omega) (fun i j u v s' Q' E' hu' hv' hk hq => ?_) fun v h' tk hv hk => ?_
  · obtain ⟨b, eb, rfl⟩ := at_ hu'
    obtain ⟨c, ec, rfl⟩ := at_ hv'
    obtain ⟨as, ra⟩ := read_pair I (hst b (List.mem_of_getElem? eb))
    obtain ⟨bs, rb⟩ := read_pair I (hst c (List.mem_of_getElem? ec))
    refine PySem.W.rcLt_alike _ _ X.A.in1 s' _ _ as bs (PyProof.Rows.Reads.keeps (fun b o => hk b o) ra) (PyProof.Rows.Reads.keeps (fun b o => hk b o) rb) (enc_alike b c) (by simp [encP]) ?_ _ _ _ _ ?_
    · have := enc_depth b
      show X.A.units + 1 + _ < _
      omega
    · rw [lt_enc, ← kat eb, ← kat ec]
      exact hq
  · obtain ⟨b, eb, rfl⟩ := at_ hv
    obtain ⟨h1, h2⟩ := best_no (lt := fun i j => decide (ltP (key i) (key j))) (fun i => decide_eq_false (ltP_irr _)) (fun x y z l1 l2 => decide_eq_false fun l3 => of_decide_eq_false l2 (ltP_tr l3 (of_decide_eq_true l1))) (its.toArray.size - 1)
    refine ⟨.ref b.1, H, I.kept hk, rfl, q b (List.mem_of_getElem? eb) fun y hy => ?_⟩
    obtain ⟨j, hj, ej⟩ := List.getElem_of_mem hy
    have l := of_decide_eq_false (h2 j (by rw [List.size_toArray]; omega))
    rw [kat eb, kat (b := y) (by rw [List.getElem?_eq_getElem hj, ej])] at l
    exact l
theorem cr_minS (hc : X.calm = true) : CallR X (.builtin "min") (rMinS X.K) := by
  intro pins s σ H vs us Q I rel h
  obtain ⟨a, xs, rfl, hs, hne, q⟩ := h
  obtain ⟨its, rv, hl, fits⟩ := I.list hs
  rw [Vals.ref1 rel]
  have hlen : xs.length = its.length := by
    have := rv.length
    rwa [List.length_map] at this
  have h0 : 0 < xs.length := List.length_pos_iff.mpr hne
  have at_ : ∀ {i : Nat} {u : Value}, its.toArray[i]? = some u → ∃ b t, xs[i]? = some b ∧ u = Value.str b t := fun {i u} h => by
    have h' : its[i]? = some u := by simpa using h
    have hi : i < xs.length := by
      rw [hlen]
      exact (List.getElem?_eq_some_iff.mp h').1
    obtain ⟨w, e1, e2⟩ := rv.get (i := i) (x := V.str xs[i]) (by rw [List.getElem?_map, List.getElem?_eq_getElem hi] <;> rfl)
    rw [h'] at e1
    cases e1
    obtain ⟨t, e2⟩ := e2
    exact ⟨_, t, List.getElem?_eq_getElem hi, e2⟩
  let key : Nat → List Nat := fun i => (xs[i]?.map (·.cps.toList)).getD []
  have kat : ∀ {i : Nat} {b : Str}, xs[i]? = some b → key i = b.cps.toList := fun h => by
    show (_ : Option (List Nat)).getD _ = _
    rw [h]
    rfl
  refine min_any (fun i j => decide (key i < key j)) (I.ok.hd hc) hl.isList (by rw [List.size_toArray]; omega) (fun i j u v s' Q' E' hu' hv' hk hq => ?_) fun v h' tk hv hk => ?_
  · obtain ⟨b, t, eb, rfl⟩ := at_ hu'
    obtain ⟨c, t', ec, rfl⟩ := at_ hv'
    refine PySem.P.lt_str ?_
    rw [← kat eb, ← kat ec]
    exact hq
  · obtain ⟨b, t, eb, rfl⟩ := at_ hv
    obtain ⟨h1, h2⟩ := best_no (lt := fun i j => decide (key i < key j)) (fun i => decide_eq_false (List.lt_irrefl _)) (fun x y z l1 l2 => decide_eq_false fun l3 => of_decide_eq_false l2 (List.lt_trans l3 (of_decide_eq_true l1))) (its.toArray.size - 1)
    refine ⟨.str b, H, I.kept hk, ⟨t, rfl⟩, q b (List.mem_of_getElem? eb) fun y hy => ?_⟩
    obtain ⟨j, hj, ej⟩ := List.getElem_of_mem hy
    have l := of_decide_eq_false (h2 j (by rw [List.size_toArray]; omega))
    rw [kat eb, kat (b := y) (by rw [List.getElem?_eq_getElem hj, ej])] at l
    exact l
theorem cr_sumT (hc : X.calm = true) : CallR X (.builtin "sum") (rSumT X.K) := by
  intro pins s σ H vs us Q I rel want
  obtain ⟨a, ns, rfl, hs, q⟩ := want
  obtain ⟨its, rv, hl, -⟩ := I.tuple hs
  rw [Vals.ref1 rel]
  have hlen : its.toArray.size = ns.length := by rw [List.size_toArray, ← rv.length, List.length_map]
  refine call_sum_walkAnyS (PySem.W.iter_tupleW (A := X.A.in1) (I.ok.hd hc) (show s.heap.IsTuple a its.toArray from hl) fun s₂ e Wk st f1 _ _ =>
    ⟨_, _, _, _, _, _, _, fun i => ns.getD i 0, rfl, Wk, st, f1, fun i v hv => PyProof.Rows.IntsAre.int_at rv.ints i v (by simpa using hv), fun s' t' mv => ?_⟩)
  obtain ⟨h', tk, rfl, k⟩ := PySem.W.moved_old e rfl mv
  have es : preSum (fun i => ns.getD i 0) its.toArray.size = ns.sum := by rw [hlen, pre_sum ns _ (Nat.le_refl _), List.take_length]
  rw [es]
  exact ⟨.int ns.sum, H, I.kept k, ⟨t', rfl⟩, q⟩
end

/-! ### set(xs) of a list of ints -/
/-- the empty set as it is laid -/
abbrev emptyO (w : World) : Obj := { cls := .type "set", dict := none, data := .set #[] 0 (.fresh 0 0 (!w.params.followText "set-order")) }
section
variable {P : Program} {w : World} {A : Around} {E : Value → Shared → Prop} {s : Shared} {l : Addr} {items : Array Value} {ns : List Int} {Q : Value → Shared → Prop}
/-- what set.__init__ leaves -/
def Filled (w : World) (s : Shared) (ns : List Int) (v : Value) (s2 : Shared) : Prop :=
  v = .none ∧ ∃ h tk c, s2 = { s with heap := h, toks := tk } ∧ SetR w h s.heap.objs.size (fun j => decide (j ∈ ns)) c ∧ Kept s.heap h
/-- the items, by their numbers -/
theorem nums_at (hit : IntsAre items.toList ns) (hsz : items.size = ns.length) (i : Nat) (v : Value) (hv : items[i]? = some v) : ∃ k t, ns[i]? = some k ∧ v = .int k t := by
  have hi : i < ns.length := by
    rw [← hsz]
    exact (Array.getElem?_eq_some_iff.mp hv).1
  have hv' : items.toList[i]? = some v := by simpa using hv
  obtain ⟨t, e⟩ := PyProof.Rows.IntsAre.int_at hit i v hv'
  rw [List.getD_eq_getElem?_getD, List.getElem?_eq_getElem hi] at e
  exact ⟨_, t, List.getElem?_eq_getElem hi, e⟩
set_option maxHeartbeats 16000000 in
theorem set_of_list (hh : A.handled = none) (hl : s.heap.IsList l items) (hit : IntsAre items.toList ns) (hb : ns.length + 1 < scanBound)
    (h : ∀ (h' : Heap) (tk c : Nat), SetR w h' s.heap.objs.size (fun j => decide (j ∈ ns)) c → Kept s.heap h' → Q (.ref s.heap.objs.size) { s with heap := h', toks := tk }) : wpAny (model P w) A (call (.type "set") [.ref l]) Q E s := by
  have hsz : items.size = ns.length := by
    rw [← Array.length_toList]
    exact IntsAre.length hit
  have ⟨c₁, c₂, m1⟩ := PySem.F.called_set.mro
  have m2 := PySem.F.called_set.made
  have m3 := PySem.F.called_set.sub
  have m4 := PySem.F.called_set.notType
  have m5 := PySem.F.called_set.canCreate
  have m6 := PySem.F.typeCall_set_1 (.ref l)
  refine wpAny_call <| codeAny_of_tree <| show wpAny _ _ (callAny (.type "set") _) _ _ _ from wpAny_pure ⟨Code.quiet_builtin _ (by decide +kernel), codeAny_builtin PySem.F.entry_type_call ?_⟩
  rw [(Around.under_plain (weight_type_call_type "set" [.ref l] []) rfl : A.under _ = _)]
  (repeat (any_goals (first | assumption | wp_step)))
  refine codeAny_mono (code_set_led1 (.ref l) (E := E) (Q₁ := fun obj s₁ => obj = .ref s.heap.objs.size ∧ s₁ = { s with heap := s.heap.push (emptyO w) }) ⟨rfl, rfl⟩) fun r s₁ hr => ?_
  match r, hr with
  | .error e, hr => exact hr
  | .ok (.ret obj), hr =>
    obtain ⟨rfl, rfl⟩ := hr
    have g0 : (s.heap.push (emptyO w)).get? s.heap.objs.size = some (emptyO w) := Heap.get?_push_size _ rfl
    have hT : Shared.TypeIs { s with heap := s.heap.push (emptyO w) } (.ref s.heap.objs.size) "set" := ⟨_, g0, rfl⟩
    have m7 := PySem.F.called_set.init.lookup
    have m8 := PySem.F.called_set.init.bind (.ref s.heap.objs.size)
    (repeat (any_goals (first | assumption | wp_step)))
    refine codeAny_mono (codeAny_call_builtin (R := wants (Filled w s ns) E) PySem.F.called_set.init.plain PySem.F.entry_set_init (check_set_init_1 hT ?_)) fun r₂ s₂ hr₂ => ?_
    · have hl' := hl.push (emptyO w)
      obtain ⟨⟨k1, k2, k3, k4⟩, ho, hc, n, hd⟩ := id hl
      simp only at hc hd
      subst hc hd
      have ho' := Heap.get?_push_of_some (emptyO w) ho
      have n1 := PySem.F.sub_list_set
      have n2 := PySem.F.sub_list_frozenset
      have n3 : (Value.type "list" == Value.type "dict") = false := by decide
      unfold Builtin.«set.__init__» noKeywords
      unfold Builtin.Frozenset.updateFrom
      generalize hPI : pyIter = PI
      wp_walk
      subst hPI
      have z1 : (s.heap.push (emptyO w)).objs.size = s.heap.objs.size + 1 := Heap.size_push ..
      have lt₀ : l < s.heap.objs.size := Heap.lt_size ho
      have ns3 : s.heap.objs.size ∉ [(s.heap.push (emptyO w)).objs.size, l] := by
        rw [z1, List.mem_cons, List.mem_singleton, not_or]
        exact ⟨(Nat.succ_ne_self _).symm, Nat.ne_of_gt lt₀⟩
      have nl : l ≠ (s.heap.push (emptyO w)).objs.size := by
        rw [z1]
        exact Nat.ne_of_lt (Nat.lt_succ_of_lt lt₀)
      have Wk := (Walks.list (prog := P) (w := w) (A := A.in1.in1.in1) hh _ l nl items).toS
      refine wpAny_pyIter_list hl' (wpAny_bind (wpAny_runValue ?_))
      refine set_update_ints Wk s.heap.objs.size ns3 ns hsz hb (nums_at hit hsz) (items.size - 0) 0 _ rfl (Nat.zero_le _) ⟨⟨_, Heap.get?_push_size _ rfl, rfl, rfl⟩, hl'.push _⟩ ⟨0, Nat.le_refl 0, setR_new_at (Heap.get?_push_of_some _ g0)⟩ fun s' c mv _ hS => ?_
      obtain ⟨hp', g', d', tk', os'⟩ := s'
      obtain rfl : g' = s.gens := mv.gens
      obtain rfl : d' = s.drawn := mv.drawn
      obtain rfl : os' = s.os := mv.os
      have fin : Filled w s ns .none { s with heap := hp', toks := tk' } := ⟨rfl, hp', tk', c, rfl, hS, fun b o q => by
        have lt := Heap.lt_size q
        refine mv.heap b o (fun hx => ?_) (Heap.get?_push_of_some _ (Heap.get?_push_of_some _ q))
        rw [List.mem_cons, List.mem_singleton, z1] at hx
        rcases hx with e | e
        · exact absurd e (Nat.ne_of_lt lt)
        · exact absurd e (Nat.ne_of_lt (Nat.lt_succ_of_lt lt))⟩
      show wpAny _ _ _ _ _ _
      exact wpAny_pure (wpAny_pure fin)
    · match r₂, hr₂ with
      | .error e, hr₂ => exact hr₂
      | .ok (.ret x), hr₂ =>
        obtain ⟨rfl, h', tk, c, rfl, hS, hk⟩ := hr₂
        (repeat (any_goals (first | assumption | wp_step)))
        exact h _ _ _ hS hk
      | .ok .next, hr₂ => exact hr₂.elim
      | .ok .brk, hr₂ => exact hr₂.elim
      | .ok .cont, hr₂ => exact hr₂.elim
  | .ok .next, hr => exact hr.elim
  | .ok .brk, hr => exact hr.elim
  | .ok .cont, hr => exact hr.elim
end
/-- set(xs): its members, their number -/
def rSetL (w : World) (K : PySem.W.Frag) : List V → Hp → VK → Prop := fun vs H Q => ∃ (a : Addr) (ns : List Int), vs = [V.ref a] ∧ SqL K H a (ns.map V.int) ∧ ns.length + 1 < scanBound ∧
  ∀ (p : Addr) (ks : List Int), H p = none → ks.Nodup → (∀ k, k ∈ ks ↔ k ∈ ns) → Q (.ref p) (upd H p (SetO w p (fun j => decide (j ∈ ns)) ks.length))
section
variable {X : Cx}
theorem cr_setL (hc : X.calm = true) : CallR X (.type "set") (rSetL X.w X.K) := by
  intro pins s σ H vs us Q I rel h
  obtain ⟨a, ns, rfl, hs, hb, q⟩ := h
  obtain ⟨its, rv, hl, fits⟩ := I.list hs
  rw [Vals.ref1 rel]
  refine set_of_list (I.ok.hd hc) hl.isList rv.ints hb fun h' tk c R hk => ?_
  obtain ⟨o, es, ep, t, ho, hex, hd, g, nd, hm, _, _, hn, _⟩ := id R
  have hlen : (es.toList.map keyOf).length = c := by rw [List.length_map, Array.length_toList]; exact hn
  have q' := q s.heap.objs.size (es.toList.map keyOf) (I.hok.fresh (Nat.le_refl _)) nd fun k => by rw [← hm k]; exact ⟨of_decide_eq_true, decide_eq_true⟩
  rw [hlen] at q'
  exact ⟨.ref _, _, I.laid (t' := tk) hk (Nat.le_refl _) (setO_new R), rfl, q'⟩

/-! ### an own exception made without arguments -/
theorem pmk_own0 {C : Addr} {bmB : List Value} {B newId initId : String} {x : Str} {p pos : Pos} (F : ExcBaseFacts B newId initId bmB) (q : PySem.W.excIn X.K C bmB newId = true) (gC : X.mg x = some (.ref C)) (kC : PySem.W.keepIn X.K (.ref C) = true)
    (r : Raises X (.ref C)) (hg : Gl X x) (hdb : (x == ("__debug__" : Str)) = false := by decide) : PMk X (.Call (.Name x p) [] [] pos) (fun _ H Q => Q (.ref C) none H) := by
  intro pins s σ H Q I h
  refine wpAny_Call_Name_kw (ld_glob I hg gC (PySem.W.callWith_K0 I.kIn kC ?_) hdb)
  obtain ⟨bm, N, nm, qn, bs, hdct, sn, sub, ab, col, dd, k0, k1, k2, k3, k5, mN, hC, hN, hni, T⟩ := exc_obj I.kIn q
  show wpAny _ _ (call (.ref C) []) _ _ _
  exact wpAny_call_exc_subT F T hC hN hni (fun h' e hm => mk_of I hm r h (I.hok.gone hm.new)) (Nat.zero_le _)

/-! ### f(e), f a local name that holds one of several defs; what it raises is wished for at the slots -/
def tLoc (i : Nat) (Pd : Addr → Sp → Prop) (E : L2.St → XK) (t : TA) : TE := fun σ H Q => ∃ f sp, σ[i]? = some (some (.ref f)) ∧ Pd f sp ∧ t σ H fun vs H1 => sp vs H1 Q (E σ)
theorem pe_loc {CX : CXT} {k i : Nat} {Pd : Addr → Sp → Prop} {E : L2.St → XK} {x : Str} {p pos : Pos} {e : Expr} {es : List Expr} {t : TA}
    (A : ∀ f sp, Pd f sp → ∃ (fd : FuncData) (ps : List Str), FnOk X.prog X.w X.K X.mg X.base CX k f fd ps sp ∧ PySem.W.keepIn X.K (.ref f) = true ∧ Binds X.K fd ps [])
    (hr : Room k X.A) (hN : X.N[i]? = some x) (hv : Vis X.env.scope x) (hx : ∀ σ, PassesAt CX X σ (E σ)) (ha : PA X (e :: es) t)
    (no1 : (x == ("__debug__" : Str)) = false := by decide) (no2 : (x == ("__classdict__" : Str)) = false := by decide)
    (he : starEach (e :: es) X.env = (false, eval e X.env) :: starEach es X.env := by rfl) (hpl : (backTo pos (starEach es X.env)).any (·.1) = false := by rfl) : PE X (.Call (.Name x p) (e :: es) [] pos) (tLoc i Pd E t) := by
  refine ⟨fun pins s σ H Q I h => ?_⟩
  obtain ⟨f, sp, hs, hP, ht⟩ := h
  obtain ⟨fd, ps, F, hk, hb⟩ := A f sp hP
  refine wpAny_Call_Name_kw (thn ((pe_var (pos := p) hN hv no1 no2).run pins s σ H (fun v H1 => v = .ref f ∧ H1 = H) I ⟨_, hs, rfl, rfl⟩) fun u s1 ⟨v, H1, I1, r1, q1⟩ => ?_)
  obtain ⟨rfl, rfl⟩ := q1
  cases r1
  exact PySem.W.callWith_K (h₀ := X.base) I.ok.mod.kin hk (thn (ha.run pos pins s1 σ _ _ I1 ht) fun us s2 ⟨vs, H2, I2, r, q⟩ => ⟨I2.kIn, run_fnS F hr hb (hx σ) I2 r q⟩) he hpl
end
end PalR
/-! The program's own tests of a value: is_int, is_from, need_numbers. -/
namespace PalD
open PySem L2 PalR
/-! ### the text by places -/
def top (i : Nat) : Stmt := PySem.Challenge.pw_palbuilds_k80_whole_orders_of_letters.main.body.getD i (.Pass ⟨0, 0, 0, 0⟩)
abbrev sIsInt : Stmt := top 5
abbrev sIsFrom : Stmt := top 6
abbrev sNeed : Stmt := top 9
abbrev sOrders : Stmt := top 10
abbrev sAll : Stmt := top 11
abbrev sShort : Stmt := top 12
abbrev sLong : Stmt := top 13
abbrev sLens : Stmt := top 14
abbrev sTaken : Stmt := top 16
abbrev sPick : Stmt := top 17
abbrev sAlike : Stmt := top 18
abbrev sSizes : Stmt := top 19
abbrev sLaw : Stmt := top 20
/-- what the top leaves: built-in names, constants, the exception's class -/
structure Txt (K : PySem.W.Frag) (mg : Str → Option Value) (C : Addr) : Prop where
  isi : mg "isinstance" = none
  int : mg "int" = none
  bool : mg "bool" = none
  str : mg "str" = none
  tuple : mg "tuple" = none
  list : mg "list" = none
  set : mg "set" = none
  len : mg "len" = none
  all : mg "all" = none
  sum : mg "sum" = none
  min : mg "min" = none
  sorted : mg "sorted" = none
  range : mg "range" = none
  enumerate : mg "enumerate" = none
  letters : ∃ t, mg "LETTERS" = some (.str "abcde" t)
  most : ∃ t, mg "MOST_LETTERS" = some (.int 9 t)
  gC : mg "BadNumber" = some (.ref C)
  xC : PySem.W.excIn K C [.type "ValueError", .type "Exception", .type "BaseException", .type "object"] "ValueError.__new__" = true
  kC : true = PySem.W.keepIn K (.ref C)
  bC : PySem.W.subIn K (.ref C) (.type "BaseException") = some true
  tC : PySem.W.typeIn K (.ref C) = some (.type "type")
  eC : PySem.W.exmOne K (.ref C) (.ref C) = some true
section
variable {P : Program} {w : World} {K : PySem.W.Frag} {mg : Str → Option Value} {base : Heap} {C : Addr}
/-! ### is_int, is_from -/
/-- is a plain thing a whole number (True and False are none) -/
def plainI : V → Option Bool
  | .int _ => some true
  | .bl _ => some false
  | .str _ => some false
  | _ => none
def fromV (lo hi : Int) : V → Bool
  | .int i => decide (lo ≤ i ∧ i ≤ hi)
  | _ => false
def spIsInt : Sp := fun vs H Q _ => ∃ (x : V) (b : Bool), vs = [x] ∧ plainI x = some b ∧ Q (.bl b) H
def spIsFrom : Sp := fun vs H Q _ => ∃ (x : V) (b : Bool) (lo hi : Int), vs = [x, .int lo, .int hi] ∧ plainI x = some b ∧ Q (.bl (fromV lo hi x)) H
theorem scII : FnScope ["value"] ["value"] (defScope sIsInt) := ⟨rfl, rfl, rfl, by decide +kernel, rfl, by decide +kernel, by decide +kernel⟩
theorem ok_isInt {f : Addr} {fd : FuncData} (F : Fun K "is_int" "is_int" sIsInt f fd) (T : Txt K mg C) : FnOk P w K mg base CX0 1 f fd ["value"] spIsInt := by
  refine F.ok scII (fun vs H Q E h => ?_) (fun cdv A outer s H vs Q E hr h => ?_)
  · obtain ⟨x, b, rfl, _⟩ := h
    rfl
  obtain ⟨x, b, rfl, hb, q⟩ := h
  refine ⟨_, pss_one (ps_ret (pe_and (pe_callB call_isi (by rfl) T.isi (by decide +kernel) (pa_cons (pv 0) (pa_cons (pe_bltn (v := .ty "int") (by rfl) T.int (by decide +kernel) rfl) pa_nil)))
    (pe_one (pe_not (pe_callB call_isi (by rfl) T.isi (by decide +kernel) (pa_cons (pv 0) (pa_cons (pe_bltn (v := .ty "bool") (by rfl) T.bool (by decide +kernel) rfl) pa_nil))))))), ?_⟩
  refine ⟨_, rfl, x, .ty "int", ?_⟩
  cases x with
  | int i =>
    cases hb
    exact ⟨_, _, true, rfl, .ty "int", .base (.int i), kit_ty (by decide +kernel), true, rfl, _, rfl, _, .ty "bool", _, _, false, rfl, .ty "bool", .base (.int i), kit_ty (by decide +kernel), false, rfl, q⟩
  | bl y =>
    cases hb
    exact ⟨_, _, true, rfl, .ty "int", .base (.bl y), kit_ty (by decide +kernel), true, rfl, _, rfl, _, .ty "bool", _, _, true, rfl, .ty "bool", .base (.bl y), kit_ty (by decide +kernel), true, rfl, q⟩
  | str y =>
    cases hb
    exact ⟨_, _, false, rfl, .ty "int", .base (.str y), kit_ty (by decide +kernel), false, rfl, q⟩
  | _ => cases hb
theorem scIF : FnScope ["value", "least", "most"] ["value", "least", "most"] (defScope sIsFrom) := ⟨rfl, rfl, rfl, by decide +kernel, rfl, by decide +kernel, by decide +kernel⟩
theorem ok_isFrom {f fI : Addr} {fd fdI : FuncData} (F : Fun K "is_from" "is_from" sIsFrom f fd) (FI : Fun K "is_int" "is_int" sIsInt fI fdI) (bI : Binds K fdI ["value"] []) (mI : mg "is_int" = some (.ref fI)) (T : Txt K mg C) :
    FnOk P w K mg base CX0 2 f fd ["value", "least", "most"] spIsFrom := by
  have GI : FnOk P w K mg base CX0 1 fI fdI ["value"] spIsInt := ok_isInt FI T
  refine F.ok scIF (fun vs H Q E h => ?_) (fun cdv A outer s H vs Q E hr h => ?_)
  · obtain ⟨x, b, lo, hi, rfl, _⟩ := h
    rfl
  obtain ⟨x, b, lo, hi, rfl, hb, q⟩ := h
  refine ⟨_, pss_one (ps_ret (pe_and (pe_call GI hr rfl mI FI.kp bI .nil pass0 (pa_cons (pv 0) pa_nil)) (pe_one (pe_chain op_le op_le (pv 1) (pv 0) (pv 2))))), ?_⟩
  refine ⟨_, rfl, x, b, rfl, hb, b, rfl, ?_⟩
  cases x with
  | int i =>
    cases hb
    refine ⟨_, rfl, _, rfl, lo, i, rfl, rfl, _, rfl, ?_⟩
    by_cases h1 : lo ≤ i
    · rw [if_pos (decide_eq_true h1)]
      refine ⟨_, rfl, i, hi, rfl, rfl, ?_⟩
      have e : fromV lo hi (.int i) = decide (i ≤ hi) := by simp [fromV, h1]
      rw [e] at q
      exact q
    · rw [if_neg (by simpa using h1)]
      have e : fromV lo hi (.int i) = false := by simp [fromV, h1]
      rw [e] at q
      exact q
  | bl y =>
    cases hb
    exact q
  | str y =>
    cases hb
    exact q
  | _ => cases hb
/-! ### need_numbers -/
theorem same_new {H : Hp} {p : Addr} (h : H p = none) (o : HO) : Same H (upd H p o) := fun b u q => by
  rw [upd_ne (ne_of_none q h)]
  exact q
def isNum (x : V) : Bool := fromV 0 9 x
/-- what need_numbers lets pass of a tuple's items: they are told as ints ns, one to five, from 0 to 9, adding up to 9 at most -/
def GoodN (xs : List V) : Prop := 1 ≤ xs.length ∧ xs.length ≤ 5 ∧ (∀ x ∈ xs, isNum x = true) ∧ ∀ ns : List Int, xs = ns.map V.int → ns.sum ≤ 9
theorem nums_of : ∀ {xs : List V}, (∀ x ∈ xs, isNum x = true) → ∃ ns : List Int, xs = ns.map V.int
  | [], _ => ⟨[], rfl⟩
  | x :: xs, h => by
    obtain ⟨ns, e⟩ := nums_of (xs := xs) fun y hy => h y (by simp [hy])
    have hx := h x (by simp)
    cases x with
    | int i => exact ⟨i :: ns, by rw [e] <;> rfl⟩
    | _ => simp [isNum, fromV] at hx
def spNeed (K : PySem.W.Frag) (C : Addr) : Sp := fun vs H Q E => ∃ x : V, vs = [x] ∧
  ((∃ (a : Addr) (xs : List V), x = .ref a ∧ H a = some (.tup xs) ∧ (∀ v ∈ xs, ∃ b, plainI v = some b) ∧ (GoodN xs → ∀ H', Same H H' → Q .non H') ∧ (¬ GoodN xs → ∀ H', Same H H' → E (.ref C) none H')) ∨
   (∃ t : Value, TyX K H x t ∧ PySem.W.kitOne K t (.type "tuple") = some false ∧ ∀ H', Same H H' → E (.ref C) none H'))
theorem scN : FnScope ["value", "one"] ["value"] (defScope sNeed) := ⟨rfl, rfl, rfl, by decide +kernel, rfl, by decide +kernel, by decide +kernel⟩
theorem ok_need {f fF : Addr} {fd fdF : FuncData} (F : Fun K "need_numbers" "need_numbers" sNeed f fd) (FF : Fun K "is_from" "is_from" sIsFrom fF fdF) (bF : Binds K fdF ["value", "least", "most"] []) (mF : mg "is_from" = some (.ref fF))
    (GF : FnOk P w K mg base CX0 2 fF fdF ["value", "least", "most"] spIsFrom) (T : Txt K mg C) : FnOk P w K mg base (L2.CX P w) 3 f fd ["value"] (spNeed K C) := by
  obtain ⟨tl, mL⟩ := T.letters
  obtain ⟨tm, mM⟩ := T.most
  refine F.okX scN (fun vs H Q E h => ?_) (fun cdv A outer s H vs Q E hr h => ?_)
  · obtain ⟨x, rfl, _⟩ := h
    rfl
  obtain ⟨x, rfl, h⟩ := h
  refine ⟨_, pss_cons (ps_if (PW.pt (pw_or (pt_not (pt_val (pe_callB call_isi (by rfl) T.isi (by decide +kernel) (pa_cons (pv 0) (pa_cons (pe_bltn (v := .ty "tuple") (by rfl) T.tuple (by decide +kernel) rfl) pa_nil)))))
        (pw_or1 (pt_not (pt_chain op_le op_le pe_int (pe_callB call_len_seq (by rfl) T.len PySem.boot_len (pa_cons (pv 0) pa_nil)) (pe_callB call_len_str (by rfl) T.len PySem.boot_len (pa_cons (pe_glob (v := .str "abcde") (by rfl) mL ⟨_, rfl⟩) pa_nil)))))))
      (pss_one (ps_raise rfl (takes_of rfl rfl rfl rfl) (pmk_own0 PySem.F.excBase_ValueError T.xC T.gC T.kC.symm (raises_own T.bC T.tC) (by rfl)))) pss_nil)
    (pss_one (ps_if (PW.pt (pw_or (pt_not (pt_val (pe_callB (cr_all (by rfl)) (by rfl) T.all (by decide +kernel) (pa_cons
          (pe_lc (own := [("one", 1)]) (g := gName 1) (tt := tYes) (by rfl) scN.nd (pi_tup (pv 0)) (blkOk_by (own := [("one", 1)]) (N := ["value", "one"]) (sc := defScope sNeed) (by decide +kernel))
            (fun _ _ _ _ _ => pg_name (i := 1) scN.nd rfl (Or.inl rfl)) (fun _ _ _ _ _ => pts_nil)
            (fun _ _ _ _ _ => pe_call GF hr (by rfl) mF FF.kp bF .nil pass0 (pa_cons (pv 1) (pa_cons pe_int (pa_cons (pe_glob (v := .int 9) (by rfl) mM ⟨_, rfl⟩) pa_nil))))) pa_nil))))
        (pw_or1 (pt_cmpR op_gt (pe_callB (cr_sumT (by rfl)) (by rfl) T.sum (by decide +kernel) (pa_cons (pv 0) pa_nil)) (pe_glob (v := .int 9) (by rfl) mM ⟨_, rfl⟩) (nomark _)))))
      (pss_one (ps_raise rfl (takes_of rfl rfl rfl rfl) (pmk_own0 PySem.F.excBase_ValueError T.xC T.gC T.kC.symm (raises_own T.bC T.tC) (by rfl)))) pss_nil)), ?_⟩
  refine ⟨_, rfl, x, .ty "tuple", ?_⟩
  rcases h with ⟨a, xs, rfl, ha, hpl, qG, qB⟩ | ⟨t, hT, hk, q⟩
  · refine ⟨_, _, true, rfl, .ty "tuple", .base (.tup ha), kit_ty (by decide +kernel), true, rfl, iteF ?_⟩
    refine ⟨_, rfl, a, xs, rfl, .inr (SqT.of ha), _, _, rfl, rfl, _, rfl, ?_⟩
    refine ite2 (fun c1 => ?_) (fun c1 => ?_)
    · have c1' : (1 : Int) ≤ (xs.length : Int) := of_decide_eq_true c1
      refine ⟨_, rfl, (by decide +kernel), _, _, rfl, rfl, _, rfl, ?_⟩
      have e5 : ("abcde" : Str).length = 5 := by decide +kernel
      rw [e5]
      by_cases c2 : (xs.length : Int) ≤ ((5 : Nat) : Int)
      · rw [decide_eq_true c2]
        refine iteF ?_
        -- the comprehension
        refine ⟨.ref a, rfl, a, rfl, ⟨_, SqT.of ha⟩, fun D hD => ?_⟩
        have sD : ∀ o, Same H (upd H D o) := fun o => same_new hD o
        refine lc_tup (K := K) (a := a) (xs := xs) (fun i H' => H' = upd H D (.lst ((xs.take i).map fun v => V.bl (isNum v)))) rfl (fun i H' _ e => by rw [e]; exact SqT.of (sD _ _ _ ha)) (fun i v H' hi e => ?_) (fun H' e => ?_)
        · subst e
          refine ⟨rfl, v, rfl, ?_⟩
          obtain ⟨b, hb⟩ := hpl v (List.mem_of_getElem? hi)
          have hil := (List.getElem?_eq_some_iff.mp hi).1
          refine ⟨v, b, 0, 9, rfl, hb, _, upd_same, ?_, ?_⟩
          · rw [List.length_map, List.length_take]
            exact small1000 (by omega)
          · rw [upd_upd, List.take_add_one, hi, List.map_append]
            rfl
        · subst e
          rw [List.take_length]
          refine ⟨D, xs.map isNum, rfl, SqL.of (by rw [upd_same, List.map_map] <;> rfl), _, rfl, ?_⟩
          by_cases c3 : ∀ x ∈ xs, isNum x = true
          · have e3 : ((xs.map isNum).all id) = true := by
              rw [List.all_map, List.all_eq_true]
              exact c3
            rw [e3]
            refine iteF ?_
            obtain ⟨ns, en⟩ := nums_of c3
            refine ⟨.ref a, rfl, a, ns, rfl, SqT.of (by rw [← en]; exact sD _ _ _ ha), _, _, rfl, rfl, _, rfl, ?_⟩
            by_cases c4 : (9 : Int) < ns.sum
            · rw [decide_eq_true c4]
              refine iteT (qB (fun g => ?_) _ (sD _))
              have := g.2.2.2 ns en
              omega
            · rw [decide_eq_false c4]
              refine iteF (qG ⟨by omega, by omega, c3, fun ms em => ?_⟩ _ (sD _))
              have e6 : ms = ns := by
                have z : ms.map V.int = ns.map V.int := em.symm.trans en
                exact (List.map_inj_right fun x y h => V.int.inj h).mp z
              rw [e6]
              omega
          · have e3 : ((xs.map isNum).all id) = false := by
              rw [List.all_map]
              refine Bool.eq_false_iff.mpr fun z => c3 ?_
              rw [List.all_eq_true] at z
              exact z
            rw [e3]
            exact iteT (iteT (qB (fun g => c3 g.2.2.1) _ (sD _)))
      · rw [decide_eq_false c2]
        exact iteT (qB (fun g => c2 (by have := g.2.1; omega)) H (Same.refl H))
    · refine ⟨_, rfl, ?_⟩
      exact iteT (qB (fun g => c1 (decide_eq_true (by have := g.1; omega))) H (Same.refl H))
  · exact ⟨t, _, false, rfl, .ty "tuple", hT, hk, false, rfl, iteT (iteT (q H (Same.refl H)))⟩
end
end PalD
/-! orders_of, all_orders: what they put into their list. -/
namespace PalD
open PySem L2 PalR
/-! ### texts, heaps -/
/-- the text of a list of codes -/
abbrev tx (l : List Nat) : Str := ⟨l.toArray⟩
theorem tx_list (l : List Nat) : (tx l).cps.toList = l := by simp
theorem tx_len (l : List Nat) : (tx l).length = l.length := SX.S_len l
theorem tx_snoc (l : List Nat) (c : Nat) : tx l ++ (⟨#[c]⟩ : Str) = tx (l ++ [c]) := SX.S_cat l [c]
theorem tx_inj {a b : List Nat} (h : tx a = tx b) : a = b := SX.S_inj h
theorem letter_at {a : Nat} (h : a < 5) : atI ("abcde" : Str).cps.toList (a : Int) = some (97 + a) := by
  have e : ("abcde" : Str).cps.toList = [97, 98, 99, 100, 101] := by decide +kernel
  rw [e]
  refine atI_nat ?_
  match a, h with
  | 0, _ => rfl
  | 1, _ => rfl
  | 2, _ => rfl
  | 3, _ => rfl
  | 4, _ => rfl
/-- all but what stands at p stays -/
def But (p : Addr) (H H' : Hp) : Prop := ∀ b o, b ≠ p → H b = some o → H' b = some o
theorem But.of {p : Addr} {H H' : Hp} (h : Same H H') : But p H H' := fun b o _ e => h b o e
theorem But.trans {p : Addr} {H H1 H2 : Hp} (a : But p H H1) (b : But p H1 H2) : But p H H2 := fun c o n e => b c o n (a c o n e)
theorem But.upd {p : Addr} {H : Hp} (o : HO) : But p H (upd H p o) := fun b u n e => by rw [upd_ne n]; exact e
abbrev lstN (l : List Nat) : List V := l.map fun (m : Nat) => V.int (m : Int)
abbrev lstZ (l : List Int) : List V := l.map V.int
theorem refs_app (a b : List Pr) : refs (a ++ b) = refs a ++ refs b := List.map_append
/-- the pairs as they are told to Python -/
abbrev cvt (y : Int × List Nat) : Int × Str := (y.1, tx y.2)
theorem Stand.but {fd : Addr} {H H' : Hp} {xs : List Pr} {l : List V} (h : Stand H xs) (hf : H fd = some (.lst l)) (k : But fd H H') : Stand H' xs := fun b hb => k _ _ (ne_of (h b hb) hf (by intro z; cases z)) (h b hb)

theorem sum_cast : ∀ l : List Nat, (l.map fun (m : Nat) => (m : Int)).sum = (l.sum : Int)
  | [] => rfl
  | x :: l => by
    rw [List.map_cons, List.sum_cons, List.sum_cons, sum_cast l]
    omega

/-! ### orders in parts -/
def part0 (left plan : List Nat) (total : Int) : List (Int × List Nat) := if left.sum = 0 then [(total, plan)] else []
def part1 (left plan : List Nat) (now : List Int) (total : Int) (a : Nat) : List (Int × List Nat) :=
  if 0 < left.getD a 0 then Pal.orders (Pal.dec left a).sum (Pal.dec left a) (plan ++ [97 + a]) (Pal.grow now a) (total + now.getD a 0) else []
def parts (left plan : List Nat) (now : List Int) (total : Int) (i : Nat) : List (Int × List Nat) := part0 left plan total ++ (List.range i).flatMap (part1 left plan now total)
def whole (left plan : List Nat) (now : List Int) (total : Int) : List (Int × List Nat) := Pal.orders left.sum left plan now total
theorem parts_succ (left plan : List Nat) (now : List Int) (total : Int) (i : Nat) : parts left plan now total (i + 1) = parts left plan now total i ++ part1 left plan now total i := by
  unfold parts
  rw [List.range_succ, List.flatMap_append, List.flatMap_singleton, List.append_assoc]
theorem parts_end (left plan : List Nat) (now : List Int) (total : Int) : parts left plan now total left.length = whole left plan now total := by
  unfold parts whole part0
  cases h : left.sum with
  | zero =>
    rw [if_pos rfl]
    have e : (List.range left.length).flatMap (part1 left plan now total) = [] := by
      refine List.flatMap_eq_nil_iff.mpr fun a _ => ?_
      have q := Pal.getD_le_sum left a
      unfold part1
      rw [if_neg (by omega)]
    rw [e]
    rfl
  | succ n =>
    rw [if_neg (by omega), List.nil_append]
    show _ = (List.range left.length).flatMap _
    refine Pal.flatMap_same _ fun a _ => ?_
    unfold part1
    by_cases hp : 0 < left.getD a 0
    · have q := Pal.dec_sum hp
      have e : (Pal.dec left a).sum = n := by omega
      rw [if_pos hp, if_pos hp, e]
    · rw [if_neg hp, if_neg hp]
theorem parts_le (left plan : List Nat) (now : List Int) (total : Int) {i : Nat} (h : i ≤ left.length) : (parts left plan now total i).length ≤ (whole left plan now total).length := by
  rw [← parts_end]
  have key : ∀ j, (parts left plan now total i).length ≤ (parts left plan now total (i + j)).length := fun j => by
    induction j with
    | zero => exact Nat.le_refl _
    | succ j ih =>
      rw [← Nat.add_assoc, parts_succ, List.length_append]
      omega
  have q := key (left.length - i)
  rw [Nat.add_sub_cancel' h] at q
  exact q

/-! ### orders_of -/
def spOrders (n : Nat) : Sp := fun vs H Q _ => ∃ (l nw fd : Addr) (left plan : List Nat) (now : List Int) (total : Int) (old : List V), vs = [.ref l, .str (tx plan), .ref nw, .int total, .ref fd] ∧
  H l = some (.lst (lstN left)) ∧ H nw = some (.lst (lstZ now)) ∧ H fd = some (.lst old) ∧ l ≠ fd ∧ nw ≠ fd ∧ left.sum < n ∧ now.length = left.length ∧ left.length ≤ 5 ∧ plan.length + left.sum ≤ 1000 ∧ old.length + (whole left plan now total).length ≤ 1000000 ∧
  ∀ (new : List Pr) (H' : Hp), But fd H H' → H' fd = some (.lst (old ++ refs new)) → Stand H' new → new.map (·.2) = (whole left plan now total).map cvt → Q .non H'
abbrev nmO : List Str := ["left", "plan", "now", "total", "found", "at", "many", "rest", "later", "spot", "number", "one"]
abbrev psO : List Str := ["left", "plan", "now", "total", "found"]
theorem scO : FnScope nmO psO (defScope sOrders) := ⟨rfl, rfl, rfl, by decide +kernel, rfl, by decide +kernel, by decide +kernel⟩
theorem under_million {n : Nat} (h : n ≤ 1000000) : n < sizeLine := Nat.lt_of_le_of_lt h (by decide)
section
variable {P : Program} {w : World} {K : PySem.W.Frag} {mg : Str → Option Value} {base : Heap} {C : Addr}
theorem ok_orders {n : Nat} {f : Addr} {fd : FuncData} (F : Fun K "orders_of" "orders_of" sOrders f fd) (b : Binds K fd psO []) (m : mg "orders_of" = some (.ref f)) (T : Txt K mg C)
    (G : FnOk P w K mg base CX0 n f fd psO (spOrders n)) : FnOk P w K mg base CX0 (n + 1) f fd psO (spOrders (n + 1)) := by
  obtain ⟨tl, mL⟩ := T.letters
  refine F.ok scO (fun vs H Q E h => ?_) (fun cdv A outer s H vs Q E hr h => ?_)
  · obtain ⟨_, _, _, _, _, _, _, _, rfl, _⟩ := h
    rfl
  obtain ⟨l, nw, d, left, plan, now, total, old, rfl, hl, hn, hd, nl, nn, hs, hlen, h5, hp, hz, q⟩ := h
  refine ⟨_, C8.pss_cut (ps_if (pt_cmpR op_eq (pe_callB (cr_sum (by rfl)) (by rfl) T.sum (by decide +kernel) (pa_cons (pv 0) pa_nil)) pe_int (nomark _))
      (pss_one (ps_expr (pe_bm PySem.F.plainAttrs_list PySem.F.slot_list_append PySem.F.type_list_append mt_append (pv 4) (pa_cons (pe_tup (pa_cons (pv 3) (pa_cons (pv 1) pa_nil))) pa_nil)))) pss_nil)
    (pss_one (ps_for PassesOwn.never rfl (pi_enum (by rfl) T.enumerate (pa_cons (pv 0) pa_nil)) (pg_tup rfl (pgs_cons (pg_name (i := 5) scO.nd rfl (Or.inr rfl)) (pgs_cons (pg_name (i := 6) scO.nd rfl (Or.inl rfl)) pgs_nil)))
      (pss_one (ps_if (pt_cmpR op_gt (pv 6) pe_int (nomark _))
        (pss_cons (ps_setLc (i := 7) (own := [("spot", 9), ("number", 10)]) (g := gTup K 2 (gCons (gName 9) (gCons (gName 10) gNil))) (tt := tYes) (by rfl) scO.nd rfl rfl (sw_true rfl rfl rfl (by decide +kernel))
            (pi_enum (by rfl) T.enumerate (pa_cons (pv 0) pa_nil)) (blkOk_by (own := [("spot", 9), ("number", 10)]) (N := nmO) (sc := defScope sOrders) (by decide +kernel))
            (fun _ _ _ _ _ => pg_tup rfl (pgs_cons (pg_name (i := 9) scO.nd rfl (Or.inl rfl)) (pgs_cons (pg_name (i := 10) scO.nd rfl (Or.inl rfl)) pgs_nil))) (fun _ _ _ _ _ => pts_nil)
            (fun _ _ _ _ _ => pe_ifExp (pt_cmpR op_eq (pv 9) (pv 5) (nomark _)) (pe_op op_sub (pv 10) pe_int) (pv 10)))
        (pss_cons (ps_setLc (i := 8) (own := [("spot", 9), ("one", 11)]) (g := gTup K 2 (gCons (gName 9) (gCons (gName 11) gNil))) (tt := tYes) (by rfl) scO.nd rfl rfl (sw_true rfl rfl rfl (by decide +kernel))
            (pi_enum (by rfl) T.enumerate (pa_cons (pv 2) pa_nil)) (blkOk_by (own := [("spot", 9), ("one", 11)]) (N := nmO) (sc := defScope sOrders) (by decide +kernel))
            (fun _ _ _ _ _ => pg_tup rfl (pgs_cons (pg_name (i := 9) scO.nd rfl (Or.inl rfl)) (pgs_cons (pg_name (i := 11) scO.nd rfl (Or.inl rfl)) pgs_nil))) (fun _ _ _ _ _ => pts_nil)
            (fun _ _ _ _ _ => pe_ifExp (pt_cmpR op_eq (pv 9) (pv 5) (nomark _)) (pv 11) (pe_op op_add (pv 11) (pe_ix (r := rIxL K) ix_list (pv 2) (pv 5) (fun _ _ => rfl)))))
        (pss_one (ps_expr (pe_call G hr rfl m F.kp b .nil pass0 (pa_cons (pv 7) (pa_cons (pe_op op_add_str (pv 1) (pe_ix ix_str (pe_glob (v := .str "abcde") (by rfl) mL ⟨_, rfl⟩) (pv 5) (fun _ _ => rfl)))
            (pa_cons (pv 8) (pa_cons (pe_op op_add (pv 3) (pe_ix ix_list (pv 2) (pv 5) (fun _ _ => rfl))) (pa_cons (pv 4) pa_nil))))))))))
        pss_nil)))), ?_⟩
  have hl' : H l = some (.lst ((left.map fun (m : Nat) => (m : Int)).map V.int)) := by
    rw [List.map_map]
    exact hl
  refine ⟨fun σ H1 => σ = [some (.ref l), some (.str (tx plan)), some (.ref nw), some (.int total), some (.ref d), none, none, none, none, none, none, none] ∧
    ∃ new : List Pr, But d H H1 ∧ H1 d = some (.lst (old ++ refs new)) ∧ Stand H1 new ∧ new.map (·.2) = (part0 left plan total).map cvt, ?_, ?_⟩
  · refine ⟨_, rfl, l, _, rfl, SqL.of hl', rfl, _, rfl, ?_⟩
    rw [sum_cast]
    refine ite2 (fun c => ?_) (fun c => ?_)
    · have c' : left.sum = 0 := by
        have := V.int.inj (of_decide_eq_true c)
        omega
      refine ⟨_, rfl, .inl ⟨rfl, _, SqL.of hd⟩, _, rfl, _, rfl, (by show 2 ≤ sizeLine; decide), fun t ht => ?_⟩
      have hdt : d ≠ t := ne_of_none hd ht
      have w1 : (whole left plan now total).length = 1 := by
        unfold whole
        rw [c']
        rfl
      refine ⟨d, old, _, rfl, rfl, (by rw [upd_ne hdt]; exact hd), under_million (by omega), rfl, [(t, total, tx plan)], fun b o nb e => ?_, upd_same, fun b hb => ?_, ?_⟩
      · rw [upd_ne nb]
        exact same_new ht _ _ _ e
      · rw [List.mem_singleton.mp hb, upd_ne hdt.symm]
        exact upd_same
      · unfold part0
        rw [if_pos c']
        rfl
    · have c' : ¬ left.sum = 0 := fun z => c (decide_eq_true (by rw [z]; rfl))
      refine ⟨rfl, [], .of (Same.refl H), ?_, fun b hb => (nomatch hb), ?_⟩
      · show H d = some (.lst (old ++ []))
        rw [List.append_nil]
        exact hd
      · unfold part0
        rw [if_neg c']
        rfl
  rintro σ H1 ⟨rfl, new0, k0, e0, s0, m0⟩
  have lenN : (lstN left).length = left.length := List.length_map _
  refine ⟨_, rfl, l, lstN left, rfl, SqL.of (k0 _ _ nl hl), for_it walk_enum (fun i σ H2 => ∃ (new : List Pr) (v5 v6 v7 v8 : Option V),
      σ = [some (.ref l), some (.str (tx plan)), some (.ref nw), some (.int total), some (.ref d), v5, v6, v7, v8, none, none, none] ∧
      But d H H2 ∧ H2 d = some (.lst (old ++ refs new)) ∧ Stand H2 new ∧ new.map (·.2) = (parts left plan now total i).map cvt)
    ⟨new0, none, none, none, none, rfl, k0, e0, s0, by unfold parts; rw [List.range_zero, List.flatMap_nil, List.append_nil]; exact m0⟩
    (fun i σ H2 _ ⟨_, _, _, _, _, _, k, _⟩ => SqL.of (k _ _ nl hl)) ?_ ?_⟩
  · rintro i x σ H2 H2' hi ⟨new, v5, v6, v7, v8, rfl, k2, e2, s2, m2⟩ ⟨T0, x0, y0, rfl, hT0, rfl, hx0, hy0⟩
    rw [lenN] at hi
    have gi : left[i]? = some left[i] := List.getElem?_eq_getElem hi
    have gd : left.getD i 0 = left[i] := by rw [List.getD_eq_getElem?_getD, gi] <;> rfl
    have hy : y0 = .int (left[i] : Nat) := by
      have z : (lstN left)[i]? = some y0 := hy0
      rw [List.getElem?_map, gi] at z
      exact (Option.some.inj z).symm
    obtain rfl : V.int (i : Nat) = x0 := Option.some.inj hx0
    subst hy
    have hdT : d ≠ T0 := ne_of_none e2 hT0
    have s3 : Same H2 (upd H2 T0 (.tup [.int (i : Nat), .int (left[i] : Nat)])) := same_new hT0 _
    generalize hH3 : upd H2 T0 (.tup [.int (i : Nat), .int (left[i] : Nat)]) = H3 at s3
    have t3 : H3 T0 = some (.tup [.int (i : Nat), .int (left[i] : Nat)]) := by
      rw [← hH3]
      exact upd_same
    have l3 : H3 l = some (.lst (lstN left)) := s3 _ _ (k2 _ _ nl hl)
    have n3 : H3 nw = some (.lst (lstZ now)) := s3 _ _ (k2 _ _ nn hn)
    have d3 : H3 d = some (.lst (old ++ refs new)) := s3 _ _ e2
    refine ⟨T0, _, rfl, SqT.of t3, rfl, _, _, rfl, _, _, rfl, rfl, ?_⟩
    refine ⟨_, rfl, _, _, rfl, rfl, _, rfl, ?_⟩
    refine ite2 (fun c => ?_) (fun c => ?_)
    · have c' : 0 < left.getD i 0 := by
        have := of_decide_eq_true c
        rw [gd]
        omega
      -- rest
      refine ⟨_, rfl, l, lstN left, rfl, SqL.of l3, fun D1 hD1 => lc_it walk_enum (fun j H4 => Same H3 H4 ∧ H4 D1 = some (.lst ((lstN (Pal.dec left i)).take j))) ⟨same_new hD1 _, upd_same⟩ (fun j H4 _ z => SqL.of (z.1 _ _ l3)) ?_ ?_⟩
      · rintro j x H4 H4' hj ⟨s4, e4⟩ ⟨T1, x1, y1, rfl, hT1, rfl, hx1, hy1⟩
        rw [lenN] at hj
        have gj : left[j]? = some left[j] := List.getElem?_eq_getElem hj
        have hy : y1 = .int (left[j] : Nat) := by
          have z : (lstN left)[j]? = some y1 := hy1
          rw [List.getElem?_map, gj] at z
          exact (Option.some.inj z).symm
        obtain rfl : V.int (j : Nat) = x1 := Option.some.inj hx1
        subst hy
        have s5 := same_new hT1 (.tup [.int (j : Nat), .int (left[j] : Nat)])
        have e5 := s5 _ _ e4
        have gj2 : (lstN (Pal.dec left i))[j]? = some (.int ((Pal.dec left i).getD j 0 : Nat)) := by
          rw [List.getElem?_map, List.getD_eq_getElem?_getD, List.getElem?_eq_getElem (by rw [Pal.dec_length]; exact hj)]
          rfl
        have small : ((lstN (Pal.dec left i)).take j).length < sizeLine := small1000 (by rw [List.length_take, List.length_map, Pal.dec_length]; omega)
        have gdj : left.getD j 0 = left[j] := by rw [List.getD_eq_getElem?_getD, gj] <;> rfl
        have put : ∀ z : V, z = .int ((Pal.dec left i).getD j 0 : Nat) → Same H3 (upd (upd H4 T1 (.tup [.int (j : Nat), .int (left[j] : Nat)])) D1 (.lst ((lstN (Pal.dec left i)).take j ++ [z]))) ∧
            (upd (upd H4 T1 (.tup [.int (j : Nat), .int (left[j] : Nat)])) D1 (.lst ((lstN (Pal.dec left i)).take j ++ [z]))) D1 = some (.lst ((lstN (Pal.dec left i)).take (j + 1))) := fun z hz => by
          refine ⟨fun b o e => ?_, ?_⟩
          · rw [upd_ne (ne_of_none e hD1)]
            exact s5 _ _ (s4 _ _ e)
          · rw [upd_same, List.take_add_one, gj2, hz]
            rfl
        refine ⟨T1, _, rfl, SqT.of upd_same, rfl, _, _, rfl, _, _, rfl, rfl, rfl, ?_⟩
        refine ⟨_, rfl, _, rfl, rfl, _, rfl, ?_⟩
        refine ite2 (fun c2 => ?_) (fun c2 => ?_)
        · have ej : j = i := by
            have := V.int.inj (of_decide_eq_true c2)
            omega
          subst ej
          refine ⟨_, rfl, _, _, rfl, rfl, _, e5, small, put _ ?_⟩
          rw [Pal.dec_getD, if_pos rfl, gdj]
          rw [gdj] at c'
          exact congrArg V.int (by omega)
        · have ej : ¬ j = i := fun z => c2 (decide_eq_true (by rw [z]))
          refine ⟨_, rfl, _, e5, small, put _ ?_⟩
          rw [Pal.dec_getD, if_neg ej, gdj]
      rintro H4 ⟨s4, e4⟩
      rw [lenN, List.take_of_length_le (by rw [List.length_map, Pal.dec_length]; exact Nat.le_refl _)] at e4
      have lenZ : (lstZ now).length = now.length := List.length_map _
      have n4 : H4 nw = some (.lst (lstZ now)) := s4 _ _ n3
      have hin : i < now.length := by omega
      have gin : now.getD i 0 = now[i] := by rw [List.getD_eq_getElem?_getD, List.getElem?_eq_getElem hin] <;> rfl
      have atn : atI (lstZ now) ((i : Nat) : Int) = some (.int now[i]) := atI_nat (by rw [List.getElem?_map, List.getElem?_eq_getElem hin] <;> rfl)
      -- later
      refine ⟨_, rfl, nw, lstZ now, rfl, SqL.of n4, fun D2 hD2 => lc_it walk_enum (fun j H5 => Same H4 H5 ∧ H5 D2 = some (.lst ((lstZ (Pal.grow now i)).take j))) ⟨same_new hD2 _, upd_same⟩ (fun j H5 _ z => SqL.of (z.1 _ _ n4)) ?_ ?_⟩
      · rintro j x H5 H5' hj ⟨s5, e5⟩ ⟨T1, x1, y1, rfl, hT1, rfl, hx1, hy1⟩
        rw [lenZ] at hj
        have gj : now[j]? = some now[j] := List.getElem?_eq_getElem hj
        have hy : y1 = .int now[j] := by
          have z : (lstZ now)[j]? = some y1 := hy1
          rw [List.getElem?_map, gj] at z
          exact (Option.some.inj z).symm
        obtain rfl : V.int (j : Nat) = x1 := Option.some.inj hx1
        subst hy
        have s6 := same_new hT1 (.tup [.int (j : Nat), .int now[j]])
        have e6 := s6 _ _ e5
        have gdj : now.getD j 0 = now[j] := by rw [List.getD_eq_getElem?_getD, gj] <;> rfl
        have gj2 : (lstZ (Pal.grow now i))[j]? = some (.int ((Pal.grow now i).getD j 0)) := by
          rw [List.getElem?_map, List.getD_eq_getElem?_getD, List.getElem?_eq_getElem (by rw [Pal.grow_length]; exact hj)]
          rfl
        have small : ((lstZ (Pal.grow now i)).take j).length < sizeLine := small1000 (by rw [List.length_take, List.length_map, Pal.grow_length]; omega)
        have put : ∀ z : V, z = .int ((Pal.grow now i).getD j 0) → Same H4 (upd (upd H5 T1 (.tup [.int (j : Nat), .int now[j]])) D2 (.lst ((lstZ (Pal.grow now i)).take j ++ [z]))) ∧
            (upd (upd H5 T1 (.tup [.int (j : Nat), .int now[j]])) D2 (.lst ((lstZ (Pal.grow now i)).take j ++ [z]))) D2 = some (.lst ((lstZ (Pal.grow now i)).take (j + 1))) := fun z hz => by
          refine ⟨fun b o e => ?_, ?_⟩
          · rw [upd_ne (ne_of_none e hD2)]
            exact s6 _ _ (s5 _ _ e)
          · rw [upd_same, List.take_add_one, gj2, hz]
            rfl
        refine ⟨T1, _, rfl, SqT.of upd_same, rfl, _, _, rfl, _, _, rfl, rfl, rfl, ?_⟩
        refine ⟨_, rfl, _, rfl, rfl, _, rfl, ?_⟩
        refine ite2 (fun c2 => ?_) (fun c2 => ?_)
        · have ej : j = i := by
            have := V.int.inj (of_decide_eq_true c2)
            omega
          subst ej
          refine ⟨_, rfl, _, e6, small, put _ ?_⟩
          rw [Pal.grow_getD _ _ _ hj, if_pos rfl, gdj]
        · have ej : ¬ j = i := fun z => c2 (decide_eq_true (by rw [z]))
          refine ⟨_, rfl, _, rfl, _, rfl, nw, _, _, _, rfl, rfl, SqL.of (s6 _ _ (s5 _ _ n4)), atn, _, _, rfl, rfl, _, e6, small, put _ ?_⟩
          rw [Pal.grow_getD _ _ _ hj, if_neg ej, gdj, gin]
      rintro H5 ⟨s5, e5⟩
      rw [lenZ, List.take_of_length_le (by rw [List.length_map, Pal.grow_length]; exact Nat.le_refl _)] at e5
      -- the call
      have ds := Pal.dec_sum c'
      have ls := Pal.getD_le_sum left i
      have k5 : Same H3 H5 := s4.trans s5
      have d5 := k5 _ _ d3
      have pl : part1 left plan now total i = whole (Pal.dec left i) (plan ++ [97 + i]) (Pal.grow now i) (total + now.getD i 0) := by
        unfold part1
        rw [if_pos c']
        rfl
      have le1 := parts_le left plan now total (i := i + 1) (by omega)
      rw [parts_succ, List.length_append, pl] at le1
      have nl2 : new.length = (parts left plan now total i).length := by
        have := congrArg List.length m2
        simpa using this
      refine ⟨_, rfl, _, rfl, _, rfl, _, _, _, rfl, rfl, (by decide +kernel), letter_at (by omega), _, _, rfl, rfl, ?_, _, rfl, _, rfl, _, rfl, _, rfl, nw, _, _, _, rfl, rfl, SqL.of (s5 _ _ n4), atn, _, _, rfl, rfl, _, rfl, ?_⟩
      · rw [tx_len]
        exact Nat.le_of_lt (small1000 (by show plan.length + 1 ≤ 1000; omega))
      refine ⟨D1, D2, d, Pal.dec left i, plan ++ [97 + i], Pal.grow now i, total + now.getD i 0, old ++ refs new, ?_, s5 _ _ e4, e5, d5, ?_, ?_, by omega, by rw [Pal.grow_length, Pal.dec_length]; exact hlen, by rw [Pal.dec_length]; exact h5,
        by rw [List.length_append, List.length_singleton]; omega, by rw [List.length_append, List.length_map, nl2]; omega, fun new2 H6 k6 d6 st6 m6 => ?_⟩
      · rw [← tx_snoc, gin]
        rfl
      · exact fun z => by
          rw [z, d3] at hD1
          cases hD1
      · exact fun z => by
          rw [z, s4 _ _ d3] at hD2
          cases hD2
      · have st5 : Stand H5 new := fun b hb => k5 _ _ (s3 _ _ (s2 b hb))
        have b5 : But d H H5 := (k2.trans (.of s3)).trans (.of k5)
        refine ⟨new ++ new2, _, _, _, _, rfl, b5.trans k6, ?_, fun b hb => ?_, ?_⟩
        · rw [d6, refs_app, List.append_assoc]
        · exact (List.mem_append.mp hb).elim (Stand.but (xs := new) st5 d5 k6 b) (st6 b)
        · rw [List.map_append, m2, m6, parts_succ, List.map_append, pl]
    · have c' : ¬ 0 < left.getD i 0 := fun z => c (decide_eq_true (by rw [gd] at z; omega))
      refine ⟨new, _, _, _, _, rfl, k2.trans (.of s3), d3, fun b hb => s3 _ _ (s2 b hb), ?_⟩
      have pl : part1 left plan now total i = [] := by
        unfold part1
        rw [if_neg c']
      rw [parts_succ, pl, List.append_nil]
      exact m2
  · rintro σ H2 ⟨new, v5, v6, v7, v8, rfl, k2, e2, s2, m2⟩
    rw [lenN, parts_end] at m2
    exact q new H2 k2 e2 s2 m2
end
end PalD
/-! all_orders, shortest_order, longest_order, order_lengths. -/
namespace PalD
open PySem L2 PalR
theorem lt_cvt (x y : Int × List Nat) : ltP (cvt x) (cvt y) ↔ Pal.lt2 x y := by
  unfold ltP Pal.lt2 cvt
  simp
theorem five_pow {k n : Nat} (hk : k ≤ 5) (hn : n ≤ 9) : max 1 (k ^ (n - 1)) ≤ 1000000 := by
  have h1 : k ^ (n - 1) ≤ 5 ^ (n - 1) := Nat.pow_le_pow_left hk _
  have h2 : 5 ^ (n - 1) ≤ 5 ^ 8 := Nat.pow_le_pow_right (by decide) (by omega)
  have h3 : (5 : Nat) ^ 8 ≤ 1000000 := by decide
  omega
theorem four_pow {k n : Nat} (hk : k ≤ 4) (hn : n ≤ 6) : max 1 (k ^ (n - 1)) ≤ 1024 := by
  have h1 : k ^ (n - 1) ≤ 4 ^ (n - 1) := Nat.pow_le_pow_left hk _
  have h2 : 4 ^ (n - 1) ≤ 4 ^ 5 := Nat.pow_le_pow_right (by decide) (by omega)
  have h3 : (4 : Nat) ^ 5 ≤ 1024 := by decide
  omega
theorem empty_tx : ("" : Str) = tx [] := by decide +kernel
theorem rep_ones : ∀ k : Nat, (List.replicate k [V.int 1]).flatten = lstZ (List.replicate k 1)
  | 0 => rfl
  | k + 1 => by
    rw [List.replicate_succ, List.flatten_cons, rep_ones k]
    rfl
section
variable {P : Program} {w : World} {K : PySem.W.Frag} {mg : Str → Option Value} {base : Heap} {C : Addr}
theorem orders_all {f : Addr} {fd : FuncData} (F : Fun K "orders_of" "orders_of" sOrders f fd) (b : Binds K fd psO []) (m : mg "orders_of" = some (.ref f)) (T : Txt K mg C) :
    ∀ n : Nat, FnOk P w K mg base CX0 n f fd psO (spOrders n)
  | 0 => by
    have no : ∀ vs H Q E, ¬ spOrders 0 vs H Q E := fun vs H Q E h => by
      obtain ⟨_, _, _, _, _, _, _, _, _, _, _, _, _, _, h, _⟩ := h
      exact Nat.not_lt_zero _ h
    exact ⟨fun vs H Q E h => absurd h (no vs H Q E), fun A outer s H args us vs Q E _ _ _ _ h => absurd h (no vs H Q E)⟩
  | n + 1 => ok_orders F b m T (orders_all F b m T n)
/-! ### all_orders -/
def spAll (K : PySem.W.Frag) : Sp := fun vs H Q _ => ∃ (a : Addr) (told : List Nat), vs = [.ref a] ∧ SqT K H a (lstN told) ∧ told.length ≤ 5 ∧ told.sum ≤ 9 ∧
  ∀ (r : Addr) (new : List Pr) (H' : Hp), Same H H' → H' r = some (.lst (refs new)) → Stand H' new → new.map (·.2) = (Pal.all told).map cvt → Q (.ref r) H'
theorem scA : FnScope ["told", "found"] ["told"] (defScope sAll) := ⟨rfl, rfl, rfl, by decide +kernel, rfl, by decide +kernel, by decide +kernel⟩
theorem seqT {H H' : Hp} {a : Addr} {xs : List V} (e : Same H H') (h : SqT K H a xs) : SqT K H' a xs := by
  exact h.imp (fun z => z.imp (e a _) fun ⟨o, z⟩ => ⟨o, e a _ z⟩) id
theorem ok_all {f fO : Addr} {fd fdO : FuncData} (F : Fun K "all_orders" "all_orders" sAll f fd) (FO : Fun K "orders_of" "orders_of" sOrders fO fdO) (bO : Binds K fdO psO []) (mO : mg "orders_of" = some (.ref fO)) (T : Txt K mg C) :
    FnOk P w K mg base CX0 11 f fd ["told"] (spAll K) := by
  have GO : FnOk P w K mg base CX0 10 fO fdO psO (spOrders 10) := orders_all FO bO mO T 10
  refine F.ok scA (fun vs H Q E h => ?_) (fun cdv A outer s H vs Q E hr h => ?_)
  · obtain ⟨_, _, rfl, _⟩ := h
    rfl
  obtain ⟨a, told, rfl, ha, h5, h9, q⟩ := h
  refine ⟨_, pss_cons (ps_set (i := 1) scA.nd rfl (Or.inl rfl) (pe_lst pa_nil))
    (pss_cons (ps_expr (pe_call GO hr rfl mO FO.kp bO .nil pass0 (pa_cons (pe_callTy call_list_of (by rfl) T.list (by decide +kernel) (pa_cons (pv 0) pa_nil)) (pa_cons pe_str
        (pa_cons (pe_op op_rep (pe_lst (pa_cons pe_int pa_nil)) (pe_callB call_len_seq (by rfl) T.len PySem.boot_len (pa_cons (pv 0) pa_nil))) (pa_cons pe_int (pa_cons (pv 1) pa_nil)))))))
    (pss_one (ps_ret (pv 1)))), ?_⟩
  refine ⟨(by show 0 ≤ sizeLine; decide), fun r hr1 => ?_⟩
  have s1 := same_new hr1 (.lst [])
  generalize e1 : upd H r (.lst []) = H1 at s1
  have r1 : H1 r = some (.lst []) := by
    rw [← e1]
    exact upd_same
  refine ⟨_, rfl, a, _, rfl, .inr (seqT s1 ha), fun p1 hp1 => ?_⟩
  have s2 := same_new hp1 (.lst (lstN told))
  generalize e2 : upd H1 p1 (.lst (lstN told)) = H2 at s2
  have p1' : H2 p1 = some (.lst (lstN told)) := by
    rw [← e2]
    exact upd_same
  refine ⟨(by show 1 ≤ sizeLine; decide), fun p2 hp2 => ?_⟩
  have s3 := same_new hp2 (.lst [.int 1])
  generalize e3 : upd H2 p2 (.lst [.int 1]) = H3 at s3
  have p2' : H3 p2 = some (.lst [.int 1]) := by
    rw [← e3]
    exact upd_same
  have lenN : (lstN told).length = told.length := List.length_map _
  refine ⟨_, rfl, a, _, rfl, .inr (seqT s3 (seqT s2 (seqT s1 ha))), p2, _, _, rfl, rfl, p2', ?_⟩
  rw [lenN, Int.toNat_natCast, rep_ones]
  refine ⟨by omega, by omega, Nat.le_of_lt (small1000 (by show 1 * told.length ≤ 1000; omega)), fun p3 hp3 => ?_⟩
  have s4 := same_new hp3 (.lst (lstZ (List.replicate told.length 1)))
  generalize e4 : upd H3 p3 (.lst (lstZ (List.replicate told.length 1))) = H4 at s4
  have p3' : H4 p3 = some (.lst (lstZ (List.replicate told.length 1))) := by
    rw [← e4]
    exact upd_same
  have r4 := s4 _ _ (s3 _ _ (s2 _ _ r1))
  have ne1 : p1 ≠ r := fun z => by
    rw [z, r1] at hp1
    cases hp1
  have ne3 : p3 ≠ r := fun z => by
    rw [z, s3 _ _ (s2 _ _ r1)] at hp3
    cases hp3
  refine ⟨_, rfl, p1, p3, r, told, [], List.replicate told.length 1, 0, [], ?_, s4 _ _ (s3 _ _ p1'), p3', r4, ne1, ne3, by omega, List.length_replicate, h5, by show 0 + told.sum ≤ 1000; omega, ?_, fun new H5 k d st mm => ?_⟩
  · rw [← empty_tx]
    rfl
  · show 0 + (Pal.all told).length ≤ 1000000
    have := Pal.all_length told
    have := five_pow h5 h9
    omega
  · refine ⟨_, rfl, q r new H5 (fun b o e => ?_) d st mm⟩
    refine k b o (ne_of_none e hr1) (s4 _ _ (s3 _ _ (s2 _ _ (s1 _ _ e))))
/-! ### the three answers -/
/-- told numbers that are let pass -/
def GoodT (told : List Nat) : Prop := 1 ≤ told.length ∧ told.length ≤ 5 ∧ told.sum ≤ 9
theorem good_nums {told : List Nat} (h : GoodT told) : GoodN (lstN told) := by
  have lenN : (lstN told).length = told.length := List.length_map _
  refine ⟨by rw [lenN]; exact h.1, by rw [lenN]; exact h.2.1, fun x hx => ?_, fun ns e => ?_⟩
  · obtain ⟨m, hm, rfl⟩ := List.mem_map.mp hx
    obtain ⟨i, hi, e⟩ := List.getElem_of_mem hm
    have q := Pal.getD_le_sum told i
    rw [List.getD_eq_getElem?_getD, List.getElem?_eq_getElem hi] at q
    have q' : m ≤ told.sum := by
      rw [← e]
      exact q
    have := h.2.2
    exact decide_eq_true ⟨by omega, by omega⟩
  · have e2 : ns = told.map fun (m : Nat) => (m : Int) := by
      have z : ns.map V.int = (told.map fun (m : Nat) => (m : Int)).map V.int := by
        rw [← e, List.map_map]
        rfl
      exact (List.map_inj_right fun x y h => V.int.inj h).mp z
    rw [e2, sum_cast]
    have := h.2.2
    omega
theorem plain_nums (told : List Nat) : ∀ v ∈ lstN told, ∃ b, plainI v = some b := fun v hv => by
  obtain ⟨m, _, rfl⟩ := List.mem_map.mp hv
  exact ⟨_, rfl⟩
/-- a value that is refused -/
def BadV (K : PySem.W.Frag) (H : Hp) (x : V) : Prop :=
  (∃ (a : Addr) (xs : List V), x = .ref a ∧ H a = some (.tup xs) ∧ (∀ v ∈ xs, ∃ b, plainI v = some b) ∧ ¬ GoodN xs) ∨ (∃ t : Value, TyX K H x t ∧ PySem.W.kitOne K t (.type "tuple") = some false)
/-- what a caller says of the argument: good numbers, with what is wanted then; or a bad value -/
def Asked (K : PySem.W.Frag) (C : Addr) (H : Hp) (E : XK) (x : V) (then' : Addr → List Nat → Prop) : Prop :=
  (∃ (a : Addr) (told : List Nat), x = .ref a ∧ H a = some (.tup (lstN told)) ∧ GoodT told ∧ then' a told) ∨ (BadV K H x ∧ ∀ H', Same H H' → E (.ref C) none H')
def spShort (K : PySem.W.Frag) (C : Addr) : Sp := fun vs H Q E => ∃ x : V, vs = [x] ∧ Asked K C H E x fun _ told => ∀ (m : Int × List Nat) (H' : Hp), Same H H' → m ∈ Pal.all told → (∀ y ∈ Pal.all told, ¬ Pal.lt2 y m) → Q (.str (tx m.2)) H'
def spLong (K : PySem.W.Frag) (C : Addr) : Sp := fun vs H Q E => ∃ x : V, vs = [x] ∧ Asked K C H E x fun _ told => ∀ (m : Int × List Nat) (H' : Hp), Same H H' → m ∈ Pal.all told → (∀ y ∈ Pal.all told, ¬ Pal.lt2 (-y.1, y.2) (-m.1, m.2)) → Q (.str (tx m.2)) H'
def spLens (K : PySem.W.Frag) (C : Addr) : Sp := fun vs H Q E => ∃ x : V, vs = [x] ∧ Asked K C H E x fun _ told => told.length ≤ 4 ∧ told.sum ≤ 6 ∧
  ∀ (ns : List Int) (p : Addr) (H' : Hp), Same H H' → ns.Pairwise (· < ·) → (∀ k, k ∈ ns ↔ ∃ y ∈ Pal.all told, y.1 = k) → H' p = some (.tup (ns.map V.int)) → Q (.ref p) H'
/-- the defs that the three call -/
structure Under (P : Program) (w : World) (K : PySem.W.Frag) (mg : Str → Option Value) (base : Heap) (C fN fA : Addr) (fdN fdA : FuncData) : Prop where
  gN : FnOk P w K mg base (L2.CX P w) 3 fN fdN ["value"] (spNeed K C)
  bN : Binds K fdN ["value"] []
  mN : mg "need_numbers" = some (.ref fN)
  kN : PySem.W.keepIn K (.ref fN) = true
  gA : FnOk P w K mg base CX0 11 fA fdA ["told"] (spAll K)
  bA : Binds K fdA ["told"] []
  mA : mg "all_orders" = some (.ref fA)
  kA : PySem.W.keepIn K (.ref fA) = true
theorem scSh : FnScope ["told"] ["told"] (defScope sShort) := ⟨rfl, rfl, rfl, by decide +kernel, rfl, by decide +kernel, by decide +kernel⟩
theorem passE {X : Cx} {E : XK} (tk : Takes X fun cls d _ H => E cls d H) : Passes (L2.CX X.prog X.w) X E := passes_call tk fun _ _ _ _ h => h
theorem new_some {new : List Pr} {told : List Nat} (h : new.map (·.2) = (Pal.all told).map cvt) : new ≠ [] := fun e => by
  rw [e] at h
  exact Pal.all_some told (List.map_eq_nil_iff.mp h.symm)
theorem new_mem {new : List Pr} {told : List Nat} (h : new.map (·.2) = (Pal.all told).map cvt) {b : Pr} (hb : b ∈ new) : ∃ m ∈ Pal.all told, b.2 = cvt m := by
  have q : b.2 ∈ new.map (·.2) := List.mem_map.mpr ⟨b, hb, rfl⟩
  rw [h] at q
  obtain ⟨m, hm, e⟩ := List.mem_map.mp q
  exact ⟨m, hm, e.symm⟩
theorem mem_new {new : List Pr} {told : List Nat} (h : new.map (·.2) = (Pal.all told).map cvt) {m : Int × List Nat} (hm : m ∈ Pal.all told) : ∃ b ∈ new, b.2 = cvt m := by
  have q : cvt m ∈ (Pal.all told).map cvt := List.mem_map.mpr ⟨m, hm, rfl⟩
  rw [← h] at q
  obtain ⟨b, hb, e⟩ := List.mem_map.mp q
  exact ⟨b, hb, e⟩
theorem at_one (x y : V) : atI [x, y] 1 = some y := atI_nat (j := 1) rfl
theorem ok_short {f fN fA : Addr} {fd fdN fdA : FuncData} (F : Fun K "shortest_order" "shortest_order" sShort f fd) (U : Under P w K mg base C fN fA fdN fdA) (T : Txt K mg C) : FnOk P w K mg base (L2.CX P w) 12 f fd ["told"] (spShort K C) := by
  refine F.okX scSh (fun vs H Q E h => ?_) (fun cdv A outer s H vs Q E hr h => ?_)
  · obtain ⟨x, rfl, _⟩ := h
    rfl
  obtain ⟨x, rfl, h⟩ := h
  refine ⟨_, pss_cons (ps_expr (pe_call U.gN (hr.mono (by decide)) rfl U.mN U.kN U.bN .nil (passE (takes_of rfl rfl rfl rfl)) (pa_cons (pv 0) pa_nil)))
    (pss_one (ps_ret (pe_ix ix_tup (pe_callB (cr_minIS (by rfl) hr.units) (by rfl) T.min (by decide +kernel) (pa_cons (pe_call U.gA hr rfl U.mA U.kA U.bA .nil pass0 (pa_cons (pv 0) pa_nil)) pa_nil)) pe_int (fun _ _ => rfl)))), ?_⟩
  refine ⟨x, rfl, ?_⟩
  rcases h with ⟨a, told, rfl, ha, hg, q⟩ | ⟨hb, q⟩
  · refine ⟨_, rfl, .inl ⟨a, _, rfl, ha, plain_nums told, fun _ H1 s1 => ?_, fun n => absurd (good_nums hg) n⟩⟩
    refine ⟨_, rfl, a, told, rfl, SqT.of (s1 _ _ ha), hg.2.1, hg.2.2, fun r new H2 s2 r2 st mm => ?_⟩
    refine ⟨r, new, rfl, SqL.of r2, st, new_some mm, fun b hb hl => ?_⟩
    obtain ⟨m, hm, e⟩ := new_mem mm hb
    refine ⟨b.1, _, 1, _, rfl, rfl, SqT.of (st b hb), at_one _ _, ?_⟩
    rw [e]
    refine q m H2 (s1.trans s2) hm fun y hy z => ?_
    obtain ⟨c, hc, e2⟩ := mem_new mm hy
    refine hl c hc ?_
    rw [e, e2]
    exact (lt_cvt _ _).mpr z
  · rcases hb with ⟨a, xs, rfl, ha, hp, hb⟩ | ⟨t, ht, hk⟩
    · exact ⟨_, rfl, .inl ⟨a, xs, rfl, ha, hp, fun g => absurd g hb, fun _ => q⟩⟩
    · exact ⟨_, rfl, .inr ⟨t, ht, hk, q⟩⟩
theorem scLo : FnScope ["told", "size", "plan"] ["told"] (defScope sLong) := ⟨rfl, rfl, rfl, by decide +kernel, rfl, by decide +kernel, by decide +kernel⟩
abbrev flip (b : Int × Str) : Int × Str := (-b.1, b.2)
theorem ok_long {f fN fA : Addr} {fd fdN fdA : FuncData} (F : Fun K "longest_order" "longest_order" sLong f fd) (U : Under P w K mg base C fN fA fdN fdA) (T : Txt K mg C) : FnOk P w K mg base (L2.CX P w) 12 f fd ["told"] (spLong K C) := by
  refine F.okX scLo (fun vs H Q E h => ?_) (fun cdv A outer s H vs Q E hr h => ?_)
  · obtain ⟨x, rfl, _⟩ := h
    rfl
  obtain ⟨x, rfl, h⟩ := h
  refine ⟨_, pss_cons (ps_expr (pe_call U.gN (hr.mono (by decide)) rfl U.mN U.kN U.bN .nil (passE (takes_of rfl rfl rfl rfl)) (pa_cons (pv 0) pa_nil)))
    (pss_one (ps_ret (pe_ix ix_tup (pe_callB (cr_minIS (by rfl) hr.units) (by rfl) T.min (by decide +kernel) (pa_cons
      (pe_lc (own := [("size", 1), ("plan", 2)]) (g := gTup K 2 (gCons (gName 1) (gCons (gName 2) gNil))) (tt := tYes) (by rfl) scLo.nd (pi_list (pe_call U.gA hr rfl U.mA U.kA U.bA .nil pass0 (pa_cons (pv 0) pa_nil)))
        (blkOk_by (own := [("size", 1), ("plan", 2)]) (N := ["told", "size", "plan"]) (sc := defScope sLong) (by decide +kernel))
        (fun _ _ _ _ _ => pg_tup rfl (pgs_cons (pg_name (i := 1) scLo.nd rfl (Or.inl rfl)) (pgs_cons (pg_name (i := 2) scLo.nd rfl (Or.inl rfl)) pgs_nil))) (fun _ _ _ _ _ => pts_nil)
        (fun _ _ _ _ _ => pe_tup (pa_cons (pe_un un_neg (pv 1)) (pa_cons (pv 2) pa_nil)))) pa_nil)) pe_int (fun _ _ => rfl)))), ?_⟩
  refine ⟨x, rfl, ?_⟩
  rcases h with ⟨a, told, rfl, ha, hg, q⟩ | ⟨hb, q⟩
  · refine ⟨_, rfl, .inl ⟨a, _, rfl, ha, plain_nums told, fun _ H1 s1 => ?_, fun n => absurd (good_nums hg) n⟩⟩
    refine ⟨_, rfl, a, told, rfl, SqT.of (s1 _ _ ha), hg.2.1, hg.2.2, fun r new H2 s2 r2 st mm => ?_⟩
    have lenM : new.length = (Pal.all told).length := by
      have := congrArg List.length mm
      simpa using this
    have few : (Pal.all told).length ≤ 1000000 := Nat.le_trans (Pal.all_length told) (five_pow hg.2.1 hg.2.2)
    refine ⟨r, rfl, ⟨_, SqL.of r2⟩, fun D hD => lc_list (K := K) (a := r) (xs := refs new) (fun i H3 => ∃ made : List Pr, Same H2 H3 ∧ H3 D = some (.lst (refs made)) ∧ Stand H3 made ∧ made.map (·.2) = ((new.take i).map (·.2)).map flip)
      ⟨[], same_new hD _, upd_same, (fun b hb => by cases hb), rfl⟩ (fun i H3 _ ⟨_, s3, _⟩ => SqL.of (s3 _ _ r2)) ?_ ?_⟩
    · rintro i x H3 hx ⟨made, s3, e3, st3, m3⟩
      obtain ⟨b, hb, rfl⟩ : ∃ b, new[i]? = some b ∧ V.ref b.1 = x := by
        rw [List.getElem?_map] at hx
        cases e : new[i]? with
        | none => rw [e] at hx; cases hx
        | some b => rw [e] at hx; exact ⟨b, rfl, Option.some.inj hx⟩
      have hil : i < new.length := (List.getElem?_eq_some_iff.mp hb).1
      refine ⟨b.1, _, rfl, SqT.of (s3 _ _ (st b (List.mem_of_getElem? hb))), rfl, _, _, rfl, _, _, rfl, rfl, rfl, ?_⟩
      refine ⟨_, rfl, _, rfl, _, rfl, (by show 2 ≤ sizeLine; decide), fun t ht => ?_⟩
      have hDt : D ≠ t := ne_of_none e3 ht
      have lm : made.length = i := by
        have := congrArg List.length m3
        simp only [List.length_map, List.length_take] at this
        omega
      refine ⟨refs made, by rw [upd_ne hDt]; exact e3, under_million (by rw [List.length_map]; omega), made ++ [(t, -b.2.1, b.2.2)], fun c o e => ?_, by rw [upd_same, refs_app] <;> rfl, fun c hc => ?_, ?_⟩
      · rw [upd_ne (ne_of_none e hD), upd_ne (ne_of_none (s3 _ _ e) ht)]
        exact s3 _ _ e
      · rcases List.mem_append.mp hc with hc | hc
        · rw [upd_ne (ne_of (st3 c hc) e3 (by intro z; cases z)), upd_ne (ne_of_none (st3 c hc) ht)]
          exact st3 c hc
        · rw [List.mem_singleton.mp hc, upd_ne hDt.symm]
          exact upd_same
      · rw [List.map_append, m3, List.take_add_one, hb, List.map_append, List.map_append]
        rfl
    · rintro H3 ⟨made, s3, e3, st3, m3⟩
      have e4 : made.map (·.2) = ((Pal.all told).map cvt).map flip := by
        rw [m3, List.length_map, List.take_length, mm]
      refine ⟨D, made, rfl, SqL.of e3, st3, fun z => ?_, fun b hb hl => ?_⟩
      · rw [z] at e4
        exact Pal.all_some told (List.map_eq_nil_iff.mp (List.map_eq_nil_iff.mp e4.symm))
      · have hb2 : b.2 ∈ made.map (·.2) := List.mem_map.mpr ⟨b, hb, rfl⟩
        rw [e4] at hb2
        obtain ⟨u, hu, eu⟩ := List.mem_map.mp hb2
        obtain ⟨m, hm, em⟩ := List.mem_map.mp hu
        subst em
        refine ⟨b.1, _, 1, _, rfl, rfl, SqT.of (st3 b hb), at_one _ _, ?_⟩
        rw [← eu]
        refine q m H3 (s1.trans (s2.trans s3)) hm fun y hy z => ?_
        have hy2 : flip (cvt y) ∈ ((Pal.all told).map cvt).map flip := List.mem_map.mpr ⟨_, List.mem_map.mpr ⟨y, hy, rfl⟩, rfl⟩
        rw [← e4] at hy2
        obtain ⟨c, hc, ec⟩ := List.mem_map.mp hy2
        refine hl c hc ?_
        rw [ec, ← eu]
        exact (lt_cvt (-y.1, y.2) (-m.1, m.2)).mpr z
  · rcases hb with ⟨a, xs, rfl, ha, hp, hb⟩ | ⟨t, ht, hk⟩
    · exact ⟨_, rfl, .inl ⟨a, xs, rfl, ha, hp, fun g => absurd g hb, fun _ => q⟩⟩
    · exact ⟨_, rfl, .inr ⟨t, ht, hk, q⟩⟩
theorem scLe : FnScope ["told", "size", "plan"] ["told"] (defScope sLens) := ⟨rfl, rfl, rfl, by decide +kernel, rfl, by decide +kernel, by decide +kernel⟩
/-- few lengths there are -/
theorem few_sizes {told : List Nat} (h6 : told.sum ≤ 6) {ks : List Int} (hd : ks.Nodup) (h : ∀ k ∈ ks, ∃ y ∈ Pal.all told, y.1 = k) : ks.length < 64 := by
  have lo : ∀ k ∈ ks, ((if told.sum = 0 then 0 else 1 : Nat) : Int) ≤ k ∧ k < ((if told.sum = 0 then 0 else 1 : Nat) : Int) + (63 : Nat) := fun k hk => by
    obtain ⟨y, hy, rfl⟩ := h k hk
    have e1 : y.1 = Pal.size y.2 := by
      rw [Pal.all_eq] at hy
      obtain ⟨p, _, rfl⟩ := List.mem_map.mp hy
      rfl
    have e2 := Pal.all_letters hy
    obtain ⟨b1, b2⟩ := Pal.size_bounds y.2
    have b3 := (b1 0 (Nat.zero_le _))
    rw [e2] at b2 b3
    have b4 : (2 : Int) ^ told.sum ≤ 2 ^ 6 := by
      have : (2 : Nat) ^ told.sum ≤ 2 ^ 6 := Nat.pow_le_pow_right (by decide) h6
      exact_mod_cast this
    rw [e1]
    by_cases z : told.sum = 0
    · rw [if_pos z]
      rw [z] at b2
      have : Pal.size y.2 + 1 ≤ 1 := b2
      omega
    · rw [if_neg z]
      have : (2 : Int) ^ 6 = 64 := by decide
      omega
  have := Pal.few_between 63 _ ks hd lo
  omega
theorem ok_lens {f fN fA : Addr} {fd fdN fdA : FuncData} (F : Fun K "order_lengths" "order_lengths" sLens f fd) (U : Under P w K mg base C fN fA fdN fdA) (T : Txt K mg C) : FnOk P w K mg base (L2.CX P w) 12 f fd ["told"] (spLens K C) := by
  refine F.okX scLe (fun vs H Q E h => ?_) (fun cdv A outer s H vs Q E hr h => ?_)
  · obtain ⟨x, rfl, _⟩ := h
    rfl
  obtain ⟨x, rfl, h⟩ := h
  refine ⟨_, pss_cons (ps_expr (pe_call U.gN (hr.mono (by decide)) rfl U.mN U.kN U.bN .nil (passE (takes_of rfl rfl rfl rfl)) (pa_cons (pv 0) pa_nil)))
    (pss_one (ps_ret (pe_callTy call_tuple_of (by rfl) T.tuple (by decide +kernel) (pa_cons (pe_callB (cr_sortedSet (by rfl)) (by rfl) T.sorted (by decide +kernel) (pa_cons (pe_callTy (cr_setL (by rfl)) (by rfl) T.set (by decide +kernel) (pa_cons
      (pe_lc (own := [("size", 1), ("plan", 2)]) (g := gTup K 2 (gCons (gName 1) (gCons (gName 2) gNil))) (tt := tYes) (by rfl) scLe.nd (pi_list (pe_call U.gA hr rfl U.mA U.kA U.bA .nil pass0 (pa_cons (pv 0) pa_nil)))
        (blkOk_by (own := [("size", 1), ("plan", 2)]) (N := ["told", "size", "plan"]) (sc := defScope sLens) (by decide +kernel))
        (fun _ _ _ _ _ => pg_tup rfl (pgs_cons (pg_name (i := 1) scLe.nd rfl (Or.inl rfl)) (pgs_cons (pg_name (i := 2) scLe.nd rfl (Or.inl rfl)) pgs_nil))) (fun _ _ _ _ _ => pts_nil)
        (fun _ _ _ _ _ => pv 1)) pa_nil)) pa_nil)) pa_nil)))), ?_⟩
  refine ⟨x, rfl, ?_⟩
  rcases h with ⟨a, told, rfl, ha, hg, h4, h6, q⟩ | ⟨hb, q⟩
  · refine ⟨_, rfl, .inl ⟨a, _, rfl, ha, plain_nums told, fun _ H1 s1 => ?_, fun n => absurd (good_nums hg) n⟩⟩
    refine ⟨_, rfl, a, told, rfl, SqT.of (s1 _ _ ha), hg.2.1, hg.2.2, fun r new H2 s2 r2 st mm => ?_⟩
    have lenM : new.length = (Pal.all told).length := by
      have := congrArg List.length mm
      simpa using this
    have few : (Pal.all told).length ≤ 1024 := Nat.le_trans (Pal.all_length told) (four_pow h4 h6)
    refine ⟨r, rfl, ⟨_, SqL.of r2⟩, fun D hD => lc_list (K := K) (a := r) (xs := refs new) (fun i H3 => Same H2 H3 ∧ H3 D = some (.lst (((new.take i).map fun b => b.2.1).map V.int)))
      ⟨same_new hD _, upd_same⟩ (fun i H3 _ ⟨s3, _⟩ => SqL.of (s3 _ _ r2)) ?_ ?_⟩
    · rintro i x H3 hx ⟨s3, e3⟩
      obtain ⟨b, hb, rfl⟩ : ∃ b, new[i]? = some b ∧ V.ref b.1 = x := by
        rw [List.getElem?_map] at hx
        cases e : new[i]? with
        | none => rw [e] at hx; cases hx
        | some b => rw [e] at hx; exact ⟨b, rfl, Option.some.inj hx⟩
      have hil : i < new.length := (List.getElem?_eq_some_iff.mp hb).1
      refine ⟨b.1, _, rfl, SqT.of (s3 _ _ (st b (List.mem_of_getElem? hb))), rfl, _, _, rfl, _, _, rfl, rfl, rfl, ?_⟩
      refine ⟨_, rfl, _, e3, under_million (by rw [List.length_map, List.length_map, List.length_take]; omega), fun c o e => ?_, ?_⟩
      · rw [upd_ne (ne_of_none e hD)]
        exact s3 _ _ e
      · rw [upd_same, List.take_add_one, hb, List.map_append, List.map_append]
        rfl
    · rintro H3 ⟨s3, e3⟩
      rw [List.length_map, List.take_length] at e3
      have mem : ∀ k, k ∈ (new.map fun b => b.2.1) ↔ ∃ y ∈ Pal.all told, y.1 = k := fun k => by
        have e4 : (new.map fun b => b.2.1) = (Pal.all told).map (·.1) := by
          have z := congrArg (List.map Prod.fst) mm
          rw [List.map_map, List.map_map] at z
          exact z
        rw [e4, List.mem_map]
      refine ⟨D, _, rfl, SqL.of e3, (by rw [List.length_map]; unfold scanBound; omega), fun p ks hp hnd hks => ?_⟩
      have s4 := same_new hp (SetO w p (fun j => decide (j ∈ new.map fun b => b.2.1)) ks.length)
      refine ⟨p, _, _, rfl, upd_same, few_sizes h6 hnd (fun k hk => (mem k).mp ((hks k).mp hk)), fun ns p2 hns hmem _ hp2 => ?_⟩
      have s5 := same_new hp2 (.lst (ns.map V.int))
      refine ⟨p2, _, rfl, .inl ⟨SqL.of upd_same, fun p3 hp3 => ?_⟩⟩
      refine q ns p3 _ (s1.trans (s2.trans (s3.trans (s4.trans (s5.trans (same_new hp3 _)))))) hns (fun k => ?_) upd_same
      rw [hmem k, ← mem k]
      exact ⟨of_decide_eq_true, decide_eq_true⟩
  · rcases hb with ⟨a, xs, rfl, ha, hp, hb⟩ | ⟨t, ht, hk⟩
    · exact ⟨_, rfl, .inl ⟨a, xs, rfl, ha, hp, fun g => absurd g hb, fun _ => q⟩⟩
    · exact ⟨_, rfl, .inr ⟨t, ht, hk, q⟩⟩
end
end PalD
/-! The law's own helpers: _law_taken, _law_pick, _law_sizes, _law_alike. -/
namespace PalD
open PySem L2 PalR
section
variable {P : Program} {w : World} {K : PySem.W.Frag} {mg : Str → Option Value} {base : Heap} {C : Addr}
/-! ### _law_taken -/
/-- the row of draws: the script, the next place, the mixed number, a cell's rest -/
def RowAt (K : PySem.W.Frag) (a : Addr) (ns : List Int) (H : Hp) (r : Addr) : Prop :=
  SqL K H a (ns.map V.int) ∧ ∃ i j k : Int, H r = some (.lst [.ref a, .int i, .int j, .int k]) ∧ 0 ≤ i ∧ 0 ≤ j ∧ j < 2147483647
theorem seq_but {H H' : Hp} {a r : Addr} {ns : List Int} {x : Addr} {l : List V} (h : SqL K H a (ns.map V.int)) (hr : H r = some (.lst (.ref x :: l))) (k : But r H H') : SqL K H' a (ns.map V.int) := by
  rcases h with (h | ⟨ob, h⟩) | h
  · refine .inl (.inl (k a _ (ne_of h hr fun z => ?_) h))
    cases ns with
    | nil => cases z
    | cons n ns => cases z
  · refine .inl (.inr ⟨ob, k a _ (ne_of h hr fun z => by cases z) h⟩)
  · exact .inr h
def spTaken (K : PySem.W.Frag) : Sp := fun vs H Q _ => ∃ (r a : Addr) (ns : List Int) (m : Int), vs = [.ref r, .int m] ∧ RowAt K a ns H r ∧ 1 ≤ m ∧ m ≤ 1000 ∧
  ∀ (d : Int) (H' : Hp), 0 ≤ d → d < m → But r H H' → RowAt K a ns H' r → Q (.int d) H'
abbrev nmT : List Str := ["_law_row", "_law_many", "_law_found", "_law_cell"]
theorem scT : FnScope nmT ["_law_row", "_law_many"] (defScope sTaken) := ⟨rfl, rfl, rfl, by decide +kernel, rfl, by decide +kernel, by decide +kernel⟩
theorem ok_taken {f : Addr} {fd : FuncData} (F : Fun K "_law_taken" "_law_taken" sTaken f fd) (T : Txt K mg C) : FnOk P w K mg base CX0 1 f fd ["_law_row", "_law_many"] (spTaken K) := by
  refine F.ok scT (fun vs H Q E h => ?_) (fun cdv A outer s H vs Q E hr h => ?_)
  · obtain ⟨_, _, _, _, rfl, _⟩ := h
    rfl
  obtain ⟨r, a, ns, m, rfl, ⟨hS, i, j, k, hR, hi, hj, hj2⟩, hm, hm2, q⟩ := h
  refine ⟨_, pss_cons (ps_if (pt_cmpR op_gt (pe_ix ix_list (pv 0) pe_int (fun _ _ => rfl)) pe_int (nomark _))
      (pss_cons (ps_set (i := 2) scT.nd rfl (Or.inl rfl) (pe_op op_mod (pe_callTy call_int1 (by rfl) T.int (by decide +kernel) (pa_cons (pe_ix ix_list (pv 0) pe_int (fun _ _ => rfl)) pa_nil)) (pv 1)))
      (pss_cons (ps_asg (pe_op op_fdiv (pe_ix ix_list (pv 0) pe_int (fun _ _ => rfl)) (pv 1)) (pg_sub (pv 0) pe_int set_list))
      (pss_one (ps_ret (pv 2))))) pss_nil)
    (pss_cons (ps_asg (pe_op op_add (pe_ix ix_list (pv 0) pe_int (fun _ _ => rfl)) pe_int) (pg_sub (pv 0) pe_int set_list))
    (pss_cons (ps_if (pt_cmpR op_gt (pe_ix ix_list (pv 0) pe_int (fun _ _ => rfl)) (pe_callB call_len_seq (by rfl) T.len PySem.boot_len (pa_cons (pe_ix ix_list (pv 0) pe_int (fun _ _ => rfl)) pa_nil)) (nomark _))
      (pss_cons (ps_asg (pe_op op_mod (pe_callTy call_int1 (by rfl) T.int (by decide +kernel) (pa_cons (pe_op op_add (pe_op op_mul (pe_ix ix_list (pv 0) pe_int (fun _ _ => rfl)) pe_int) pe_int) pa_nil)) pe_int) (pg_sub (pv 0) pe_int set_list))
      (pss_one (ps_ret (pe_op op_mod (pe_callTy call_int1 (by rfl) T.int (by decide +kernel) (pa_cons (pe_op op_fdiv (pe_ix ix_list (pv 0) pe_int (fun _ _ => rfl)) pe_int) pa_nil)) (pv 1))))) pss_nil)
    (pss_cons (ps_set (i := 3) scT.nd rfl (Or.inl rfl) (pe_ix ix_list (pe_ix ix_list (pv 0) pe_int (fun _ _ => rfl)) (pe_op op_sub (pe_ix ix_list (pv 0) pe_int (fun _ _ => rfl)) pe_int) (fun _ _ => rfl)))
    (pss_cons (ps_asg (pe_op op_mod (pe_callTy call_int1 (by rfl) T.int (by decide +kernel) (pa_cons (pe_op op_add (pe_op op_add (pe_op op_mul (pe_ix ix_list (pv 0) pe_int (fun _ _ => rfl)) pe_int) (pv 3)) pe_int) pa_nil)) pe_int) (pg_sub (pv 0) pe_int set_list))
    (pss_cons (ps_if (pt_cmpR op_ge (pv 3) (pe_op op_pow pe_int pe_int) (nomark _))
      (pss_one (ps_asg (pe_op op_fdiv (pv 3) (pv 1)) (pg_sub (pv 0) pe_int set_list))) pss_nil)
    (pss_one (ps_ret (pe_op op_mod (pe_callTy call_int1 (by rfl) T.int (by decide +kernel) (pa_cons (pv 3) pa_nil)) (pv 1))))))))), ?_⟩
  have md : ∀ x : Int, 0 ≤ x % m ∧ x % m < m := fun x => ⟨Int.emod_nonneg x (by omega), Int.emod_lt_of_pos x (by omega)⟩
  have mx : ∀ x : Int, 0 ≤ x % 2147483647 ∧ x % 2147483647 < 2147483647 := fun x => ⟨Int.emod_nonneg x (by decide), Int.emod_lt_of_pos x (by decide)⟩
  have step : ∀ (H1 : Hp) (l : List V), But r H H1 → But r H (upd H1 r (.lst l)) := fun H1 l b => b.trans (But.upd _)
  refine ⟨_, rfl, r, _, 3, .int k, rfl, rfl, SqL.of hR, rfl, _, _, rfl, rfl, _, rfl, ?_⟩
  refine ite2 (fun c => ?_) (fun c => ?_)
  · -- a cell's rest
    refine ⟨_, rfl, r, _, 3, .int k, rfl, rfl, SqL.of hR, rfl, .inl ⟨_, rfl, _, rfl, _, _, rfl, rfl, (by omega), ?_⟩⟩
    refine ⟨_, rfl, r, _, 3, .int k, rfl, rfl, SqL.of hR, rfl, _, rfl, _, _, rfl, rfl, ⟨by omega, by omega⟩, ?_⟩
    refine ⟨_, rfl, r, _, 3, 3, rfl, rfl, hR, rfl, ?_⟩
    refine ⟨_, rfl, q _ _ (md k).1 (md k).2 (But.upd _) ⟨seq_but hS hR (But.upd _), i, j, k / m, upd_same, hi, hj, hj2⟩⟩
  -- the next place
  refine ⟨_, rfl, r, _, 1, .int i, rfl, rfl, SqL.of hR, rfl, _, _, rfl, rfl, ?_⟩
  refine ⟨_, rfl, r, _, 1, 1, rfl, rfl, hR, rfl, ?_⟩
  have b1 : But r H (upd H r (.lst [.ref a, .int (i + 1), .int j, .int k])) := But.upd _
  show tSeq _ _ _ _ (upd H r (.lst [.ref a, .int (i + 1), .int j, .int k]))
  have hR1 : (upd H r (.lst [.ref a, .int (i + 1), .int j, .int k])) r = some (.lst [.ref a, .int (i + 1), .int j, .int k]) := upd_same
  have hS1 := seq_but hS hR b1
  generalize upd H r (.lst [.ref a, .int (i + 1), .int j, .int k]) = H1 at b1 hR1 hS1
  refine ⟨_, rfl, r, _, 1, .int (i + 1), rfl, rfl, SqL.of hR1, rfl, _, rfl, r, _, 0, .ref a, rfl, rfl, SqL.of hR1, rfl, a, _, rfl, .inl hS1, _, _, rfl, rfl, _, rfl, ?_⟩
  rw [List.length_map]
  refine ite2 (fun c1 => ?_) (fun c1 => ?_)
  · -- past the script
    refine ⟨_, rfl, r, _, 2, .int j, rfl, rfl, SqL.of hR1, rfl, _, _, rfl, rfl, .inl ⟨by omega, by omega⟩, _, _, rfl, rfl, .inl ⟨_, rfl, _, _, rfl, rfl, (show (0 : Int) < 2147483647 by decide), ?_⟩⟩
    refine ⟨_, rfl, r, _, 2, 2, rfl, rfl, hR1, rfl, ?_⟩
    have z := mx (j * 48271 + 11)
    have b2 : But r H1 (upd H1 r (.lst [.ref a, .int (i + 1), .int ((j * 48271 + 11) % 2147483647), .int k])) := But.upd _
    have hR2 : (upd H1 r (.lst [.ref a, .int (i + 1), .int ((j * 48271 + 11) % 2147483647), .int k])) r = some (.lst [.ref a, .int (i + 1), .int ((j * 48271 + 11) % 2147483647), .int k]) := upd_same
    refine ⟨_, rfl, r, _, 2, _, rfl, rfl, SqL.of hR2, rfl, _, _, rfl, rfl, ⟨by decide, by decide⟩, .inl ⟨_, rfl, _, rfl, _, _, rfl, rfl, (by omega), ?_⟩⟩
    exact q _ _ (md _).1 (md _).2 (b1.trans b2) ⟨seq_but hS1 hR1 b2, i + 1, _, k, hR2, by omega, z.1, z.2⟩
  -- a cell
  have c1' : ¬ (ns.length : Int) < i + 1 := fun z => c1 (decide_eq_true z)
  have hin : i.toNat < ns.length := by omega
  have ei : i + 1 - 1 = ((i.toNat : Nat) : Int) := by omega
  have at1 : atI (ns.map V.int) (i + 1 - 1) = some (.int ns[i.toNat]) := by
    rw [ei]
    exact atI_nat (by rw [List.getElem?_map, List.getElem?_eq_getElem hin] <;> rfl)
  generalize ns[i.toNat] = cell at at1
  refine ⟨_, rfl, r, _, 0, .ref a, rfl, rfl, SqL.of hR1, rfl, _, rfl, r, _, 1, .int (i + 1), rfl, rfl, SqL.of hR1, rfl, _, _, rfl, rfl, a, _, _, _, rfl, rfl, hS1, at1, ?_⟩
  refine ⟨_, rfl, r, _, 2, .int j, rfl, rfl, SqL.of hR1, rfl, _, _, rfl, rfl, .inl ⟨by omega, by omega⟩, _, rfl, _, _, rfl, rfl, _, _, rfl, rfl, .inl ⟨_, rfl, _, _, rfl, rfl, (show (0 : Int) < 2147483647 by decide), ?_⟩⟩
  refine ⟨_, rfl, r, _, 2, 2, rfl, rfl, hR1, rfl, ?_⟩
  have z := mx (j * 48271 + cell + 11)
  have b2 : But r H1 (upd H1 r (.lst [.ref a, .int (i + 1), .int ((j * 48271 + cell + 11) % 2147483647), .int k])) := But.upd _
  show tSeq _ _ _ _ (upd H1 r (.lst [.ref a, .int (i + 1), .int ((j * 48271 + cell + 11) % 2147483647), .int k]))
  have hR2 : (upd H1 r (.lst [.ref a, .int (i + 1), .int ((j * 48271 + cell + 11) % 2147483647), .int k])) r = some (.lst [.ref a, .int (i + 1), .int ((j * 48271 + cell + 11) % 2147483647), .int k]) := upd_same
  have hS2 := seq_but hS1 hR1 b2
  have b3 := b1.trans b2
  generalize upd H1 r (.lst [.ref a, .int (i + 1), .int ((j * 48271 + cell + 11) % 2147483647), .int k]) = H2 at b3 hR2 hS2
  refine ⟨_, rfl, _, _, rfl, rfl, ⟨by decide, by decide, by decide⟩, _, _, rfl, rfl, _, rfl, ?_⟩
  refine ite2 (fun c2 => ?_) (fun c2 => ?_)
  · refine ⟨_, rfl, _, rfl, _, _, rfl, rfl, ⟨by omega, by omega⟩, _, rfl, r, _, 3, 3, rfl, rfl, hR2, rfl, ?_⟩
    refine ⟨_, rfl, .inl ⟨_, rfl, _, rfl, _, _, rfl, rfl, (by omega), ?_⟩⟩
    exact q _ _ (md cell).1 (md cell).2 (b3.trans (But.upd _)) ⟨seq_but hS2 hR2 (But.upd _), i + 1, _, cell / m, upd_same, by omega, z.1, z.2⟩
  · refine ⟨_, rfl, .inl ⟨_, rfl, _, rfl, _, _, rfl, rfl, (by omega), ?_⟩⟩
    exact q _ _ (md cell).1 (md cell).2 b3 ⟨hS2, i + 1, _, k, hR2, by omega, z.1, z.2⟩
/-! ### _law_pick -/
def spPick (K : PySem.W.Frag) : Sp := fun vs H Q _ => ∃ (r a t : Addr) (ns : List Int) (xs : List V), vs = [.ref r, .ref t] ∧ RowAt K a ns H r ∧ H t = some (.lst xs) ∧ r ≠ t ∧ 1 ≤ xs.length ∧ xs.length ≤ 1000 ∧
  ∀ (v : V) (H' : Hp), v ∈ xs → But r H H' → RowAt K a ns H' r → Q v H'
theorem scP : FnScope ["_law_row", "_law_things"] ["_law_row", "_law_things"] (defScope sPick) := ⟨rfl, rfl, rfl, by decide +kernel, rfl, by decide +kernel, by decide +kernel⟩
theorem ok_pick {f fT : Addr} {fd fdT : FuncData} (F : Fun K "_law_pick" "_law_pick" sPick f fd) (FT : Fun K "_law_taken" "_law_taken" sTaken fT fdT) (bT : Binds K fdT ["_law_row", "_law_many"] []) (mT : mg "_law_taken" = some (.ref fT)) (T : Txt K mg C) :
    FnOk P w K mg base CX0 2 f fd ["_law_row", "_law_things"] (spPick K) := by
  have GT : FnOk P w K mg base CX0 1 fT fdT ["_law_row", "_law_many"] (spTaken K) := ok_taken FT T
  refine F.ok scP (fun vs H Q E h => ?_) (fun cdv A outer s H vs Q E hr h => ?_)
  · obtain ⟨_, _, _, _, _, rfl, _⟩ := h
    rfl
  obtain ⟨r, a, t, ns, xs, rfl, hR, hT, hne, h1, h2, q⟩ := h
  refine ⟨_, pss_one (ps_ret (pe_ix ix_list (pv 1) (pe_call GT hr rfl mT FT.kp bT .nil pass0 (pa_cons (pv 0) (pa_cons (pe_callB call_len_seq (by rfl) T.len PySem.boot_len (pa_cons (pv 1) pa_nil)) pa_nil))) (fun _ _ => rfl))), ?_⟩
  refine ⟨_, rfl, _, rfl, _, rfl, t, _, rfl, .inl (SqL.of hT), r, a, ns, _, rfl, hR, by omega, by omega, fun d H' d0 d1 k hR' => ?_⟩
  have hd : d.toNat < xs.length := by omega
  have ed : d = ((d.toNat : Nat) : Int) := by omega
  have ad : atI xs ((d.toNat : Nat) : Int) = some xs[d.toNat] := atI_nat (List.getElem?_eq_getElem hd)
  rw [← ed] at ad
  exact ⟨t, xs, d, _, rfl, rfl, SqL.of (k _ _ hne.symm hT), ad, q _ H' (List.getElem_mem hd) k hR'⟩
/-! ### _law_sizes -/
def spSizes : Sp := fun vs H Q _ => ∃ p : List Nat, vs = [.str (tx p)] ∧ p.length ≤ 1000 ∧ ∀ (r : Addr) (H' : Hp), Same H H' → H' r = some (.lst (lstZ (Pal.sizes p))) → Q (.ref r) H'
abbrev nmS : List Str := ["_law_plan", "_law_found", "_law_ahead", "_law_at"]
theorem scS : FnScope nmS ["_law_plan"] (defScope sSizes) := ⟨rfl, rfl, rfl, by decide +kernel, rfl, by decide +kernel, by decide +kernel⟩
theorem lstZ_app (a b : List Int) : lstZ (a ++ b) = lstZ a ++ lstZ b := List.map_append
theorem sizes_end (p : List Nat) : ∃ l, Pal.sizes p = l ++ [Pal.size p] := by
  have h := Pal.size_getD p
  have hl := Pal.sizes_length p
  have hne : Pal.sizes p ≠ [] := fun z => by rw [z] at hl; simp at hl
  refine ⟨(Pal.sizes p).dropLast, ?_⟩
  have e : Pal.size p = (Pal.sizes p).getLast hne := by
    rw [← h, List.getLast_eq_getElem, List.getD_eq_getElem?_getD, List.getElem?_eq_getElem (by omega)]
    simp [hl]
  rw [e]
  exact (List.dropLast_concat_getLast hne).symm
theorem last_size (p : List Nat) : atI (lstZ (Pal.sizes p)) (-1) = some (.int (Pal.size p)) := by
  obtain ⟨l, e⟩ := sizes_end p
  rw [e]
  show atI ((l ++ [Pal.size p]).map V.int) (-1) = _
  rw [List.map_append]
  exact atI_last _ _
theorem ok_sizes {f : Addr} {fd : FuncData} (F : Fun K "_law_sizes" "_law_sizes" sSizes f fd) (T : Txt K mg C) : FnOk P w K mg base CX0 1 f fd ["_law_plan"] spSizes := by
  refine F.ok scS (fun vs H Q E h => ?_) (fun cdv A outer s H vs Q E hr h => ?_)
  · obtain ⟨_, rfl, _⟩ := h
    rfl
  obtain ⟨p, rfl, hp, q⟩ := h
  have hu := hu_of hr
  refine ⟨_, pss_cons (ps_par (i := 1) (j := 2) (by rfl) scS.nd rfl rfl (by decide) rfl rfl (pa_cons (pe_lst (pa_cons pe_int pa_nil)) (pa_cons pe_dnewK pa_nil)) (by rfl))
    (pss_cons (ps_for PassesOwn.never rfl (pi_range1 rfl T.range (pa_cons (pe_callB call_len_str (by rfl) T.len PySem.boot_len (pa_cons (pv 0) pa_nil)) pa_nil)) (pg_name (i := 3) scS.nd rfl (Or.inl rfl))
      (pss_cons (ps_expr (pe_bm PySem.F.plainAttrs_list PySem.F.slot_list_append PySem.F.type_list_append mt_append (pv 1) (pa_cons
          (pe_ifExp (pt_cmp (pc_din hu (pe_ix ix_str (pv 0) (pv 3) (fun _ _ => rfl)) (pv 2)))
            (pe_op op_sub (pe_op op_mul pe_int (pe_ix ix_list (pv 1) (pe_un un_neg pe_int) (fun _ _ => rfl))) (pe_ix ix_list (pv 1) (pe_dget hu (pv 2) (pe_ix ix_str (pv 0) (pv 3) (fun _ _ => rfl)) (fun _ _ => rfl)) (fun _ _ => rfl)))
            (pe_op op_add (pe_op op_mul pe_int (pe_ix ix_list (pv 1) (pe_un un_neg pe_int) (fun _ _ => rfl))) pe_int)) pa_nil)))
      (pss_one (ps_dput hu (pv 2) (pe_ix ix_str (pv 0) (pv 3) (fun _ _ => rfl)) (pv 3) rfl))))
    (pss_one (ps_ret (pv 1)))), ?_⟩
  refine ⟨(by show 1 ≤ sizeLine; decide), fun f1 hf1 d1 hd1 => ⟨_, _, rfl, ?_⟩⟩
  have nfd : f1 ≠ d1 := fun z => by
    rw [← z, upd_same] at hd1
    cases hd1
  have nd0 : H d1 = none := by
    rw [upd_ne nfd.symm] at hd1
    exact hd1
  have zl : (tx p).length ≤ sizeLine := by
    rw [tx_len]
    exact Nat.le_of_lt (small1000 hp)
  refine ⟨_, rfl, tx p, rfl, zl, ((tx p).length : Int), rfl, ?_, ?_, ?_⟩
  · omega
  · have := line63
    have h2 : (tx p).length ≤ 1000 := by rw [tx_len]; exact hp
    omega
  rw [tx_len, Int.toNat_natCast]
  refine for_range (lo := 0) (n := p.length) (fun i σ H2 => ∃ (kvs : List (Key × V)) (v : Option V), σ = [some (.str (tx p)), some (.ref f1), some (.ref d1), v] ∧ Same H H2 ∧ H2 f1 = some (.lst (lstZ (Pal.sizes (p.take i)))) ∧
      H2 d1 = some (.dK kvs) ∧ kvs.length ≤ i ∧ ∀ c, valV kvs (Sum.inr (tx [c]) : Key) = (Pal.lasts (p.take i) c).map fun j => V.int (j : Nat))
    ⟨[], none, rfl, fun b o e => ?_, ?_, upd_same, Nat.le_refl _, fun c => rfl⟩ ?_ ?_
  · rw [upd_ne (ne_of_none e nd0), upd_ne (ne_of_none e hf1)]
    exact e
  · rw [upd_ne nfd]
    exact upd_same
  · rintro i σ H2 hi ⟨kvs, v, rfl, s2, f2, d2, kl, kv⟩
    rw [Int.zero_add]
    have gi : p[i]? = some p[i] := List.getElem?_eq_getElem hi
    have tk : p.take (i + 1) = p.take i ++ [p[i]] := by
      rw [List.take_add_one, gi]
      rfl
    have lt : (p.take i).length = i := by
      rw [List.length_take]
      omega
    have ac : atI (tx p).cps.toList ((i : Nat) : Int) = some p[i] := by
      rw [tx_list]
      exact atI_nat gi
    have ls := Pal.sizes_length (p.take i)
    have few : (lstZ (Pal.sizes (p.take i))).length < sizeLine := small1000 (by rw [List.length_map, ls, lt]; omega)
    have kc := kv p[i]
    have post : ∀ z : V, z = .int (Pal.more (p.take i) p[i]) → ∃ (kvs' : List (Key × V)) (v : Option V), [some (V.str (tx p)), some (.ref f1), some (.ref d1), some (.int (i : Nat))] = [some (.str (tx p)), some (.ref f1), some (.ref d1), v] ∧
        Same H (upd (upd H2 f1 (.lst (lstZ (Pal.sizes (p.take i)) ++ [z]))) d1 (.dK (putK kvs (Sum.inr (tx [p[i]]) : Key) (.int (i : Nat))))) ∧
        (upd (upd H2 f1 (.lst (lstZ (Pal.sizes (p.take i)) ++ [z]))) d1 (.dK (putK kvs (Sum.inr (tx [p[i]]) : Key) (.int (i : Nat))))) f1 = some (.lst (lstZ (Pal.sizes (p.take (i + 1))))) ∧
        (upd (upd H2 f1 (.lst (lstZ (Pal.sizes (p.take i)) ++ [z]))) d1 (.dK (putK kvs (Sum.inr (tx [p[i]]) : Key) (.int (i : Nat))))) d1 = some (.dK kvs') ∧ kvs'.length ≤ i + 1 ∧
        ∀ c, valV kvs' (Sum.inr (tx [c]) : Key) = (Pal.lasts (p.take (i + 1)) c).map fun j => V.int (j : Nat) := fun z hz => by
      refine ⟨_, _, rfl, fun b o e => ?_, ?_, upd_same, ?_, fun c => ?_⟩
      · rw [upd_ne (ne_of_none e nd0), upd_ne (ne_of_none e hf1)]
        exact s2 _ _ e
      · rw [upd_ne nfd, upd_same, tk, Pal.sizes_snoc, hz, lstZ_app]
        rfl
      · have := length_putK kvs (Sum.inr (tx [p[i]]) : Key) (.int (i : Nat))
        omega
      · rw [valV_put, tk, Pal.lasts_snoc]
        by_cases ec : c = p[i]
        · rw [ec, if_pos rfl, if_pos rfl, lt]
          rfl
        · rw [if_neg ec, if_neg (fun z => ec ?_), kv c]
          have z2 := tx_inj (Sum.inr.inj z)
          exact (List.cons.inj z2).1
    have d3 : ∀ z : V, (upd H2 f1 (.lst (lstZ (Pal.sizes (p.take i)) ++ [z]))) d1 = some (.dK kvs) := fun z => by
      rw [upd_ne nfd.symm]
      exact d2
    have dl : kvs.length < sizeLine := small1000 (by omega)
    refine ⟨_, rfl, .inl ⟨rfl, _, SqL.of f2⟩, _, rfl, _, rfl, tx p, _, _, rfl, rfl, zl, ac, _, rfl, ?_⟩
    cases e : Pal.lasts (p.take i) p[i] with
    | some j =>
      have g : DGet H2 d1 (.str (tx [p[i]])) (some (.int (j : Nat))) := by
        have z := DGet.k (k := (Sum.inr (tx [p[i]]) : Key)) d2
        rw [kc, e] at z
        exact z
      have hj := Pal.lasts_lt _ _ _ e
      have aj : atI (lstZ (Pal.sizes (p.take i))) ((j : Nat) : Int) = some (.int ((Pal.sizes (p.take i)).getD j 0)) := by
        refine atI_nat ?_
        rw [List.getElem?_map, List.getD_eq_getElem?_getD, List.getElem?_eq_getElem (by omega)]
        rfl
      have em : 2 * Pal.size (p.take i) - (Pal.sizes (p.take i)).getD j 0 = Pal.more (p.take i) p[i] := by
        unfold Pal.more
        rw [e]
      refine ⟨d1, _, rfl, g, _, rfl, iteT ?_⟩
      refine ⟨_, rfl, 1, rfl, f1, _, _, _, rfl, rfl, SqL.of f2, last_size _, _, _, rfl, rfl, .inl ⟨by decide, by decide⟩, _, rfl, _, rfl, _, rfl, _, rfl, tx p, _, _, rfl, rfl, zl, ac, d1, _, rfl, g, f1, _, _, _, rfl, rfl, SqL.of f2, aj, _, _, rfl, rfl, ?_⟩
      refine ⟨f1, _, _, rfl, rfl, f2, few, ?_⟩
      exact ⟨_, rfl, _, rfl, _, rfl, _, rfl, tx p, _, _, rfl, rfl, zl, ac, d1, _, rfl, DPut.k (k := (Sum.inr (tx [p[i]]) : Key)) (d3 _) dl, post _ (congrArg V.int em)⟩
    | none =>
      have g : DGet H2 d1 (.str (tx [p[i]])) none := by
        have z := DGet.k (k := (Sum.inr (tx [p[i]]) : Key)) d2
        rw [kc, e] at z
        exact z
      have em : 2 * Pal.size (p.take i) + 1 = Pal.more (p.take i) p[i] := by
        unfold Pal.more
        rw [e]
      refine ⟨d1, _, rfl, g, _, rfl, iteF ?_⟩
      refine ⟨_, rfl, 1, rfl, f1, _, _, _, rfl, rfl, SqL.of f2, last_size _, _, _, rfl, rfl, .inl ⟨by decide, by decide⟩, _, _, rfl, rfl, ?_⟩
      refine ⟨f1, _, _, rfl, rfl, f2, few, ?_⟩
      exact ⟨_, rfl, _, rfl, _, rfl, _, rfl, tx p, _, _, rfl, rfl, zl, ac, d1, _, rfl, DPut.k (k := (Sum.inr (tx [p[i]]) : Key)) (d3 _) dl, post _ (congrArg V.int em)⟩
  · rintro σ H2 ⟨kvs, v, rfl, s2, f2, _⟩
    rw [List.take_length] at f2
    exact ⟨_, rfl, q f1 H2 s2 f2⟩
end
end PalD
/-! _law_alike: at two values that are alike it answers True. -/
namespace PalD
open PySem L2 PalR
/-- equal values of one structure, nested less than n deep -/
def Al : Nat → Hp → V → V → Prop
  | 0, _, _, _ => False
  | n + 1, H, x, y => (∃ i : Int, x = .int i ∧ y = .int i) ∨ (∃ z : Str, x = .str z ∧ y = .str z) ∨
    (∃ (p q : Addr) (xs ys : List V), x = .ref p ∧ y = .ref q ∧ ((H p = some (.lst xs) ∧ H q = some (.lst ys)) ∨ (H p = some (.tup xs) ∧ H q = some (.tup ys))) ∧ xs.length = ys.length ∧ ys.length ≤ 1000 ∧
      ∀ (i : Nat) (x y : V), xs[i]? = some x → ys[i]? = some y → Al n H x y)
theorem Al.same {H H' : Hp} (s : Same H H') : ∀ {n : Nat} {x y : V}, Al n H x y → Al n H' x y
  | 0, _, _, h => h
  | n + 1, _, _, h => by
    rcases h with h | h | ⟨p, q, xs, ys, e1, e2, h, l1, l2, k⟩
    · exact .inl h
    · exact .inr (.inl h)
    · refine .inr (.inr ⟨p, q, xs, ys, e1, e2, ?_, l1, l2, fun i x y hx hy => Al.same s (k i x y hx hy)⟩)
      rcases h with ⟨hx, hy⟩ | ⟨hx, hy⟩
      · exact .inl ⟨s _ _ hx, s _ _ hy⟩
      · exact .inr ⟨s _ _ hx, s _ _ hy⟩
def spAlike (n : Nat) : Sp := fun vs H Q _ => ∃ x y : V, vs = [x, y] ∧ Al n H x y ∧ ∀ H', Same H H' → Q (.bl true) H'
abbrev nmAl : List Str := ["_law_found", "_law_due", "_law_k"]
theorem scAl : FnScope nmAl ["_law_found", "_law_due"] (defScope sAlike) := ⟨rfl, rfl, rfl, by decide +kernel, rfl, by decide +kernel, by decide +kernel⟩
/-- isinstance with the two classes tuple, list -/
theorem any_tl {K : PySem.W.Frag} {a : String} {b c : Bool} (h1 : kitB a "tuple" = some b) (h2 : kitB a "list" = some c) : PySem.W.kitAny K (.type a) [.type "tuple", .type "list"] = some (b || c) := by
  cases b with
  | true => exact kitAny_cons (kit_ty h1) (fun z => nomatch z) (fun _ => rfl)
  | false =>
    refine kitAny_cons (kit_ty h1) (fun _ => ?_) (fun z => nomatch z)
    cases c with
    | true => exact kitAny_cons (kit_ty h2) (fun z => nomatch z) (fun _ => rfl)
    | false => exact kitAny_cons (kit_ty h2) (fun _ => kitAny_nil) (fun z => nomatch z)
theorem cls_tl : Paired ClsV [.ty "tuple", .ty "list"] [.type "tuple", .type "list"] := .cons (.ty _) (.cons (.ty _) .nil)
theorem ix_of {K : PySem.W.Frag} {H : Hp} {p : Addr} {xs : List V} {i : Int} {v : V} {Q : VK} (h : SqL K H p xs ∨ SqT K H p xs) (a : atI xs i = some v) (q : Q v H) : rIx K (.ref p) (.int i) H Q := by
  rcases h with h | h
  · exact .inl ⟨p, xs, i, v, rfl, rfl, h, a, q⟩
  · exact .inr (.inl ⟨p, xs, i, v, rfl, rfl, h, a, q⟩)
section
variable {P : Program} {w : World} {K : PySem.W.Frag} {mg : Str → Option Value} {base : Heap} {C : Addr}
theorem ok_alike {n : Nat} {f : Addr} {fd : FuncData} (F : Fun K "_law_alike" "_law_alike" sAlike f fd) (b : Binds K fd ["_law_found", "_law_due"] []) (m : mg "_law_alike" = some (.ref f)) (T : Txt K mg C)
    (G : FnOk P w K mg base CX0 n f fd ["_law_found", "_law_due"] (spAlike n)) : FnOk P w K mg base CX0 (n + 1) f fd ["_law_found", "_law_due"] (spAlike (n + 1)) := by
  refine F.ok scAl (fun vs H Q E h => ?_) (fun cdv A outer s H vs Q E hr h => ?_)
  · obtain ⟨_, _, rfl, _⟩ := h
    rfl
  obtain ⟨x, y, rfl, h, q⟩ := h
  refine ⟨_, pss_cons (ps_if (pt_val (pe_callB call_isiT (by rfl) T.isi (by decide +kernel) (pa_cons (pv 1) (pa_cons (pe_tup (pa_cons (pe_bltn (v := .ty "tuple") (by rfl) T.tuple (by decide +kernel) rfl) (pa_cons (pe_bltn (v := .ty "list") (by rfl) T.list (by decide +kernel) rfl) pa_nil))) pa_nil))))
      (pss_cons (ps_if (PW.pt (pw_or (pt_not (pt_val (pe_callB call_isiT (by rfl) T.isi (by decide +kernel) (pa_cons (pv 0) (pa_cons (pe_tup (pa_cons (pe_bltn (v := .ty "tuple") (by rfl) T.tuple (by decide +kernel) rfl) (pa_cons (pe_bltn (v := .ty "list") (by rfl) T.list (by decide +kernel) rfl) pa_nil))) pa_nil)))))
            (pw_or1 (pt_cmpR op_ne (pe_callB call_isi (by rfl) T.isi (by decide +kernel) (pa_cons (pv 0) (pa_cons (pe_bltn (v := .ty "list") (by rfl) T.list (by decide +kernel) rfl) pa_nil)))
              (pe_callB call_isi (by rfl) T.isi (by decide +kernel) (pa_cons (pv 1) (pa_cons (pe_bltn (v := .ty "list") (by rfl) T.list (by decide +kernel) rfl) pa_nil))) (nomark _)))))
          (pss_one (ps_ret pe_bl)) pss_nil)
      (pss_cons (ps_if (pt_cmpR op_ne (pe_callB call_len_seq (by rfl) T.len PySem.boot_len (pa_cons (pv 0) pa_nil)) (pe_callB call_len_seq (by rfl) T.len PySem.boot_len (pa_cons (pv 1) pa_nil)) (nomark _)) (pss_one (ps_ret pe_bl)) pss_nil)
      (pss_one (ps_ret (pe_cmpR (op_eqD hr.units)
        (pe_lc (own := [("_law_k", 2)]) (g := gName 2) (by rfl) scAl.nd (pi_range1 rfl T.range (pa_cons (pe_callB call_len_seq (by rfl) T.len PySem.boot_len (pa_cons (pv 1) pa_nil)) pa_nil))
          (blkOk_by (own := [("_law_k", 2)]) (N := nmAl) (sc := defScope sAlike) (by decide +kernel)) (fun _ _ _ _ _ => pg_name (i := 2) scAl.nd rfl (Or.inl rfl))
          (fun _ _ _ _ _ => pts_one (pt_not (pt_val (pe_call G hr rfl m F.kp b .nil pass0 (pa_cons (pe_ix (r := rIx K) ix_seq (pv 0) (pv 2) (fun _ _ => rfl)) (pa_cons (pe_ix (r := rIx K) ix_seq (pv 1) (pv 2) (fun _ _ => rfl)) pa_nil))))))
          (fun _ _ _ _ _ => pv 2)) (pe_lst pa_nil) (nomark _)))))) pss_nil)
    (pss_cons (ps_if (PW.pt (pw_or (pt_cmp (pc_isN (pv 1))) (pw_or1 (pt_val (pe_callB call_isi (by rfl) T.isi (by decide +kernel) (pa_cons (pv 1) (pa_cons (pe_bltn (v := .ty "str") (by rfl) T.str (by decide +kernel) rfl) pa_nil)))))))
      (pss_one (ps_ret (pe_and (pe_cmpR op_eq (pv 0) (pv 1) (nomark _)) (pe_one (pe_cmpR op_eq (pe_callB call_isi (by rfl) T.isi (by decide +kernel) (pa_cons (pv 0) (pa_cons (pe_bltn (v := .ty "str") (by rfl) T.str (by decide +kernel) rfl) pa_nil)))
        (pe_callB call_isi (by rfl) T.isi (by decide +kernel) (pa_cons (pv 1) (pa_cons (pe_bltn (v := .ty "str") (by rfl) T.str (by decide +kernel) rfl) pa_nil))) (nomark _)))))) pss_nil)
    (pss_one (ps_ret (pe_and (pe_callB call_isi (by rfl) T.isi (by decide +kernel) (pa_cons (pv 0) (pa_cons (pe_bltn (v := .ty "int") (by rfl) T.int (by decide +kernel) rfl) pa_nil)))
      (pe_and (pe_cmpR op_eq (pe_callB call_isi (by rfl) T.isi (by decide +kernel) (pa_cons (pv 0) (pa_cons (pe_bltn (v := .ty "bool") (by rfl) T.bool (by decide +kernel) rfl) pa_nil)))
        (pe_callB call_isi (by rfl) T.isi (by decide +kernel) (pa_cons (pv 1) (pa_cons (pe_bltn (v := .ty "bool") (by rfl) T.bool (by decide +kernel) rfl) pa_nil))) (nomark _)) (pe_one (pe_cmpR op_eq (pv 0) (pv 1) (nomark _)))))))), ?_⟩
  rcases h with ⟨i, rfl, rfl⟩ | ⟨z, rfl, rfl⟩ | ⟨p, r, xs, ys, rfl, rfl, h, l1, l2, k⟩
  · -- two ints
    refine ⟨_, rfl, (by show 2 ≤ sizeLine; decide), fun t ht => ⟨.int i, t, _, .type "int", _, false, rfl, upd_same, cls_tl, .base (.int i), any_tl (a := "int") (b := false) (c := false) (by decide +kernel) (by decide +kernel), false, rfl, iteF ?_⟩⟩
    have s1 := same_new ht (.tup [.ty "tuple", .ty "list"])
    generalize upd H t (.tup [.ty "tuple", .ty "list"]) = H1 at s1
    refine ⟨_, rfl, _, rfl, ite2 (fun c => absurd (of_decide_eq_true c) (by intro z; cases z)) (fun _ => ?_)⟩
    refine ⟨_, rfl, .int i, .ty "str", .type "int", _, false, rfl, .ty "str", .base (.int i), kit_ty (by decide +kernel), false, rfl, iteF ?_⟩
    refine ⟨_, rfl, .int i, .ty "int", .type "int", _, true, rfl, .ty "int", .base (.int i), kit_ty (by decide +kernel), true, rfl, iteT ?_⟩
    refine ⟨_, rfl, .int i, .ty "bool", .type "int", _, false, rfl, .ty "bool", .base (.int i), kit_ty (by decide +kernel), _, rfl, .int i, .ty "bool", .type "int", _, false, rfl, .ty "bool", .base (.int i), kit_ty (by decide +kernel), rfl, _, rfl, ?_⟩
    rw [decide_eq_true (rfl : V.bl false = V.bl false)]
    refine iteT ⟨_, rfl, _, rfl, rfl, ?_⟩
    rw [decide_eq_true (rfl : V.int i = V.int i)]
    exact q H1 s1
  · -- two texts
    refine ⟨_, rfl, (by show 2 ≤ sizeLine; decide), fun t ht => ⟨.str z, t, _, .type "str", _, false, rfl, upd_same, cls_tl, .base (.str z), any_tl (a := "str") (b := false) (c := false) (by decide +kernel) (by decide +kernel), false, rfl, iteF ?_⟩⟩
    have s1 := same_new ht (.tup [.ty "tuple", .ty "list"])
    generalize upd H t (.tup [.ty "tuple", .ty "list"]) = H1 at s1
    refine ⟨_, rfl, _, rfl, ite2 (fun c => absurd (of_decide_eq_true c) (by intro z; cases z)) (fun _ => ?_)⟩
    refine ⟨_, rfl, .str z, .ty "str", .type "str", _, true, rfl, .ty "str", .base (.str z), kit_ty (by decide +kernel), true, rfl, iteT ?_⟩
    refine ⟨_, rfl, _, rfl, rfl, _, rfl, ?_⟩
    rw [decide_eq_true (rfl : V.str z = V.str z)]
    refine iteT ⟨_, rfl, .str z, .ty "str", .type "str", _, true, rfl, .ty "str", .base (.str z), kit_ty (by decide +kernel), _, rfl, .str z, .ty "str", .type "str", _, true, rfl, .ty "str", .base (.str z), kit_ty (by decide +kernel), rfl, ?_⟩
    rw [decide_eq_true (rfl : V.bl true = V.bl true)]
    exact q H1 s1
  · -- two lists, two tuples
    obtain ⟨s, c, k1, k2, tp, tr, sx, sy⟩ : ∃ (s : String) (c : Bool), PySem.W.kitAny K (.type s) [.type "tuple", .type "list"] = some true ∧ PySem.W.kitOne K (.type s) (.type "list") = some c ∧ (∀ H', Same H H' → TyX K H' (.ref p) (.type s)) ∧
        (∀ H', Same H H' → TyX K H' (.ref r) (.type s)) ∧ (∀ H', Same H H' → SqL K H' p xs ∨ SqT K H' p xs) ∧ (∀ H', Same H H' → SqL K H' r ys ∨ SqT K H' r ys) := by
      rcases h with ⟨hx, hy⟩ | ⟨hx, hy⟩
      · exact ⟨"list", true, any_tl (b := false) (c := true) (by decide +kernel) (by decide +kernel), kit_ty (by decide +kernel), fun H' e => .base (.lst (e _ _ hx)), fun H' e => .base (.lst (e _ _ hy)), fun H' e => .inl (SqL.of (e _ _ hx)), fun H' e => .inl (SqL.of (e _ _ hy))⟩
      · exact ⟨"tuple", false, any_tl (b := true) (c := false) (by decide +kernel) (by decide +kernel), kit_ty (by decide +kernel), fun H' e => .base (.tup (e _ _ hx)), fun H' e => .base (.tup (e _ _ hy)), fun H' e => .inr (SqT.of (e _ _ hx)), fun H' e => .inr (SqT.of (e _ _ hy))⟩
    refine ⟨_, rfl, (by show 2 ≤ sizeLine; decide), fun t ht => ?_⟩
    have s1 := same_new ht (.tup [.ty "tuple", .ty "list"])
    refine ⟨.ref r, t, _, .type s, _, true, rfl, upd_same, cls_tl, tr _ s1, k1, true, rfl, iteT ?_⟩
    generalize upd H t (.tup [.ty "tuple", .ty "list"]) = H1 at s1
    refine ⟨_, rfl, (by show 2 ≤ sizeLine; decide), fun t2 ht2 => ?_⟩
    have s2 := s1.trans (same_new ht2 (.tup [.ty "tuple", .ty "list"]))
    refine ⟨.ref p, t2, _, .type s, _, true, rfl, upd_same, cls_tl, tp _ s2, k1, true, rfl, iteF ?_⟩
    generalize upd H1 t2 (.tup [.ty "tuple", .ty "list"]) = H2 at s2
    refine ⟨_, rfl, .ref p, .ty "list", .type s, _, c, rfl, .ty "list", tp _ s2, k2, _, rfl, .ref r, .ty "list", .type s, _, c, rfl, .ty "list", tr _ s2, k2, rfl, _, rfl, iteNS rfl ?_⟩
    refine ⟨_, rfl, p, xs, rfl, sx _ s2, _, rfl, r, ys, rfl, sy _ s2, rfl, _, rfl, iteNS (by rw [l1]) ?_⟩
    have b1 : -(2 ^ 62) ≤ ((ys.length : Nat) : Int) := by omega
    have b2 : ((ys.length : Nat) : Int) < 2 ^ 62 := by omega
    refine ⟨_, rfl, r, ys, rfl, sy _ s2, _, rfl, b1, b2, fun D hD => ?_⟩
    rw [Int.toNat_natCast]
    refine lc_range (lo := 0) (n := ys.length) (fun i H3 => Same H2 H3 ∧ H3 D = some (.lst [])) ⟨same_new hD _, upd_same⟩ (fun i H3 hi e3 => ?_) (fun H3 e3 => ?_)
    · obtain ⟨s3, d3⟩ := e3
      have s4 := s2.trans s3
      have hx : xs[i]? = some (xs[i]'(by omega)) := List.getElem?_eq_getElem _
      have hy : ys[i]? = some ys[i] := List.getElem?_eq_getElem hi
      have ax : atI xs (0 + ((i : Nat) : Int)) = some (xs[i]'(by omega)) := by
        rw [Int.zero_add]
        exact atI_nat hx
      have ay : atI ys (0 + ((i : Nat) : Int)) = some ys[i] := by
        rw [Int.zero_add]
        exact atI_nat hy
      refine ⟨rfl, _, rfl, _, rfl, ix_of (sx _ s4) ax ?_⟩
      refine ⟨_, rfl, _, rfl, ix_of (sy _ s4) ay ?_⟩
      exact ⟨_, _, rfl, (k i _ _ hx hy).same s4, fun H4 s5 => ⟨true, rfl, s3.trans s5, s5 _ _ d3⟩⟩
    · obtain ⟨s3, d3⟩ := e3
      refine ⟨(by show 0 ≤ sizeLine; decide), fun e he => ?_⟩
      have s5 := same_new he (.lst [])
      refine ⟨.list [], .list [], .lst (SqL.of (s5 _ _ d3)) .nil, .lst (SqL.of upd_same) .nil, by decide +kernel, by decide +kernel, ?_⟩
      have ee : PyData.eqv (.list []) (.list []) = true := by decide +kernel
      rw [ee]
      exact q _ (s2.trans (s3.trans s5))
theorem alike_all {f : Addr} {fd : FuncData} (F : Fun K "_law_alike" "_law_alike" sAlike f fd) (b : Binds K fd ["_law_found", "_law_due"] []) (m : mg "_law_alike" = some (.ref f)) (T : Txt K mg C) :
    ∀ n : Nat, FnOk P w K mg base CX0 n f fd ["_law_found", "_law_due"] (spAlike n)
  | 0 => by
    have no : ∀ vs H Q E, ¬ spAlike 0 vs H Q E := fun vs H Q E h => by
      obtain ⟨_, _, _, h, _⟩ := h
      exact h
    exact ⟨fun vs H Q E h => absurd h (no vs H Q E), fun A outer s H args us vs Q E _ _ _ _ h => absurd h (no vs H Q E)⟩
  | n + 1 => ok_alike F b m T (alike_all F b m T n)
end
end PalD
/-! The law. -/
namespace PalD
open PySem L2 PalR
def spLaw (K : PySem.W.Frag) : Sp := fun vs H Q _ => ∃ (a : Addr) (ns : List Int), vs = [.ref a] ∧ SqL K H a (ns.map V.int) ∧ ns.length ≤ 63 ∧ ∀ H', Q (.bl true) H'
abbrev nmL : List Str := ["_law_script", "_law_row", "_law_many", "_law_told", "_law_left", "_law_at", "_law_plans", "_law_turn", "_law_later", "_law_plan", "_law_sizes_here", "_law_most", "_law_due", "_law_bad", "_law_words", "_law_work", "e", "_law_size"]
theorem scL : FnScope nmL ["_law_script"] (defScope sLaw) := ⟨rfl, rfl, rfl, by decide +kernel, rfl, by decide +kernel, by decide +kernel⟩
/-- the test of the law's own enumeration: are there letters left -/
abbrev tCnt (K : PySem.W.Frag) : TT := tTest (tOp (rI0 fun i j => V.bl (decide (i < j))) (tBM K "str" (fun x xs H Q => ∃ a b, x = V.str a ∧ xs = [V.str b] ∧ Q (V.int (PySem.Txt.count a b)) H) (tVar 9) (tCons (tOp rIxS (tC (V.str "abcde")) (tVar 5)) tNil)) (tOp (rIxT K) (tVar 3) (tVar 5)))
/-- the slots of law -/
abbrev sg (a r : Addr) (k : Nat) (v3 v4 v5 v6 v7 v8 v9 v10 v11 v12 v13 v14 v15 : Option V) : L2.St :=
  [some (.ref a), some (.ref r), some (.int (k : Nat)), v3, v4, v5, v6, v7, v8, v9, v10, v11, v12, v13, v14, v15, none, none]
theorem count_tx (p : List Nat) (c : Nat) : PySem.Txt.count (tx p) (⟨#[c]⟩ : Str) = ((p.count c : Nat) : Int) := by
  have h : ∀ l : List Nat, PyProof.Rows.cnt c l = ((l.count c : Nat) : Int) := fun l => by
    induction l with
    | nil => rfl
    | cons n l ih =>
      rw [PyProof.Rows.cnt_cons, ih, List.count_cons]
      by_cases e : n = c
      · rw [if_pos e, if_pos (by simp [e])]
        omega
      · rw [if_neg e, if_neg (by simp [e])]
        omega
  rw [PyProof.Rows.count_cnt, tx_list]
  exact h p
abbrev strs' (ps : List (List Nat)) : List V := ps.map fun p => V.str (tx p)
theorem strs_app (x y : List (List Nat)) : strs' (x ++ y) = strs' x ++ strs' y := List.map_append
theorem lstN_app (x y : List Nat) : lstN (x ++ y) = lstN x ++ lstN y := List.map_append
theorem four_levels {told : List Nat} (h4 : told.length ≤ 4) {t : Nat} (ht : t ≤ 6) : (Pal.levels told t [[]]).length ≤ 4096 := by
  have h1 := Pal.levels_length told t
  have h2 : told.length ^ t ≤ 4 ^ t := Nat.pow_le_pow_left h4 _
  have h3 : 4 ^ t ≤ 4 ^ 6 := Nat.pow_le_pow_right (by decide) ht
  have h5 : (4 : Nat) ^ 6 = 4096 := by decide
  omega
/-- the numbers of the row of draws -/
theorem RowAt.same {K : PySem.W.Frag} {a : Addr} {ns : List Int} {H H' : Hp} {r : Addr} (h : RowAt K a ns H r) (s : Same H H') : RowAt K a ns H' r := by
  obtain ⟨h1, i, j, k, h2, h3⟩ := h
  exact ⟨s.seq h1, i, j, k, s _ _ h2, h3⟩
theorem bad_non {K : PySem.W.Frag} {H : Hp} : BadV K H .non := .inr ⟨.type "NoneType", .base .non, kit_ty (by decide +kernel)⟩
theorem bad_int {K : PySem.W.Frag} {H : Hp} (i : Int) : BadV K H (.int i) := .inr ⟨.type "int", .base (.int i), kit_ty (by decide +kernel)⟩
theorem bad_lst {K : PySem.W.Frag} {H : Hp} {p : Addr} {xs : List V} (h : H p = some (.lst xs)) : BadV K H (.ref p) := .inr ⟨.type "list", .base (.lst h), kit_ty (by decide +kernel)⟩
theorem bad_tup {K : PySem.W.Frag} {H : Hp} {p : Addr} {xs : List V} (h : H p = some (.tup xs)) (hp : (xs.all fun v => (plainI v).isSome) = true) (hb : ¬ GoodN xs) : BadV K H (.ref p) :=
  .inl ⟨p, xs, rfl, h, fun v hv => Option.isSome_iff_exists.mp (List.all_eq_true.mp hp v hv), hb⟩
/-- a def that law calls -/
structure Has (P : Program) (w : World) (K : PySem.W.Frag) (mg : Str → Option Value) (base : Heap) (CX : CXT) (k : Nat) (x : Str) (f : Addr) (ps : List Str) (sp : Sp) : Prop where
  ex : ∃ fd : FuncData, FnOk P w K mg base CX k f fd ps sp ∧ Binds K fd ps []
  m : mg x = some (.ref f)
  k : PySem.W.keepIn K (.ref f) = true
section
variable {P : Program} {w : World} {K : PySem.W.Frag} {mg : Str → Option Value} {base : Heap} {C : Addr}
theorem ok_law {fL fT fP fA fZ f1 f2 f3 : Addr} {fdL : FuncData} (F : Fun K "law" "law" sLaw fL fdL) (T : Txt K mg C)
    (hT : Has P w K mg base CX0 1 "_law_taken" fT ["_law_row", "_law_many"] (spTaken K)) (hP : Has P w K mg base CX0 2 "_law_pick" fP ["_law_row", "_law_things"] (spPick K))
    (hA : Has P w K mg base CX0 3 "_law_alike" fA ["_law_found", "_law_due"] (spAlike 3)) (hZ : Has P w K mg base CX0 1 "_law_sizes" fZ ["_law_plan"] spSizes)
    (h1 : Has P w K mg base (L2.CX P w) 12 "shortest_order" f1 ["told"] (spShort K C)) (h2 : Has P w K mg base (L2.CX P w) 12 "longest_order" f2 ["told"] (spLong K C)) (h3 : Has P w K mg base (L2.CX P w) 12 "order_lengths" f3 ["told"] (spLens K C)) :
    FnOk P w K mg base CX0 13 fL fdL ["_law_script"] (spLaw K) := by
  obtain ⟨⟨fdT, GT, bT⟩, mT, kT⟩ := hT
  obtain ⟨⟨fdP, GP, bP⟩, mP, kP⟩ := hP
  obtain ⟨⟨fdA, GA, bA⟩, mA, kA⟩ := hA
  obtain ⟨⟨fdZ, GZ, bZ⟩, mZ, kZ⟩ := hZ
  obtain ⟨⟨fd1, G1, b1⟩, m1, k1⟩ := h1
  obtain ⟨⟨fd2, G2, b2⟩, m2, k2⟩ := h2
  obtain ⟨⟨fd3, G3, b3⟩, m3, k3⟩ := h3
  refine F.ok scL (fun vs H Q E h => ?_) (fun cdv A outer s H vs Q E hr h => ?_)
  · obtain ⟨_, _, rfl, _⟩ := h
    rfl
  obtain ⟨a, ns, rfl, hS, h63, q⟩ := h
  have rT := hr.mono (show 1 ≤ 12 by decide)
  have rP := hr.mono (show 2 ≤ 12 by decide)
  have rA := hr.mono (show 3 ≤ 12 by decide)
  let Pd : Addr → Sp → Prop := fun f sp => (f = f1 ∧ sp = spShort K C) ∨ (f = f2 ∧ sp = spLong K C) ∨ (f = f3 ∧ sp = spLens K C)
  have held : ∀ (f : Addr) (sp : Sp), Pd f sp → ∃ (fd : FuncData) (ps : List Str), FnOk P w K mg base (L2.CX P w) 12 f fd ps sp ∧ PySem.W.keepIn K (.ref f) = true ∧ Binds K fd ps [] := fun f sp h => by
    rcases h with ⟨rfl, rfl⟩ | ⟨rfl, rfl⟩ | ⟨rfl, rfl⟩
    · exact ⟨_, _, G1, k1, b1⟩
    · exact ⟨_, _, G2, k2, b2⟩
    · exact ⟨_, _, G3, k3, b3⟩
  refine ⟨_, pss_cons (ps_set (i := 1) scL.nd rfl (Or.inl rfl) (pe_lst (pa_cons (pv 0) (pa_cons pe_int (pa_cons pe_int (pa_cons pe_int pa_nil))))))
    (C8.pss_cut (ps_set (i := 2) scL.nd rfl (Or.inl rfl) (pe_op op_add pe_int (pe_call GT rT rfl mT kT bT .nil pass0 (pa_cons (pv 1) (pa_cons pe_int pa_nil)))))
    (pss_cons (ps_asg (pe_tup (pa_cons (pe_lst pa_nil) (pa_cons pe_int pa_nil))) (pg_tup rfl (pgs_cons (pg_name (i := 3) scL.nd rfl (Or.inr rfl)) (pgs_cons (pg_name (i := 4) scL.nd rfl (Or.inl rfl)) pgs_nil))))
    (C8.pss_cut (ps_for PassesOwn.never rfl (pi_range1 rfl T.range (pa_cons (pv 2) pa_nil)) (pg_name (i := 5) scL.nd rfl (Or.inl rfl))
      (pss_cons (ps_expr (pe_bm PySem.F.plainAttrs_list PySem.F.slot_list_append PySem.F.type_list_append mt_append (pv 3) (pa_cons (pe_call GT rT rfl mT kT bT .nil pass0 (pa_cons (pv 1) (pa_cons (pe_op op_add pe_int (pe_callB (call_min2 rfl) (by rfl) T.min (by decide +kernel) (pa_cons (pv 4) (pa_cons pe_int pa_nil)))) pa_nil))) pa_nil)))
      (pss_one (ps_set (i := 4) scL.nd rfl (Or.inl rfl) (pe_op op_sub (pv 4) (pe_ix ix_list (pv 3) (pe_un un_neg pe_int) (fun _ _ => rfl)))))))
    (C8.pss_cut (ps_asg (pe_tup (pa_cons (pe_callTy call_tuple_of (by rfl) T.tuple (by decide +kernel) (pa_cons (pv 3) pa_nil)) (pa_cons (pe_lst (pa_cons pe_str pa_nil)) pa_nil))) (pg_tup rfl (pgs_cons (pg_name (i := 3) scL.nd rfl (Or.inr rfl)) (pgs_cons (pg_name (i := 6) scL.nd rfl (Or.inl rfl)) pgs_nil))))
    (C8.pss_cut (ps_for PassesOwn.never rfl (pi_range1 rfl T.range (pa_cons (pe_callB (cr_sumT (by rfl)) (by rfl) T.sum (by decide +kernel) (pa_cons (pv 3) pa_nil)) pa_nil)) (pg_name (i := 7) scL.nd rfl (Or.inl rfl))
      (pss_cons (ps_set (i := 8) scL.nd rfl (Or.inl rfl) (pe_lst pa_nil))
      (pss_cons (ps_for PassesOwn.never rfl (pi_list (pv 6)) (pg_name (i := 9) scL.nd rfl (Or.inr rfl))
        (pss_one (ps_set (i := 8) scL.nd rfl (Or.inl rfl) (pe_op op_cat (pv 8)
        (pe_lc (own := [("_law_at", 5)]) (g := gName 5) (tt := tCnt K) (by rfl) scL.nd (pi_range1 rfl T.range (pa_cons (pv 2) pa_nil)) (blkOk_by (own := [("_law_at", 5)]) (N := nmL) (sc := defScope sLaw) (by decide +kernel))
          (fun _ _ _ _ _ => (pg_name (i := 5) scL.nd rfl (Or.inl rfl))) (fun _ _ _ _ _ => pts_one (pt_cmpR op_lt (pe_bm PySem.F.plainAttrs_str PySem.F.slot_str_count PySem.F.type_str_count mt_count (pv 9) (pa_cons (pe_ix ix_str pe_str (pv 5) (fun _ _ => rfl)) pa_nil)) (pe_ix (r := rIxT K) ix_tup (pv 3) (pv 5) (fun _ _ => rfl)) (nomark _)))
          (fun _ _ _ _ _ => pe_op op_add_str (pv 9) (pe_ix ix_str pe_str (pv 5) (fun _ _ => rfl))))))))
      (pss_one (ps_set (i := 6) scL.nd rfl (Or.inl rfl) (pv 8))))))
    (C8.pss_cut (ps_set (i := 10) scL.nd rfl (Or.inl rfl) (pe_callB (cr_sortedIS hr.units) (by rfl) T.sorted (by decide +kernel) (pa_cons (pe_lc (own := [("_law_plan", 9)]) (g := gName 9) (tt := tYes) (by rfl) scL.nd (pi_list (pv 6)) (blkOk_by (own := [("_law_plan", 9)]) (N := nmL) (sc := defScope sLaw) (by decide +kernel))
          (fun _ _ _ _ _ => (pg_name (i := 9) scL.nd rfl (Or.inl rfl))) (fun _ _ _ _ _ => pts_nil)
          (fun _ _ _ _ _ => pe_tup (pa_cons (pe_ix (r := rIxL K) ix_list (pe_call GZ rT rfl mZ kZ bZ .nil pass0 (pa_cons (pv 9) pa_nil)) (pe_un un_neg pe_int) (fun _ _ => rfl)) (pa_cons (pv 9) pa_nil)))) pa_nil)))
    (C8.pss_cut (ps_set (i := 11) scL.nd rfl (Or.inr rfl) (pe_ix ix_tup (pe_ix ix_list (pv 10) (pe_un un_neg pe_int) (fun _ _ => rfl)) pe_int (fun _ _ => rfl)))
    (C8.pss_cut (ps_set (i := 12) scL.nd rfl (Or.inl rfl) (pe_lst (pa_cons (pe_ix ix_tup (pe_ix ix_list (pv 10) pe_int (fun _ _ => rfl)) pe_int (fun _ _ => rfl)) (pa_cons (pe_callB (cr_minS (by rfl)) (by rfl) T.min (by decide +kernel) (pa_cons (pe_lc (own := [("_law_size", 17), ("_law_plan", 9)]) (g := gTup K 2 (gCons (gName 17) (gCons (gName 9) gNil))) (by rfl) scL.nd (pi_list (pv 10)) (blkOk_by (own := [("_law_size", 17), ("_law_plan", 9)]) (N := nmL) (sc := defScope sLaw) (by decide +kernel))
          (fun _ _ _ _ _ => (pg_tup rfl (pgs_cons (pg_name (i := 17) scL.nd rfl (Or.inl rfl)) (pgs_cons (pg_name (i := 9) scL.nd rfl (Or.inl rfl)) pgs_nil)))) (fun _ _ _ _ _ => pts_one (pt_cmpR op_eq (pv 17) (pv 11) (nomark _)))
          (fun _ _ _ _ _ => pv 9)) pa_nil)) pa_nil))))
    (C8.pss_cut (ps_expr (pe_bm PySem.F.plainAttrs_list PySem.F.slot_list_append PySem.F.type_list_append mt_append (pv 12) (pa_cons (pe_callTy call_tuple_of (by rfl) T.tuple (by decide +kernel) (pa_cons (pe_callB (cr_sortedSet (by rfl)) (by rfl) T.sorted (by decide +kernel) (pa_cons (pe_callTy (cr_setL (by rfl)) (by rfl) T.set (by decide +kernel) (pa_cons (pe_lc (own := [("_law_size", 17), ("_law_plan", 9)]) (g := gTup K 2 (gCons (gName 17) (gCons (gName 9) gNil))) (tt := tYes) (by rfl) scL.nd (pi_list (pv 10)) (blkOk_by (own := [("_law_size", 17), ("_law_plan", 9)]) (N := nmL) (sc := defScope sLaw) (by decide +kernel))
          (fun _ _ _ _ _ => (pg_tup rfl (pgs_cons (pg_name (i := 17) scL.nd rfl (Or.inl rfl)) (pgs_cons (pg_name (i := 9) scL.nd rfl (Or.inl rfl)) pgs_nil)))) (fun _ _ _ _ _ => pts_nil)
          (fun _ _ _ _ _ => pv 17)) pa_nil)) pa_nil)) pa_nil)) pa_nil)))
    (C8.pss_cut (ps_if (pt_not (pt_val (pe_call GA rA rfl mA kA bA .nil pass0 (pa_cons (pe_lst (pa_cons (pe_call G1 hr rfl m1 k1 b1 .nil passL (pa_cons (pv 3) pa_nil)) (pa_cons (pe_call G2 hr rfl m2 k2 b2 .nil passL (pa_cons (pv 3) pa_nil)) (pa_cons (pe_call G3 hr rfl m3 k3 b3 .nil passL (pa_cons (pv 3) pa_nil)) pa_nil)))) (pa_cons (pv 12) pa_nil))))) (pss_one (ps_ret pe_bl)) pss_nil)
    (C8.pss_cut (ps_par (i := 13) (j := 14) (by rfl) scL.nd rfl rfl (by decide) rfl rfl (pa_cons (pe_call GP rP rfl mP kP bP .nil pass0 (pa_cons (pv 1) (pa_cons (pe_lst (pa_cons pe_non (pa_cons (pe_tup pa_nil) (pa_cons (pe_op op_repT (pe_tup (pa_cons pe_int pa_nil)) pe_int) (pa_cons (pe_tup (pa_cons pe_int pa_nil)) (pa_cons (pe_tup (pa_cons pe_int (pa_cons pe_int pa_nil))) (pa_cons (pe_lst (pa_cons pe_int pa_nil)) (pa_cons (pe_tup (pa_cons (pe_un un_neg pe_int) pa_nil)) (pa_cons (pe_tup (pa_cons pe_bl pa_nil)) (pa_cons (pe_tup (pa_cons pe_str pa_nil)) (pa_cons pe_int pa_nil))))))))))) pa_nil))) (pa_cons (pe_lst pa_nil) pa_nil)) (by rfl))
    (C8.pss_cut (ps_for PassesOwn.never rfl (pi_list (pe_lst (pa_cons (pe_glob (v := .ref f1) (by rfl) m1 rfl) (pa_cons (pe_glob (v := .ref f2) (by rfl) m2 rfl) (pa_cons (pe_glob (v := .ref f3) (by rfl) m3 rfl) pa_nil))))) (pg_name (i := 15) scL.nd rfl (Or.inl rfl))
      (pss_one (ps_try_as (i := 16) (tb := fun W => tDrop (tLoc 15 Pd (WE W) (tCons (tVar 13) tNil))) (ts := fun _ _ _ => tDrop (tBM K "list" rAppend (tVar 14) (tCons (tC (.int 1)) tNil))) (Wout := fun _ _ _ _ => False) rfl rfl scL.nd rfl rfl ⟨rfl, by decide, Or.inl T.gC⟩ takes0
        (fun W pn xe tk _ => pss_one (ps_expr (pe_loc held hr rfl (Or.inl rfl) (fun σ => passAt tk σ) (pa_cons (pv 13) pa_nil))))
        (fun a oe cls d pn hz hf => pss_one (ps_expr (pe_bm PySem.F.plainAttrs_list PySem.F.slot_list_append PySem.F.type_list_append mt_append (pv 14) (pa_cons pe_int pa_nil)))))))
    (pss_one (ps_ret (pe_and (pe_cmpR (op_eqD hr.units) (pv 14) (pe_lst (pa_cons pe_int (pa_cons pe_int (pa_cons pe_int pa_nil)))) (nomark _))
      (pe_and (pe_cmpR op_eq (pe_call G1 hr rfl m1 k1 b1 .nil passL (pa_cons (pe_tup (pa_cons pe_int (pa_cons pe_int (pa_cons pe_int pa_nil)))) pa_nil)) pe_str (nomark _))
      (pe_one (pe_cmpR op_eq (pe_callB call_len_str (by rfl) T.len PySem.boot_len (pa_cons (pe_call G2 hr rfl m2 k2 b2 .nil passL (pa_cons (pe_tup (pa_cons pe_int (pa_cons pe_int (pa_cons pe_int pa_nil)))) pa_nil)) pa_nil)) pe_int (nomark _))))))))))))))))))), ?_⟩
  -- the row of draws
  refine ⟨_, rfl, (by show 4 ≤ sizeLine; decide), fun r hr1 => ?_⟩
  have s0 := same_new hr1 (.lst [.ref a, .int 0, .int 4580, .int 0])
  have R0 : RowAt K a ns (upd H r (.lst [.ref a, .int 0, .int 4580, .int 0])) r := ⟨s0.seq hS, 0, 4580, 0, upd_same, by decide, by decide, by decide⟩
  generalize upd H r (.lst [.ref a, .int 0, .int 4580, .int 0]) = H1 at R0
  refine ⟨fun σ H2 => ∃ k : Nat, 1 ≤ k ∧ k ≤ 4 ∧ σ = sg a r k none none none none none none none none none none none none none ∧ RowAt K a ns H2 r, ?_, ?_⟩
  · refine ⟨_, rfl, r, a, ns, 4, rfl, R0, by decide, by decide, fun d H2 d0 d1 _ R => ⟨_, _, rfl, rfl, d.toNat + 1, by omega, by omega, ?_, R⟩⟩
    have e : (1 : Int) + d = ((d.toNat + 1 : Nat) : Int) := by omega
    show [some (V.ref a), some (.ref r), some (.int (1 + d)), none, none, none, none, none, none, none, none, none, none, none, none, none, none, none] = _
    rw [e]
  rintro σ H2 ⟨k, hk1, hk2, rfl, R2⟩
  obtain ⟨hS2, i2, j2, k2', hR2, -⟩ := id R2
  -- the told numbers
  refine ⟨(by show 0 ≤ sizeLine; decide), fun tl htl => ⟨(by show 2 ≤ sizeLine; decide), fun tp htp => ⟨tp, _, rfl, SqT.of upd_same, rfl, _, _, rfl, _, _, rfl, rfl, ?_⟩⟩⟩
  have s3 : Same H2 (upd (upd H2 tl (.lst [])) tp (.tup [.ref tl, .int 6])) := (same_new htl _).trans (same_new htp _)
  have l3 : (upd (upd H2 tl (.lst [])) tp (.tup [.ref tl, .int 6])) tl = some (.lst []) := same_new htp _ _ _ upd_same
  generalize upd (upd H2 tl (.lst [])) tp (.tup [.ref tl, .int 6]) = H3 at s3 l3
  have ntr : tl ≠ r := fun z => by
    rw [z, hR2] at htl
    cases htl
  have keepS : ∀ H', But r H2 H' → SqL K H' a (ns.map V.int) := fun H' b => seq_but hS2 hR2 b
  refine ⟨fun σ H4 => ∃ (ms : List Nat) (v4 v5 : Option V), σ = sg a r k (some (.ref tl)) v4 v5 none none none none none none none none none none ∧ ms.length = k ∧ ms.sum ≤ 6 ∧ RowAt K a ns H4 r ∧ H4 tl = some (.lst (lstN ms)), ?_, ?_⟩
  · refine ⟨_, rfl, (k : Int), rfl, by omega, by omega, ?_⟩
    rw [Int.toNat_natCast]
    refine for_range (lo := 0) (n := k) (fun i σ H4 => ∃ (ms : List Nat) (left : Nat) (v5 : Option V), σ = sg a r k (some (.ref tl)) (some (.int (left : Nat))) v5 none none none none none none none none none none ∧ ms.length = i ∧ ms.sum + left = 6 ∧
        But r H2 H4 ∧ RowAt K a ns H4 r ∧ H4 tl = some (.lst (lstN ms))) ⟨[], 6, none, rfl, rfl, rfl, .of s3, R2.same s3, l3⟩ ?_ ?_
    · rintro i σ H4 hi ⟨ms, left, v5, rfl, hl, hs, kb, R, ht⟩
      refine ⟨_, rfl, .inl ⟨rfl, _, SqL.of ht⟩, _, rfl, _, rfl, _, _, rfl, _, _, rfl, rfl, r, a, ns, _, rfl, R, ?_, ?_, fun d H5 d0 d1 k5 R5 => ?_⟩
      · split <;> omega
      · split <;> omega
      have dl : d ≤ (left : Int) := by
        split at d1 <;> omega
      have t5 := k5 _ _ ntr ht
      refine ⟨tl, _, _, rfl, rfl, t5, small1000 (by rw [List.length_map]; omega), ?_⟩
      obtain ⟨_, i5, j5, k5', hR5, hb5⟩ := R5
      have e5 : d = ((d.toNat : Nat) : Int) := by omega
      refine ⟨_, rfl, _, rfl, 1, rfl, tl, _, _, _, rfl, rfl, SqL.of upd_same, atI_last _ _, _, _, rfl, rfl, ms ++ [d.toNat], left - d.toNat, some (.int (0 + (i : Nat))), ?_, by rw [List.length_append, hl]; rfl, by rw [List.sum_append, List.sum_singleton]; omega, ?_, ?_, ?_⟩
      · have e6 : (left : Int) - d = ((left - d.toNat : Nat) : Int) := by omega
        rw [← e6]
        rfl
      · have kb5 : But r H2 H5 := kb.trans k5
        exact fun b o nb e => by
          rw [upd_ne (ne_of_none e htl)]
          exact kb5 b o nb e
      · refine ⟨keepS _ fun b o nb e => ?_, i5, j5, k5', ?_, hb5⟩
        · rw [upd_ne (ne_of_none e htl)]
          exact (kb.trans k5) b o nb e
        · rw [upd_ne ntr.symm]
          exact hR5
      · rw [upd_same, lstN_app, e5]
        rfl
    · rintro σ H4 ⟨ms, left, v5, rfl, hl, hs, _, R, ht⟩
      exact ⟨ms, _, v5, rfl, hl, by omega, R, ht⟩
  rintro σ H4 ⟨ms, v4, v5, rfl, hml, hms, R4, t4⟩
  have hk : ms.length ≤ 4 := by omega
  -- the tuple of them; the empty plan
  refine ⟨fun σ H5 => ∃ (tt pl : Addr) (v4 v5 : Option V), σ = sg a r k (some (.ref tt)) v4 v5 (some (.ref pl)) none none none none none none none none none ∧ RowAt K a ns H5 r ∧ H5 tt = some (.tup (lstN ms)) ∧ H5 pl = some (.lst (strs' [[]])), ?_, ?_⟩
  · refine ⟨_, rfl, tl, _, rfl, .inl ⟨SqL.of t4, fun tt htt => ⟨(by show 1 ≤ sizeLine; decide), fun pl hpl => ⟨(by show 2 ≤ sizeLine; decide), fun tp htp => ⟨tp, _, rfl, SqT.of upd_same, rfl, _, _, rfl, _, _, rfl, rfl, ?_⟩⟩⟩⟩⟩
    have s5 := same_new htt (.tup (lstN ms))
    have s6 := same_new hpl (.lst [.str ("" : Str)])
    have s7 := same_new htp (.tup [.ref tt, .ref pl])
    refine ⟨tt, pl, _, _, rfl, R4.same (s5.trans (s6.trans s7)), s7 _ _ (s6 _ _ upd_same), s7 _ _ ?_⟩
    rw [upd_same, empty_tx]
    rfl
  rintro σ H5 ⟨tt, pl0, v4, v5, rfl, R5, tt5, pl5⟩
  -- the plans, level by level
  refine ⟨fun σ H6 => ∃ (pl : Addr) (v4 v5 v7 v8 v9 : Option V), σ = sg a r k (some (.ref tt)) v4 v5 (some (.ref pl)) v7 v8 v9 none none none none none none ∧ Same H5 H6 ∧ H6 pl = some (.lst (strs' (Pal.levels ms ms.sum [[]]))), ?_, ?_⟩
  · have tt5' : H5 tt = some (.tup ((ms.map fun (m : Nat) => (m : Int)).map V.int)) := by
      rw [List.map_map]
      exact tt5
    refine ⟨_, rfl, tt, _, rfl, SqT.of tt5', _, rfl, ?_, ?_, ?_⟩
    · rw [sum_cast]
      omega
    · rw [sum_cast]
      omega
    rw [sum_cast, Int.toNat_natCast]
    refine for_range (lo := 0) (n := ms.sum) (fun t σ H6 => ∃ (pl : Addr) (v4 v5 v7 v8 v9 : Option V), σ = sg a r k (some (.ref tt)) v4 v5 (some (.ref pl)) v7 v8 v9 none none none none none none ∧ Same H5 H6 ∧ H6 pl = some (.lst (strs' (Pal.levels ms t [[]]))))
      ⟨pl0, v4, v5, none, none, none, rfl, Same.refl _, pl5⟩ ?_ ?_
    · rintro t σ H6 hts ⟨pl, v4, v5, v7, v8, v9, rfl, s6, pl6⟩
      have many := four_levels hk (show t ≤ 6 by omega)
      have many2 := four_levels hk (show t + 1 ≤ 6 by omega)
      rw [Pal.levels_last] at many2
      generalize hps : Pal.levels ms t [[]] = ps at pl6 many many2
      refine ⟨(by show 0 ≤ sizeLine; decide), fun l0 hl0 => ?_⟩
      have s7 := same_new hl0 (.lst [])
      have l7 : (upd H6 l0 (.lst [])) l0 = some (.lst (strs' (([] : List (List Nat)).flatMap (Pal.nexts ms)))) := upd_same
      generalize upd H6 l0 (.lst []) = H7 at s7 l7
      have lenP : (strs' ps).length = ps.length := List.length_map _
      refine ⟨_, rfl, pl, rfl, ⟨_, SqL.of (s7 _ _ pl6)⟩, for_list (K := K) (a := pl) (xs := strs' ps) (fun j σ H8 => ∃ (lt : Addr) (v9 : Option V), σ = sg a r k (some (.ref tt)) v4 v5 (some (.ref pl)) (some (.int (0 + (t : Nat)))) (some (.ref lt)) v9 none none none none none none ∧
          Same H6 H8 ∧ H8 lt = some (.lst (strs' ((ps.take j).flatMap (Pal.nexts ms))))) ⟨l0, v9, rfl, s7, l7⟩ (fun j σ H8 _ ⟨_, _, _, s8, _⟩ => SqL.of (s8 _ _ pl6)) ?_ ?_⟩
      · rintro j x σ H8 hx ⟨lt, v9, rfl, s8, lt8⟩
        obtain ⟨p, hp, rfl⟩ : ∃ p, ps[j]? = some p ∧ V.str (tx p) = x := by
          rw [List.getElem?_map] at hx
          cases e : ps[j]? with
          | none => rw [e] at hx; cases hx
          | some p => rw [e] at hx; exact ⟨p, rfl, Option.some.inj hx⟩
        have hjp : j < ps.length := (List.getElem?_eq_some_iff.mp hp).1
        have plen : p.length ≤ 6 := by
          have hmem : p ∈ Pal.levels ms t [[]] := by rw [hps]; exact List.mem_of_getElem? hp
          have := Pal.levels_letters hmem
          omega
        have tt8 := s8 _ _ (s6 _ _ tt5)
        refine ⟨_, rfl, _, rfl, (k : Int), rfl, by omega, by omega, fun D hD => ?_⟩
        rw [Int.toNat_natCast]
        have sD := same_new hD (.lst [])
        refine lc_range (lo := 0) (n := k) (fun i H9 => Same H8 H9 ∧ H9 D = some (.lst (strs' (((List.range i).filter fun b => decide (p.count (97 + b) < ms.getD b 0)).map fun b => p ++ [97 + b])))) ⟨sD, upd_same⟩ (fun i H9 hi e9 => ?_) (fun H9 e9 => ?_)
        · obtain ⟨s9, d9⟩ := e9
          rw [Int.zero_add]
          have lt5 : i < 5 := by omega
          have him : i < ms.length := by omega
          have ati : atI (lstN ms) ((i : Nat) : Int) = some (.int (ms.getD i 0 : Nat)) := atI_nat (by
            rw [List.getElem?_map, List.getD_eq_getElem?_getD, List.getElem?_eq_getElem him]
            rfl)
          have few : (strs' (((List.range i).filter fun b => decide (p.count (97 + b) < ms.getD b 0)).map fun b => p ++ [97 + b])).length < sizeLine := by
            rw [List.length_map, List.length_map]
            have := List.length_filter_le (fun b => decide (p.count (97 + b) < ms.getD b 0)) (List.range i)
            rw [List.length_range] at this
            exact small1000 (by omega)
          refine ⟨rfl, _, rfl, rfl, _, rfl, _, _, _, rfl, rfl, (by decide +kernel), letter_at lt5, tx p, _, rfl, rfl, _, rfl, _, rfl, tt, _, _, _, rfl, rfl, SqT.of (s9 _ _ tt8), ati, _, _, rfl, rfl, _, rfl, ?_⟩
          rw [count_tx]
          refine ite2 (fun c => ?_) (fun c => ?_)
          · have c' : p.count (97 + i) < ms.getD i 0 := by
              have := of_decide_eq_true c
              omega
            refine ⟨_, rfl, _, rfl, _, _, _, rfl, rfl, (by decide +kernel), letter_at lt5, _, _, rfl, rfl, ?_, _, d9, few, fun b o e => ?_, ?_⟩
            · rw [tx_len]
              exact Nat.le_of_lt (small1000 (by show p.length + 1 ≤ 1000; omega))
            · rw [upd_ne (ne_of_none e hD)]
              exact s9 _ _ e
            · rw [upd_same, List.range_succ, List.filter_append, List.map_append, strs_app, tx_snoc, List.filter_cons_of_pos (by exact decide_eq_true c')]
              rfl
          · have c' : ¬ p.count (97 + i) < ms.getD i 0 := fun z => c (decide_eq_true (by omega))
            refine ⟨s9, ?_⟩
            rw [d9, List.range_succ, List.filter_append, List.filter_cons_of_neg (by simpa using c'), List.filter_nil, List.append_nil]
        · obtain ⟨s9, d9⟩ := e9
          have en : ((List.range k).filter fun b => decide (p.count (97 + b) < ms.getD b 0)).map (fun b => p ++ [97 + b]) = Pal.nexts ms p := by
            unfold Pal.nexts
            rw [hml]
          rw [en] at d9
          have tj : ps.take (j + 1) = ps.take j ++ [p] := by
            rw [List.take_add_one, hp]
            rfl
          have cut : ((ps.take (j + 1)).flatMap (Pal.nexts ms)).length ≤ 4096 := by
            refine Nat.le_trans ?_ many2
            have z := congrArg (fun l => (l.flatMap (Pal.nexts ms)).length) (List.take_append_drop (j + 1) ps)
            simp only [List.flatMap_append, List.length_append] at z
            omega
          rw [tj, List.flatMap_append, List.flatMap_singleton] at cut
          refine ⟨lt, D, _, _, rfl, rfl, s9 _ _ lt8, d9, ?_, fun p2 hp2 => ⟨p2, _, rfl, s8.trans (s9.trans (same_new hp2 _)), ?_⟩⟩
          · rw [List.length_map, List.length_map, ← List.length_append]
            exact Nat.le_of_lt (under_million (by omega))
          · rw [upd_same, tj, List.flatMap_append, List.flatMap_singleton, strs_app]
      · rintro σ H8 ⟨lt, v9, rfl, s8, lt8⟩
        rw [lenP, List.take_length] at lt8
        refine ⟨_, rfl, lt, _, _, _, _, _, rfl, s6.trans s8, ?_⟩
        rw [Pal.levels_last, hps]
        exact lt8
    · rintro σ H6 ⟨pl, v4, v5, v7, v8, v9, rfl, s6, pl6⟩
      exact ⟨pl, v4, v5, v7, v8, v9, rfl, s6, pl6⟩
  rintro σ H6 ⟨pl, v4, v5, v7, v8, v9, rfl, s6, pl6⟩
  have hall := Pal.all_eq ms
  generalize hps : Pal.levels ms ms.sum [[]] = ps at pl6 hall
  have lenA : (Pal.all ms).length = ps.length := by rw [hall, List.length_map]
  have fewA : (Pal.all ms).length ≤ 1024 := Nat.le_trans (Pal.all_length ms) (four_pow hk hms)
  have lenP : (strs' ps).length = ps.length := List.length_map _
  -- the sorted pairs
  refine ⟨fun σ H7 => ∃ (sh : Addr) (ys : List Pr) (S : List (Int × List Nat)), σ = sg a r k (some (.ref tt)) v4 v5 (some (.ref pl)) v7 v8 v9 (some (.ref sh)) none none none none none ∧ Same H5 H7 ∧ H7 sh = some (.lst (refs ys)) ∧ Stand H7 ys ∧
      ys.map (·.2) = S.map cvt ∧ S.Perm (Pal.all ms) ∧ S.Pairwise (fun x y => ¬ Pal.lt2 y x), ?_, ?_⟩
  · refine ⟨_, rfl, pl, rfl, ⟨_, SqL.of pl6⟩, fun D hD => lc_list (K := K) (a := pl) (xs := strs' ps) (fun i H8 => ∃ made : List Pr, Same H6 H8 ∧ H8 D = some (.lst (refs made)) ∧ Stand H8 made ∧ made.map (·.2) = (ps.take i).map fun p => cvt (Pal.size p, p))
      ⟨[], same_new hD _, upd_same, (fun b hb => by cases hb), rfl⟩ (fun i H8 _ ⟨_, s8, _⟩ => SqL.of (s8 _ _ pl6)) ?_ ?_⟩
    · rintro i x H8 hx ⟨made, s8, d8, st8, m8⟩
      obtain ⟨p, hp, rfl⟩ : ∃ p, ps[i]? = some p ∧ V.str (tx p) = x := by
        rw [List.getElem?_map] at hx
        cases e : ps[i]? with
        | none => rw [e] at hx; cases hx
        | some p => rw [e] at hx; exact ⟨p, rfl, Option.some.inj hx⟩
      have hip : i < ps.length := (List.getElem?_eq_some_iff.mp hp).1
      have plen : p.length ≤ 6 := by
        have hmem : p ∈ Pal.levels ms ms.sum [[]] := by rw [hps]; exact List.mem_of_getElem? hp
        have := Pal.levels_letters hmem
        omega
      have lm : made.length = i := by
        have := congrArg List.length m8
        simp only [List.length_map, List.length_take] at this
        omega
      refine ⟨rfl, _, rfl, p, rfl, by omega, fun r9 H9 s9 e9 => ⟨1, rfl, r9, _, _, _, rfl, rfl, SqL.of e9, last_size p, _, rfl, (by show 2 ≤ sizeLine; decide), fun t ht => ?_⟩⟩
      have d9 := s9 _ _ d8
      have hDt : D ≠ t := ne_of_none d9 ht
      refine ⟨refs made, by rw [upd_ne hDt]; exact d9, under_million (by rw [List.length_map]; omega), made ++ [(t, Pal.size p, tx p)], fun c o e => ?_, by rw [upd_same, refs_app] <;> rfl, fun c hc => ?_, ?_⟩
      · rw [upd_ne (ne_of_none e hD), upd_ne (ne_of_none (s9 _ _ (s8 _ _ e)) ht)]
        exact s9 _ _ (s8 _ _ e)
      · rcases List.mem_append.mp hc with hc | hc
        · rw [upd_ne (ne_of (st8 c hc) d8 (by intro z; cases z)), upd_ne (ne_of_none (s9 _ _ (st8 c hc)) ht)]
          exact s9 _ _ (st8 c hc)
        · rw [List.mem_singleton.mp hc, upd_ne hDt.symm]
          exact upd_same
      · rw [List.map_append, m8, List.take_add_one, hp, List.map_append]
        rfl
    · rintro H8 ⟨made, s8, d8, st8, m8⟩
      rw [lenP, List.take_length] at m8
      have m9 : made.map (·.2) = (Pal.all ms).map cvt := by
        rw [m8, hall, List.map_map]
        rfl
      refine ⟨D, made, rfl, SqL.of d8, st8, fun ys sh hperm hpw hsh => ?_⟩
      have g : ∀ (b : Pr), cvt (b.2.1, b.2.2.cps.toList) = b.2 := fun b => by
        exact Prod.ext rfl (SX.S_tl b.2.2)
      have sS := same_new hsh (.lst (refs ys))
      refine ⟨sh, ys, ys.map fun b => (b.2.1, b.2.2.cps.toList), rfl, s6.trans (s8.trans sS), upd_same, fun b hb => sS _ _ (st8 b (hperm.mem_iff.mp hb)), ?_, ?_, ?_⟩
      · rw [List.map_map]
        exact List.map_congr_left fun b _ => (g b).symm
      · refine (hperm.map _).trans ?_
        have e : made.map (fun b => (b.2.1, b.2.2.cps.toList)) = Pal.all ms := by
          have z := congrArg (List.map fun u : Int × Str => (u.1, u.2.cps.toList)) m9
          rw [List.map_map, List.map_map] at z
          refine Eq.trans z ?_
          refine Eq.trans (List.map_congr_left (g := id) fun y _ => ?_) (List.map_id _)
          show (y.1, (tx y.2).cps.toList) = y
          rw [tx_list]
        rw [e]
      · exact List.pairwise_map.mpr (hpw.imp fun {x y} h z => h z)
  rintro σ H7 ⟨sh, ys, S, rfl, s7, sh7, st7, m7, hperm, hpw⟩
  have lenS : ys.length = S.length := by
    have := congrArg List.length m7
    simpa using this
  have lenS2 : S.length = (Pal.all ms).length := hperm.length_eq
  have posS : 0 < S.length := by
    rw [lenS2]
    exact List.length_pos_iff.mpr (Pal.all_some ms)
  have ys_at : ∀ (i : Nat) (h : i < S.length), ∃ b : Pr, ys[i]? = some b ∧ b ∈ ys ∧ b.2 = cvt S[i] := fun i h => by
    have hy : i < ys.length := by omega
    refine ⟨ys[i], List.getElem?_eq_getElem hy, List.getElem_mem hy, ?_⟩
    have z := congrArg (fun l => l[i]?) m7
    simp only [List.getElem?_map, List.getElem?_eq_getElem hy, List.getElem?_eq_getElem h, Option.map_some] at z
    exact Option.some.inj z
  -- the greatest length
  obtain ⟨zb, zb1, zb2, zb3⟩ := ys_at (S.length - 1) (by omega)
  have hz : S[S.length - 1]? = some (S[S.length - 1]'(by omega)) := List.getElem?_eq_getElem _
  obtain ⟨zmem, zmost⟩ := Pal.last_most hperm hpw hz
  generalize S[S.length - 1]'(by omega) = z at zb3 zmem zmost
  have atz : atI (refs ys) (-1) = some (.ref zb.1) := by
    have e : ys = ys.dropLast ++ [zb] := by
      have hne : ys ≠ [] := fun q => by rw [q] at lenS; simp at lenS; omega
      have q : ys.getLast hne = zb := by
        rw [List.getLast_eq_getElem]
        have q2 := zb1
        rw [← lenS, List.getElem?_eq_getElem (by omega)] at q2
        exact Option.some.inj q2
      rw [← q]
      exact (List.dropLast_concat_getLast hne).symm
    rw [e, refs_app]
    exact atI_last _ _
  refine ⟨fun σ H8 => σ = sg a r k (some (.ref tt)) v4 v5 (some (.ref pl)) v7 v8 v9 (some (.ref sh)) (some (.int z.1)) none none none none ∧ H8 = H7, ?_, ?_⟩
  · refine ⟨_, rfl, 1, rfl, sh, _, _, _, rfl, rfl, SqL.of sh7, atz, zb.1, _, 0, _, rfl, rfl, SqT.of (st7 zb zb2), atI_nat (j := 0) rfl, ?_⟩
    rw [zb3]
    exact ⟨rfl, rfl⟩
  rintro σ H8 ⟨eσ, eH⟩
  rw [eσ, eH]
  clear eσ eH
  obtain ⟨hb, hb1, hb2, hb3⟩ := ys_at 0 posS
  have hh : S[0]? = some S[0] := List.getElem?_eq_getElem posS
  generalize S[0] = h at hb3 hh
  have lenR : (refs ys).length = ys.length := List.length_map _
  -- what is due
  refine ⟨fun σ H9 => ∃ (du : Addr) (g : List Nat), σ = sg a r k (some (.ref tt)) v4 v5 (some (.ref pl)) v7 v8 v9 (some (.ref sh)) (some (.int z.1)) (some (.ref du)) none none none ∧ Same H7 H9 ∧ H7 du = none ∧ H9 du = some (.lst [.str (tx h.2), .str (tx g)]) ∧
      (z.1, g) ∈ Pal.all ms ∧ ∀ p, (z.1, p) ∈ Pal.all ms → ¬ p < g, ?_, ?_⟩
  · refine ⟨_, rfl, sh, _, 0, _, rfl, rfl, SqL.of sh7, atI_nat (j := 0) (by rw [List.getElem?_map, hb1] <;> rfl), hb.1, _, 1, _, rfl, rfl, SqT.of (st7 hb hb2), at_one _ _, ?_⟩
    rw [hb3]
    refine ⟨_, rfl, sh, rfl, ⟨_, SqL.of sh7⟩, fun D hD => lc_list (K := K) (a := sh) (xs := refs ys) (fun i H9 => Same H7 H9 ∧ H9 D = some (.lst ((((S.take i).filter fun y => decide (y.1 = z.1)).map fun y => tx y.2).map V.str)))
      ⟨same_new hD _, upd_same⟩ (fun i H9 _ ⟨s9, _⟩ => SqL.of (s9 _ _ sh7)) ?_ ?_⟩
    · rintro i x H9 hx ⟨s9, d9⟩
      have hi : i < ys.length := by
        have := (List.getElem?_eq_some_iff.mp hx).1
        rw [lenR] at this
        exact this
      obtain ⟨b, b1', b2', b3'⟩ := ys_at i (by omega)
      obtain rfl : V.ref b.1 = x := by
        rw [List.getElem?_map, b1'] at hx
        exact Option.some.inj hx
      have hSi : S[i]? = some (S[i]'(by omega)) := List.getElem?_eq_getElem _
      generalize S[i]'(by omega) = y at b3' hSi
      have few : ((((S.take i).filter fun y => decide (y.1 = z.1)).map fun y => tx y.2).map V.str).length < sizeLine := by
        rw [List.length_map, List.length_map]
        have := List.length_filter_le (fun y : Int × List Nat => decide (y.1 = z.1)) (S.take i)
        rw [List.length_take] at this
        exact under_million (by omega)
      refine ⟨b.1, _, rfl, SqT.of (s9 _ _ (st7 b b2')), rfl, _, _, rfl, _, _, rfl, rfl, rfl, _, rfl, _, rfl, rfl, _, rfl, ?_⟩
      rw [b3']
      refine ite2 (fun c => ?_) (fun c => ?_)
      · have c' : y.1 = z.1 := V.int.inj (of_decide_eq_true c)
        refine ⟨_, rfl, _, d9, few, fun b o e => ?_, ?_⟩
        · rw [upd_ne (ne_of_none e hD)]
          exact s9 _ _ e
        · rw [upd_same, List.take_add_one, hSi, List.filter_append, List.map_append, List.map_append]
          show _ = some (HO.lst (_ ++ (([y].filter fun y => decide (y.1 = z.1)).map fun y => tx y.2).map V.str))
          rw [List.filter_cons_of_pos (by exact decide_eq_true c')]
          rfl
      · have c' : ¬ y.1 = z.1 := fun q => c (decide_eq_true (by show V.int y.1 = V.int z.1; rw [q]))
        refine ⟨s9, ?_⟩
        rw [d9, List.take_add_one, hSi, List.filter_append]
        show _ = some (HO.lst (((_ ++ [y].filter fun y => decide (y.1 = z.1)).map fun y => tx y.2).map V.str))
        rw [List.filter_cons_of_neg (by simpa using c'), List.filter_nil, List.append_nil]
    · rintro H9 ⟨s9, d9⟩
      rw [lenR, List.take_of_length_le (by omega)] at d9
      have memF : ∀ u : Str, u ∈ ((S.filter fun y => decide (y.1 = z.1)).map fun y => tx y.2) ↔ ∃ p, (z.1, p) ∈ Pal.all ms ∧ tx p = u := fun u => by
        rw [List.mem_map]
        constructor
        · rintro ⟨y, hy, e⟩
          obtain ⟨hy1, hy2⟩ := List.mem_filter.mp hy
          have e1 : y.1 = z.1 := of_decide_eq_true hy2
          exact ⟨y.2, by rw [← e1]; exact hperm.mem_iff.mp hy1, e⟩
        · rintro ⟨p, hp, e⟩
          exact ⟨(z.1, p), List.mem_filter.mpr ⟨hperm.mem_iff.mpr hp, decide_eq_true rfl⟩, e⟩
      refine ⟨D, _, rfl, SqL.of d9, fun e => ?_, fun u hu hmin => ⟨(by show 2 ≤ sizeLine; decide), fun du hdu => ?_⟩⟩
      · have := (memF (tx z.2)).mpr ⟨z.2, zmem, rfl⟩
        rw [e] at this
        cases this
      · obtain ⟨g, hg, rfl⟩ := (memF u).mp hu
        refine ⟨du, g, rfl, s9.trans (same_new hdu _), s9.free hdu, upd_same, hg, fun p hp hlt => ?_⟩
        refine hmin (tx p) ((memF _).mpr ⟨p, hp, rfl⟩) ?_
        rw [tx_list, tx_list]
        exact hlt
  rintro σ H9 ⟨du, g, rfl, s9, ndu, du9, hg, hgl⟩
  refine ⟨fun σ H11 => ∃ (tz : Addr) (zs : List Int), σ = sg a r k (some (.ref tt)) v4 v5 (some (.ref pl)) v7 v8 v9 (some (.ref sh)) (some (.int z.1)) (some (.ref du)) none none none ∧ Same H7 H11 ∧ H11 du = some (.lst [.str (tx h.2), .str (tx g), .ref tz]) ∧
      H11 tz = some (.tup (zs.map V.int)) ∧ zs.length ≤ 1000 ∧ zs.Pairwise (· < ·) ∧ ∀ k, k ∈ zs ↔ ∃ y ∈ Pal.all ms, y.1 = k, ?_, ?_⟩
  · refine ⟨_, rfl, .inl ⟨rfl, _, SqL.of du9⟩, _, rfl, sh, rfl, ⟨_, SqL.of (s9 _ _ sh7)⟩, fun D hD => lc_list (K := K) (a := sh) (xs := refs ys) (fun i H10 => Same H9 H10 ∧ H10 D = some (.lst (((ys.take i).map fun b => b.2.1).map V.int)))
      ⟨same_new hD _, upd_same⟩ (fun i H10 _ ⟨s10, _⟩ => SqL.of (s10 _ _ (s9 _ _ sh7))) ?_ ?_⟩
    · rintro i x H10 hx ⟨s10, d10⟩
      have hi : i < ys.length := by
        have := (List.getElem?_eq_some_iff.mp hx).1
        rw [lenR] at this
        exact this
      obtain ⟨b, b1', b2', b3'⟩ := ys_at i (by omega)
      obtain rfl : V.ref b.1 = x := by
        rw [List.getElem?_map, b1'] at hx
        exact Option.some.inj hx
      refine ⟨b.1, _, rfl, SqT.of (s10 _ _ (s9 _ _ (st7 b b2'))), rfl, _, _, rfl, _, _, rfl, rfl, rfl, _, rfl, _, d10, under_million (by rw [List.length_map, List.length_map, List.length_take]; omega), fun b o e => ?_, ?_⟩
      · rw [upd_ne (ne_of_none e hD)]
        exact s10 _ _ e
      · rw [upd_same, List.take_add_one, b1', List.map_append, List.map_append]
        rfl
    · rintro H10 ⟨s10, d10⟩
      rw [lenR, List.take_length] at d10
      have mem : ∀ k, k ∈ (ys.map fun b => b.2.1) ↔ ∃ y ∈ Pal.all ms, y.1 = k := fun k => by
        have e4 : (ys.map fun b => b.2.1) = S.map (·.1) := by
          have z := congrArg (List.map Prod.fst) m7
          rw [List.map_map, List.map_map] at z
          exact z
        rw [e4, List.mem_map]
        constructor
        · rintro ⟨y, hy, e⟩
          exact ⟨y, hperm.mem_iff.mp hy, e⟩
        · rintro ⟨y, hy, e⟩
          exact ⟨y, hperm.mem_iff.mpr hy, e⟩
      refine ⟨D, _, rfl, SqL.of d10, (by rw [List.length_map]; unfold scanBound; omega), fun p ks hp hnd hks => ?_⟩
      have few := few_sizes hms hnd (fun k hk => (mem k).mp ((hks k).mp hk))
      have sp := same_new hp (SetO w p (fun j => decide (j ∈ ys.map fun b => b.2.1)) ks.length)
      refine ⟨p, _, _, rfl, upd_same, few, fun zs p2 hzs hmem hzl hp2 => ?_⟩
      have sq := same_new hp2 (.lst (zs.map V.int))
      refine ⟨p2, _, rfl, .inl ⟨SqL.of upd_same, fun tz htz => ?_⟩⟩
      have sr := same_new htz (.tup (zs.map V.int))
      have s12 := s10.trans (sp.trans (sq.trans sr))
      have du12 := s12 _ _ du9
      have ndz : tz ≠ du := fun q => by
        have e1 := sq _ _ (sp _ _ (s10 _ _ du9))
        rw [q, e1] at htz
        cases htz
      refine ⟨du, _, _, rfl, rfl, du12, (by show 2 < sizeLine; decide), tz, zs, rfl, fun b o e => ?_, upd_same, ?_, by omega, hzs, fun k => ?_⟩
      · rw [upd_ne (ne_of_none e ndu)]
        exact s12 _ _ (s9 _ _ e)
      · rw [upd_ne ndz]
        exact upd_same
      · rw [hmem k, ← mem k]
        exact ⟨of_decide_eq_true, decide_eq_true⟩
  rintro σ H11 ⟨tz, zs, rfl, s11, du11, tz11, zl, hzs, hzm⟩
  have good : GoodT ms := ⟨by omega, by omega, by omega⟩
  -- alike
  refine ⟨fun σ H12 => σ = sg a r k (some (.ref tt)) v4 v5 (some (.ref pl)) v7 v8 v9 (some (.ref sh)) (some (.int z.1)) (some (.ref du)) none none none ∧ Same H7 H12, ?_, ?_⟩
  · have tt11 := s11 _ _ (s7 _ _ tt5)
    refine ⟨_, rfl, _, rfl, .inl ⟨tt, ms, rfl, tt11, good, fun m1 Ha sa hm1 hl1 => ?_⟩⟩
    refine ⟨_, rfl, _, rfl, .inl ⟨tt, ms, rfl, sa _ _ tt11, good, fun m2 Hb sb hm2 hl2 => ?_⟩⟩
    refine ⟨_, rfl, _, rfl, .inl ⟨tt, ms, rfl, sb _ _ (sa _ _ tt11), good, hk, hms, fun ws p3 Hc sc hws hwm hp3 => ?_⟩⟩
    refine ⟨(by show 3 ≤ sizeLine; decide), fun fo hfo => ?_⟩
    have sd := same_new hfo (.lst [.str (tx m1.2), .str (tx m2.2), .ref p3])
    have s15 := sa.trans (sb.trans (sc.trans sd))
    have e1 : m1 = h := Pal.least_first hperm hpw hh hm1 hl1
    have e2 : m2.2 = g := Pal.greatest_plan zmost ⟨z, zmem, rfl⟩ hm2 hl2 hg hgl
    have e3 : ws = zs := Pal.rising_one ws zs hws hzs fun k => (hwm k).trans (hzm k).symm
    refine ⟨_, rfl, .ref fo, .ref du, rfl, ?_, fun He se => ⟨true, rfl, iteF ⟨rfl, s11.trans (s15.trans se)⟩⟩⟩
    refine .inr (.inr ⟨fo, du, _, _, rfl, rfl, .inl ⟨upd_same, s15 _ _ du11⟩, rfl, by show 3 ≤ 1000; decide, fun i x y hx hy => ?_⟩)
    match i, hx, hy with
    | 0, hx, hy =>
      cases hx
      cases hy
      exact .inr (.inl ⟨_, rfl, by rw [e1]⟩)
    | 1, hx, hy =>
      cases hx
      cases hy
      exact .inr (.inl ⟨_, rfl, by rw [e2]⟩)
    | 2, hx, hy =>
      cases hx
      cases hy
      refine .inr (.inr ⟨p3, tz, _, _, rfl, rfl, .inr ⟨sd _ _ hp3, s15 _ _ tz11⟩, by rw [e3], by rw [List.length_map]; exact zl, fun i x y hx hy => ?_⟩)
      rw [e3] at hx
      rw [hx] at hy
      cases hy
      rw [List.getElem?_map] at hx
      cases q : zs[i]? with
      | none =>
        rw [q] at hx
        cases hx
      | some n =>
        rw [q] at hx
        exact .inl ⟨n, (Option.some.inj hx).symm, (Option.some.inj hx).symm⟩
    | i + 3, hx, _ => cases hx
  rintro σ H12 ⟨rfl, s12⟩
  have R12 : RowAt K a ns H12 r := R5.same (s7.trans s12)
  -- the bad value
  refine ⟨fun σ H14 => ∃ (v : V) (wd : Addr) (Hp' : Hp), σ = sg a r k (some (.ref tt)) v4 v5 (some (.ref pl)) v7 v8 v9 (some (.ref sh)) (some (.int z.1)) (some (.ref du)) (some v) (some (.ref wd)) none ∧
      Hp' wd = none ∧ (∀ H', Same Hp' H' → BadV K H' v) ∧ Same Hp' H14 ∧ H14 wd = some (.lst []), ?_, ?_⟩
  · refine ⟨_, rfl, (by show 0 ≤ sizeLine; decide), fun p0 hp0 => ⟨(by show 1 ≤ sizeLine; decide), fun q1 hq1 => ⟨q1, 6, [.int 1], rfl, rfl, SqT.of upd_same, (by simp), by decide, by decide, by decide, fun p1 hp1 => ?_⟩⟩⟩
    refine ⟨(by show 1 ≤ sizeLine; decide), fun p2 hp2 => ⟨(by show 2 ≤ sizeLine; decide), fun p3 hp3 => ⟨(by show 1 ≤ sizeLine; decide), fun p4 hp4 => ⟨1, rfl, (by show 1 ≤ sizeLine; decide), fun p5 hp5 => ?_⟩⟩⟩⟩
    refine ⟨(by show 1 ≤ sizeLine; decide), fun p6 hp6 => ⟨(by show 1 ≤ sizeLine; decide), fun p7 hp7 => ⟨(by show 10 ≤ sizeLine; decide), fun L hL => ?_⟩⟩⟩
    have c0 := same_new hp0 (.tup [])
    have d1 := same_new hq1 (.tup [.int 1])
    have c1 := same_new hp1 (.tup [.int 1, .int 1, .int 1, .int 1, .int 1, .int 1])
    have c2 := same_new hp2 (.tup [.int 10])
    have c3 := same_new hp3 (.tup [.int 5, .int 5])
    have c4 := same_new hp4 (.lst [.int 1])
    have c5 := same_new hp5 (.tup [.int (-1)])
    have c6 := same_new hp6 (.tup [.bl true])
    have c7 := same_new hp7 (.tup [.str "1"])
    have cL := same_new hL (.lst [.non, .ref p0, .ref p1, .ref p2, .ref p3, .ref p4, .ref p5, .ref p6, .ref p7, .int 3])
    have all7 := c7.trans cL
    have all6 := c6.trans all7
    have all5 := c5.trans all6
    have all4 := c4.trans all5
    have all3 := c3.trans all4
    have all2 := c2.trans all3
    have all1 := c1.trans all2
    have all0 := d1.trans all1
    have RL := R12.same (c0.trans all0)
    have e0 := all0 _ _ upd_same
    have e1 := all2 _ _ upd_same
    have e2 := all3 _ _ upd_same
    have e3 := all4 _ _ upd_same
    have e4 := all5 _ _ upd_same
    have e5 := all6 _ _ upd_same
    have e6 := all7 _ _ upd_same
    have e7 := cL _ _ upd_same
    obtain ⟨-, i9, j9, k9, hR9, -⟩ := id RL
    obtain ⟨-, i8, j8, k8, hR8, -⟩ := id (R12.same (c0.trans (d1.trans (c1.trans (c2.trans (c3.trans (c4.trans (c5.trans (c6.trans c7)))))))))
    have nrL : r ≠ L := fun w => by
      rw [← w, hR8] at hL
      cases hL
    refine ⟨r, a, L, ns, _, rfl, RL, upd_same, nrL, by show 1 ≤ 10; decide, by show 10 ≤ 1000; decide, fun v H13 hv kb R13 => ?_⟩
    have far : ∀ {p : Addr} {xs : List V} {H0 : Hp}, H0 r = some (.lst [.ref a, .int i9, .int j9, .int k9]) → H0 p = some (.tup xs) → p ≠ r := fun h1 h2 => ne_of h2 h1 (by intro w; cases w)
    have bad : ∀ H', Same H13 H' → BadV K H' v := fun H' s' => by
      have b := kb.trans (.of s')
      have keep : ∀ {p : Addr} {xs : List V}, _ → H' p = some (.tup xs) := fun {p xs} h => b p _ (far hR9 h) h
      obtain rfl | hv := List.mem_cons.mp hv
      · exact bad_non
      obtain rfl | hv := List.mem_cons.mp hv
      · exact bad_tup (keep e0) (by decide) (fun g => absurd g.1 (by decide))
      obtain rfl | hv := List.mem_cons.mp hv
      · exact bad_tup (keep e1) (by decide) (fun g => absurd g.2.1 (by decide))
      obtain rfl | hv := List.mem_cons.mp hv
      · exact bad_tup (keep e2) (by decide) (fun g => absurd (g.2.2.1 (.int 10) (by simp)) (by decide))
      obtain rfl | hv := List.mem_cons.mp hv
      · exact bad_tup (keep e3) (by decide) (fun g => absurd (g.2.2.2 [5, 5] rfl) (by decide))
      obtain rfl | hv := List.mem_cons.mp hv
      · exact bad_lst (b p4 _ (ne_of e4 hR9 (by intro w; cases w)) e4)
      obtain rfl | hv := List.mem_cons.mp hv
      · exact bad_tup (keep e5) (by decide) (fun g => absurd (g.2.2.1 (.int (-1)) (by simp)) (by decide))
      obtain rfl | hv := List.mem_cons.mp hv
      · exact bad_tup (keep e6) (by decide) (fun g => absurd (g.2.2.1 (.bl true) (by simp)) (by decide))
      obtain rfl | hv := List.mem_cons.mp hv
      · exact bad_tup (keep e7) (by decide) (fun g => absurd (g.2.2.1 (.str "1") (by simp)) (by decide))
      obtain rfl | hv := List.mem_cons.mp hv
      · exact bad_int 3
      · cases hv
    exact ⟨(by show 0 ≤ sizeLine; decide), fun wd hwd => ⟨_, _, rfl, v, wd, H13, rfl, hwd, bad, same_new hwd _, upd_same⟩⟩
  rintro σ H14 ⟨v, wd, Hp', rfl, nwd, bad, s14, wd14⟩
  -- each of the three refuses it
  refine ⟨fun σ H15 => ∃ v15 : Option V, σ = sg a r k (some (.ref tt)) v4 v5 (some (.ref pl)) v7 v8 v9 (some (.ref sh)) (some (.int z.1)) (some (.ref du)) (some v) (some (.ref wd)) v15 ∧ H15 wd = some (.lst [.int 1, .int 1, .int 1]), ?_, ?_⟩
  · refine ⟨(by show 3 ≤ sizeLine; decide), fun L hL => ?_⟩
    have sL := same_new hL (.lst [.ref f1, .ref f2, .ref f3])
    have ndL : wd ≠ L := ne_of_none wd14 hL
    have hLp : Hp' L = none := s14.free hL
    refine ⟨L, rfl, ⟨_, SqL.of upd_same⟩, for_list (K := K) (a := L) (xs := [.ref f1, .ref f2, .ref f3]) (g := gName 15)
      (tb := fun D σ H => tDrop (tLoc 15 Pd (WE (wAs K (.ref C) 16 (fun _ _ _ => tDrop (tBM K "list" rAppend (tVar 14) (tCons (tC (.int 1)) tNil))) (fun _ _ _ _ => False) D)) (tCons (tVar 13) tNil)) D σ H) (fun i σ H15 => ∃ v15 : Option V, σ = sg a r k (some (.ref tt)) v4 v5 (some (.ref pl)) v7 v8 v9 (some (.ref sh)) (some (.int z.1)) (some (.ref du)) (some v) (some (.ref wd)) v15 ∧
        Same Hp' H15 ∧ H15 L = some (.lst [.ref f1, .ref f2, .ref f3]) ∧ H15 wd = some (.lst (List.replicate i (.int 1))))
      ⟨none, rfl, s14.trans sL, upd_same, sL _ _ wd14⟩ (fun i σ H15 _ ⟨_, _, _, l15, _⟩ => SqL.of l15) ?_ ?_⟩
    · rintro i x σ H15 hx ⟨v15, rfl, s15, l15, w15⟩
      have hi : i < 3 := (List.getElem?_eq_some_iff.mp hx).1
      have fin : ∀ (fx : Addr) (ea : Addr), ∃ v15' : Option V, (((sg a r k (some (.ref tt)) v4 v5 (some (.ref pl)) v7 v8 v9 (some (.ref sh)) (some (.int z.1)) (some (.ref du)) (some v) (some (.ref wd)) v15).set 15 (some (.ref fx))).set 16 (some (.ref ea))).set 16 none =
          sg a r k (some (.ref tt)) v4 v5 (some (.ref pl)) v7 v8 v9 (some (.ref sh)) (some (.int z.1)) (some (.ref du)) (some v) (some (.ref wd)) v15' := fun fx ea => ⟨some (.ref fx), rfl⟩
      have go : ∀ (H16 : Hp), Same H15 H16 → Same Hp' (upd H16 wd (.lst (List.replicate i (.int 1) ++ [.int 1]))) ∧ (upd H16 wd (.lst (List.replicate i (.int 1) ++ [.int 1]))) L = some (.lst [.ref f1, .ref f2, .ref f3]) ∧
          (upd H16 wd (.lst (List.replicate i (.int 1) ++ [.int 1]))) wd = some (.lst (List.replicate (i + 1) (.int 1))) := fun H16 s16 => by
        refine ⟨fun b o e => ?_, ?_, ?_⟩
        · rw [upd_ne (ne_of_none e nwd)]
          exact s16 _ _ (s15 _ _ e)
        · rw [upd_ne ndL.symm]
          exact s16 _ _ l15
        · rw [upd_same, List.replicate_succ']
      have small : (List.replicate i (V.int 1)).length < sizeLine := small1000 (by rw [List.length_replicate]; omega)
      obtain rfl | rfl | rfl : i = 0 ∨ i = 1 ∨ i = 2 := by omega
      · cases hx
        refine ⟨f1, spShort K C, rfl, .inl ⟨rfl, rfl⟩, _, rfl, v, rfl, .inr ⟨bad _ s15, fun H16 s16 => ⟨true, T.eC, fun _ ea hea => ?_, fun w => nomatch w⟩⟩⟩
        exact ⟨_, rfl, .inl ⟨rfl, _, SqL.of (s16 _ _ w15)⟩, wd, _, _, rfl, rfl, s16 _ _ w15, small, _, rfl, go H16 s16⟩
      · cases hx
        refine ⟨f2, spLong K C, rfl, .inr (.inl ⟨rfl, rfl⟩), _, rfl, v, rfl, .inr ⟨bad _ s15, fun H16 s16 => ⟨true, T.eC, fun _ ea hea => ?_, fun w => nomatch w⟩⟩⟩
        exact ⟨_, rfl, .inl ⟨rfl, _, SqL.of (s16 _ _ w15)⟩, wd, _, _, rfl, rfl, s16 _ _ w15, small, _, rfl, go H16 s16⟩
      · cases hx
        refine ⟨f3, spLens K C, rfl, .inr (.inr ⟨rfl, rfl⟩), _, rfl, v, rfl, .inr ⟨bad _ s15, fun H16 s16 => ⟨true, T.eC, fun _ ea hea => ?_, fun w => nomatch w⟩⟩⟩
        exact ⟨_, rfl, .inl ⟨rfl, _, SqL.of (s16 _ _ w15)⟩, wd, _, _, rfl, rfl, s16 _ _ w15, small, _, rfl, go H16 s16⟩
    · rintro σ H15 ⟨v15, rfl, _, _, w15⟩
      exact ⟨v15, rfl, w15⟩
  rintro σ H15 ⟨v15, rfl, w15⟩
  -- the end
  refine ⟨_, rfl, (by show 3 ≤ sizeLine; decide), fun n1 hn1 => ?_⟩
  have sn := same_new hn1 (.lst [.int 1, .int 1, .int 1])
  have three : ∀ {H : Hp} {p : Addr}, H p = some (.lst [.int 1, .int 1, .int 1]) → Dp K H (.ref p) (.list [.int 1, .int 1, .int 1]) := fun h => .lst (SqL.of h) (.cons (.int 1) (.cons (.int 1) (.cons (.int 1) .nil)))
  refine ⟨_, _, three (sn _ _ w15), three upd_same, by decide +kernel, by decide +kernel, ?_⟩
  have ee : PyData.eqv (.list [.int 1, .int 1, .int 1]) (.list [.int 1, .int 1, .int 1]) = true := by decide +kernel
  rw [ee]
  refine ⟨true, rfl, iteT ?_⟩
  refine ⟨(by show 3 ≤ sizeLine; decide), fun t1 ht1 => ⟨_, rfl, .inl ⟨t1, [0, 0, 2], rfl, upd_same, ⟨by decide, by decide, by decide⟩, fun m Hm sm hm _ => ⟨rfl, ?_⟩⟩⟩⟩
  have m2 : m.2 = [99, 99] := by
    have e : Pal.all [0, 0, 2] = [(2, [99, 99])] := by decide +kernel
    rw [e, List.mem_singleton] at hm
    rw [hm]
  have e9 : decide (V.str (tx m.2) = V.str "cc") = true := by
    rw [m2]
    decide +kernel
  rw [e9]
  refine ⟨true, rfl, iteT ?_⟩
  refine ⟨(by show 3 ≤ sizeLine; decide), fun t2 ht2 => ⟨_, rfl, .inl ⟨t2, [3, 3, 3], rfl, upd_same, ⟨by decide, by decide, by decide⟩, fun n Hn sn2 hn _ => ?_⟩⟩⟩
  have ln : (tx n.2).length = 9 := by
    rw [tx_len, Pal.all_letters hn]
    rfl
  refine ⟨tx n.2, rfl, by rw [ln]; decide, rfl, ?_⟩
  rw [ln]
  have e10 : decide (V.int ((9 : Nat) : Int) = V.int 9) = true := by decide
  rw [e10]
  exact q Hn
end
end PalD
/-! The program's top; the statement. -/
namespace PalD
open PySem L2 PalR
theorem exm_own {K : PySem.W.Frag} {C : Addr} (h1 : PySem.W.subIn K (.ref C) (.type "BaseException") = some true) (h2 : PySem.W.isClsIn K C = true) (h3 : PySem.W.typeIn K (.ref C) = some (.type "type"))
    (h4 : PySem.W.subIn K (.ref C) (.ref C) = some true) : PySem.W.exmOne K (.ref C) (.ref C) = some true := by
  have e : PySem.W.kitCls K (.ref C) (.ref C) = some true := by
    have h2' : (PySem.W.clsIn K C).isSome = true := h2
    unfold PySem.W.kitCls
    simp only [h2', h3, h4]
    rfl
  unfold PySem.W.exmOne
  rw [h1, e]
  rfl
theorem all_mk {l : PySem.W.OpenLaw} {w : World} {K : PySem.W.Frag} {h : Heap} {mg : Str → Option Value} {fa C f1 f2 f3 f4 f5 f6 f7 f8 f9 f10 f11 f12 f13 : Addr} (X : K.In h) (G : h.Ns mainGlobals mg) (hfa : mg "law" = some (.ref fa))
    {od1 an1 od2 an2 od3 an3 od4 an4 od5 an5 od6 an6 od7 an7 od8 an8 od9 an9 od10 an10 od11 an11 od12 an12 od13 an13 : Option Addr} {sl1 sl2 sl3 sl4 sl5 sl6 sl7 sl8 sl9 sl10 sl11 sl12 sl13 : Array (Option Value)} {oc1 kV1 dc1 pm1 cd1 ct1 oc2 kV2 dc2 pm2 cd2 ct2 oc3 kV3 dc3 pm3 cd3 ct3 oc4 kV4 dc4 pm4 cd4 ct4 oc5 kV5 dc5 pm5 cd5 ct5 oc6 kV6 dc6 pm6 cd6 ct6 oc7 kV7 dc7 pm7 cd7 ct7 oc8 kV8 dc8 pm8 cd8 ct8 oc9 kV9 dc9 pm9 cd9 ct9 oc10 kV10 dc10 pm10 cd10 ct10 oc11 kV11 dc11 pm11 cd11 ct11 oc12 kV12 dc12 pm12 cd12 ct12 oc13 kV13 dc13 pm13 cd13 ct13 : Value} {tl tm : Tok}
    (a1 : PySem.W.nsIn K mainGlobals "is_int" = some (some (.ref f1))) (l1 : K.lookup f1 = some ⟨oc1, od1, .func (PySem.W.fnOf "is_int" "is_int" (defArgs sIsInt) (defBody sIsInt) (defScope sIsInt) .none kV1 dc1 pm1 an1 cd1 ct1), sl1⟩) (c1 : PySem.W.codeIn K cd1 "is_int" = true) (k1 : PySem.W.keepIn K (.ref f1) = true)
    (a2 : PySem.W.nsIn K mainGlobals "is_from" = some (some (.ref f2))) (l2 : K.lookup f2 = some ⟨oc2, od2, .func (PySem.W.fnOf "is_from" "is_from" (defArgs sIsFrom) (defBody sIsFrom) (defScope sIsFrom) .none kV2 dc2 pm2 an2 cd2 ct2), sl2⟩) (c2 : PySem.W.codeIn K cd2 "is_from" = true) (k2 : PySem.W.keepIn K (.ref f2) = true)
    (a3 : PySem.W.nsIn K mainGlobals "need_numbers" = some (some (.ref f3))) (l3 : K.lookup f3 = some ⟨oc3, od3, .func (PySem.W.fnOf "need_numbers" "need_numbers" (defArgs sNeed) (defBody sNeed) (defScope sNeed) .none kV3 dc3 pm3 an3 cd3 ct3), sl3⟩) (c3 : PySem.W.codeIn K cd3 "need_numbers" = true) (k3 : PySem.W.keepIn K (.ref f3) = true)
    (a4 : PySem.W.nsIn K mainGlobals "orders_of" = some (some (.ref f4))) (l4 : K.lookup f4 = some ⟨oc4, od4, .func (PySem.W.fnOf "orders_of" "orders_of" (defArgs sOrders) (defBody sOrders) (defScope sOrders) .none kV4 dc4 pm4 an4 cd4 ct4), sl4⟩) (c4 : PySem.W.codeIn K cd4 "orders_of" = true) (k4 : PySem.W.keepIn K (.ref f4) = true)
    (a5 : PySem.W.nsIn K mainGlobals "all_orders" = some (some (.ref f5))) (l5 : K.lookup f5 = some ⟨oc5, od5, .func (PySem.W.fnOf "all_orders" "all_orders" (defArgs sAll) (defBody sAll) (defScope sAll) .none kV5 dc5 pm5 an5 cd5 ct5), sl5⟩) (c5 : PySem.W.codeIn K cd5 "all_orders" = true) (k5 : PySem.W.keepIn K (.ref f5) = true)
    (a6 : PySem.W.nsIn K mainGlobals "shortest_order" = some (some (.ref f6))) (l6 : K.lookup f6 = some ⟨oc6, od6, .func (PySem.W.fnOf "shortest_order" "shortest_order" (defArgs sShort) (defBody sShort) (defScope sShort) .none kV6 dc6 pm6 an6 cd6 ct6), sl6⟩) (c6 : PySem.W.codeIn K cd6 "shortest_order" = true) (k6 : PySem.W.keepIn K (.ref f6) = true)
    (a7 : PySem.W.nsIn K mainGlobals "longest_order" = some (some (.ref f7))) (l7 : K.lookup f7 = some ⟨oc7, od7, .func (PySem.W.fnOf "longest_order" "longest_order" (defArgs sLong) (defBody sLong) (defScope sLong) .none kV7 dc7 pm7 an7 cd7 ct7), sl7⟩) (c7 : PySem.W.codeIn K cd7 "longest_order" = true) (k7 : PySem.W.keepIn K (.ref f7) = true)
    (a8 : PySem.W.nsIn K mainGlobals "order_lengths" = some (some (.ref f8))) (l8 : K.lookup f8 = some ⟨oc8, od8, .func (PySem.W.fnOf "order_lengths" "order_lengths" (defArgs sLens) (defBody sLens) (defScope sLens) .none kV8 dc8 pm8 an8 cd8 ct8), sl8⟩) (c8 : PySem.W.codeIn K cd8 "order_lengths" = true) (k8 : PySem.W.keepIn K (.ref f8) = true)
    (a9 : PySem.W.nsIn K mainGlobals "_law_taken" = some (some (.ref f9))) (l9 : K.lookup f9 = some ⟨oc9, od9, .func (PySem.W.fnOf "_law_taken" "_law_taken" (defArgs sTaken) (defBody sTaken) (defScope sTaken) .none kV9 dc9 pm9 an9 cd9 ct9), sl9⟩) (c9 : PySem.W.codeIn K cd9 "_law_taken" = true) (k9 : PySem.W.keepIn K (.ref f9) = true)
    (a10 : PySem.W.nsIn K mainGlobals "_law_pick" = some (some (.ref f10))) (l10 : K.lookup f10 = some ⟨oc10, od10, .func (PySem.W.fnOf "_law_pick" "_law_pick" (defArgs sPick) (defBody sPick) (defScope sPick) .none kV10 dc10 pm10 an10 cd10 ct10), sl10⟩) (c10 : PySem.W.codeIn K cd10 "_law_pick" = true) (k10 : PySem.W.keepIn K (.ref f10) = true)
    (a11 : PySem.W.nsIn K mainGlobals "_law_alike" = some (some (.ref f11))) (l11 : K.lookup f11 = some ⟨oc11, od11, .func (PySem.W.fnOf "_law_alike" "_law_alike" (defArgs sAlike) (defBody sAlike) (defScope sAlike) .none kV11 dc11 pm11 an11 cd11 ct11), sl11⟩) (c11 : PySem.W.codeIn K cd11 "_law_alike" = true) (k11 : PySem.W.keepIn K (.ref f11) = true)
    (a12 : PySem.W.nsIn K mainGlobals "_law_sizes" = some (some (.ref f12))) (l12 : K.lookup f12 = some ⟨oc12, od12, .func (PySem.W.fnOf "_law_sizes" "_law_sizes" (defArgs sSizes) (defBody sSizes) (defScope sSizes) .none kV12 dc12 pm12 an12 cd12 ct12), sl12⟩) (c12 : PySem.W.codeIn K cd12 "_law_sizes" = true) (k12 : PySem.W.keepIn K (.ref f12) = true)
    (a13 : PySem.W.nsIn K mainGlobals "law" = some (some (.ref f13))) (l13 : K.lookup f13 = some ⟨oc13, od13, .func (PySem.W.fnOf "law" "law" (defArgs sLaw) (defBody sLaw) (defScope sLaw) .none kV13 dc13 pm13 an13 cd13 ct13), sl13⟩) (c13 : PySem.W.codeIn K cd13 "law" = true) (k13 : PySem.W.keepIn K (.ref f13) = true)
    (z1 : PySem.W.nsIn K mainGlobals "isinstance" = some none)
    (z2 : PySem.W.nsIn K mainGlobals "int" = some none)
    (z3 : PySem.W.nsIn K mainGlobals "bool" = some none)
    (z4 : PySem.W.nsIn K mainGlobals "str" = some none)
    (z5 : PySem.W.nsIn K mainGlobals "tuple" = some none)
    (z6 : PySem.W.nsIn K mainGlobals "list" = some none)
    (z7 : PySem.W.nsIn K mainGlobals "set" = some none)
    (z8 : PySem.W.nsIn K mainGlobals "len" = some none)
    (z9 : PySem.W.nsIn K mainGlobals "all" = some none)
    (z10 : PySem.W.nsIn K mainGlobals "sum" = some none)
    (z11 : PySem.W.nsIn K mainGlobals "min" = some none)
    (z12 : PySem.W.nsIn K mainGlobals "sorted" = some none)
    (z13 : PySem.W.nsIn K mainGlobals "range" = some none)
    (z14 : PySem.W.nsIn K mainGlobals "enumerate" = some none)
    (aL : PySem.W.nsIn K mainGlobals "LETTERS" = some (some (.str "abcde" tl))) (aM : PySem.W.nsIn K mainGlobals "MOST_LETTERS" = some (some (.int 9 tm))) (aC : PySem.W.nsIn K mainGlobals "BadNumber" = some (some (.ref C)))
    (xC : PySem.W.excIn K C [.type "ValueError", .type "Exception", .type "BaseException", .type "object"] "ValueError.__new__" = true) (kC : PySem.W.keepIn K (.ref C) = true) (bC : PySem.W.subIn K (.ref C) (.type "BaseException") = some true)
    (tC : PySem.W.typeIn K (.ref C) = some (.type "type")) (iC : PySem.W.isClsIn K C = true) (sC : PySem.W.subIn K (.ref C) (.ref C) = some true) :
    ∃ fd : FuncData, (∀ (s : Shared) (v : Value), BindsTo s fd ⟨[v], []⟩ [("_law_script", v)]) ∧ ∀ base : Heap, K.In base → base.Ns mainGlobals mg → FnOk l.prog w K mg base CX0 13 fa fd ["_law_script"] (spLaw K) := by
  have e := hfa.symm.trans (PySem.W.mg_of X G a13)
  cases e
  have T : Txt K mg C := ⟨PySem.W.mg_none_of X G z1, PySem.W.mg_none_of X G z2, PySem.W.mg_none_of X G z3, PySem.W.mg_none_of X G z4, PySem.W.mg_none_of X G z5, PySem.W.mg_none_of X G z6, PySem.W.mg_none_of X G z7, PySem.W.mg_none_of X G z8, PySem.W.mg_none_of X G z9, PySem.W.mg_none_of X G z10, PySem.W.mg_none_of X G z11, PySem.W.mg_none_of X G z12, PySem.W.mg_none_of X G z13, PySem.W.mg_none_of X G z14, ⟨tl, PySem.W.mg_of X G aL⟩, ⟨tm, PySem.W.mg_of X G aM⟩, PySem.W.mg_of X G aC, xC, kC.symm, bC, tC, exm_own bC iC tC sC⟩
  have F1 := fun_mk (st := sIsInt) l1 c1 k1
  have F2 := fun_mk (st := sIsFrom) l2 c2 k2
  have F3 := fun_mk (st := sNeed) l3 c3 k3
  have F4 := fun_mk (st := sOrders) l4 c4 k4
  have F5 := fun_mk (st := sAll) l5 c5 k5
  have F6 := fun_mk (st := sShort) l6 c6 k6
  have F7 := fun_mk (st := sLong) l7 c7 k7
  have F8 := fun_mk (st := sLens) l8 c8 k8
  have F9 := fun_mk (st := sTaken) l9 c9 k9
  have F10 := fun_mk (st := sPick) l10 c10 k10
  have F11 := fun_mk (st := sAlike) l11 c11 k11
  have F12 := fun_mk (st := sSizes) l12 c12 k12
  have F13 := fun_mk (st := sLaw) l13 c13 k13
  have b1 := F1.binds (ps := ["value"]) fun _ _ _ _ _ _ us hl => match us, hl with | [_], _ => rfl
  have b2 := F2.binds (ps := ["value", "least", "most"]) fun _ _ _ _ _ _ us hl => match us, hl with | [_, _, _], _ => rfl
  have b3 := F3.binds (ps := ["value"]) fun _ _ _ _ _ _ us hl => match us, hl with | [_], _ => rfl
  have b4 := F4.binds (ps := ["left", "plan", "now", "total", "found"]) fun _ _ _ _ _ _ us hl => match us, hl with | [_, _, _, _, _], _ => rfl
  have b5 := F5.binds (ps := ["told"]) fun _ _ _ _ _ _ us hl => match us, hl with | [_], _ => rfl
  have b6 := F6.binds (ps := ["told"]) fun _ _ _ _ _ _ us hl => match us, hl with | [_], _ => rfl
  have b7 := F7.binds (ps := ["told"]) fun _ _ _ _ _ _ us hl => match us, hl with | [_], _ => rfl
  have b8 := F8.binds (ps := ["told"]) fun _ _ _ _ _ _ us hl => match us, hl with | [_], _ => rfl
  have b9 := F9.binds (ps := ["_law_row", "_law_many"]) fun _ _ _ _ _ _ us hl => match us, hl with | [_, _], _ => rfl
  have b10 := F10.binds (ps := ["_law_row", "_law_things"]) fun _ _ _ _ _ _ us hl => match us, hl with | [_, _], _ => rfl
  have b11 := F11.binds (ps := ["_law_found", "_law_due"]) fun _ _ _ _ _ _ us hl => match us, hl with | [_, _], _ => rfl
  have b12 := F12.binds (ps := ["_law_plan"]) fun _ _ _ _ _ _ us hl => match us, hl with | [_], _ => rfl
  have m1 := PySem.W.mg_of X G a1
  have m2 := PySem.W.mg_of X G a2
  have m3 := PySem.W.mg_of X G a3
  have m4 := PySem.W.mg_of X G a4
  have m5 := PySem.W.mg_of X G a5
  have m6 := PySem.W.mg_of X G a6
  have m7 := PySem.W.mg_of X G a7
  have m8 := PySem.W.mg_of X G a8
  have m9 := PySem.W.mg_of X G a9
  have m10 := PySem.W.mg_of X G a10
  have m11 := PySem.W.mg_of X G a11
  have m12 := PySem.W.mg_of X G a12
  refine ⟨PySem.W.fnOf "law" "law" (defArgs sLaw) (defBody sLaw) (defScope sLaw) .none kV13 dc13 pm13 an13 cd13 ct13, fun s v => .of_eq rfl, fun base _ _ => ?_⟩
  have gF : FnOk l.prog w K mg base CX0 2 f2 _ ["value", "least", "most"] spIsFrom := ok_isFrom F2 F1 b1 m1 T
  have gN : FnOk l.prog w K mg base (L2.CX l.prog w) 3 f3 _ ["value"] (spNeed K C) := ok_need F3 F2 b2 m2 gF T
  have gA : FnOk l.prog w K mg base CX0 11 f5 _ ["told"] (spAll K) := ok_all F5 F4 b4 m4 T
  have U : Under l.prog w K mg base C f3 f5 _ _ := ⟨gN, b3, m3, k3, gA, b5, m5, k5⟩
  exact ok_law F13 T ⟨⟨_, ok_taken F9 T, b9⟩, m9, k9⟩ ⟨⟨_, ok_pick F10 F9 b9 m9 T, b10⟩, m10, k10⟩ ⟨⟨_, alike_all F11 b11 m11 T 3, b11⟩, m11, k11⟩ ⟨⟨_, ok_sizes F12 T, b12⟩, m12, k12⟩
    ⟨⟨_, ok_short F6 U T, b6⟩, m6, k6⟩ ⟨⟨_, ok_long F7 U T, b7⟩, m7, k7⟩ ⟨⟨_, ok_lens F8 U T, b8⟩, m8, k8⟩
theorem walk {l : PySem.W.OpenLaw} {q : Program} {loose : List Str} {XP : (Str → Option Value) → Heap → Prop} {YP : World → Heap → Prop} {d : DefRec} {K : Params → PySem.W.Frag} (hn : l.most = some 63) (hdf : d.params.defaults = [])
    (hY : ∀ (w : World) (h : Heap), YP w h → (K w.params).In h)
    (F : ∀ (w : World) (mg : Str → Option Value) (fa : Addr) (h : Heap), (K w.params).In h → h.Ns mainGlobals mg → mg d.name = some (.ref fa) →
      ∃ fd : FuncData, (∀ (s : Shared) (u : Value), BindsTo s fd ⟨[u], []⟩ [("_law_script", u)]) ∧ ∀ base : Heap, (K w.params).In base → base.Ns mainGlobals mg → FnOk l.prog w (K w.params) mg base CX0 13 fa fd ["_law_script"] (spLaw (K w.params))) :
    PySem.W.WalkO q loose XP YP l.row.toRowW d [] (fun f vs => PySem.call f vs) :=
  L2.walk_of (n := 63) (k := 13) (x := "_law_script") (CX := fun _ => CX0) (sp := fun w => spLaw (K w.params)) hn (by decide) hdf ⟨rfl, by decide, by decide⟩ hY F (fun _ _ a ns hl _ hS => ⟨a, ns, rfl, hS, hl, fun _ => rfl⟩) fun _ _ _ _ _ z => z
end PalD
open PySem PySem.W PyProof.Rows
set_option maxRecDepth 100000 in
set_option maxHeartbeats 0 in
theorem PySem.Challenge.cw_palbuilds_k80_whole_orders_of_letters_holds : PySem.Challenge.rw_palbuilds_k80_whole_orders_of_letters.Holds := by
  w_on; o_law; k_head; (case hw => w_witness2)
  k_fill
  refine PalD.walk (l := PySem.Challenge.rw_palbuilds_k80_whole_orders_of_letters) rfl rfl (fun w h Y => PySem.W.kIn_of Y) ?F
  case F =>
    intro w mg fa h KX G hmg
    refine' PalD.all_mk KX G hmg ?a1 ?l1 ?c1 ?k1 ?a2 ?l2 ?c2 ?k2 ?a3 ?l3 ?c3 ?k3 ?a4 ?l4 ?c4 ?k4 ?a5 ?l5 ?c5 ?k5 ?a6 ?l6 ?c6 ?k6 ?a7 ?l7 ?c7 ?k7 ?a8 ?l8 ?c8 ?k8 ?a9 ?l9 ?c9 ?k9 ?a10 ?l10 ?c10 ?k10 ?a11 ?l11 ?c11 ?k11 ?a12 ?l12 ?c12 ?k12 ?a13 ?l13 ?c13 ?k13 ?z1 ?z2 ?z3 ?z4 ?z5 ?z6 ?z7 ?z8 ?z9 ?z10 ?z11 ?z12 ?z13 ?z14 ?aL ?aM ?aC ?xC ?kC ?bC ?tC ?iC ?sC
    (case a1 => k_is)
    (case l1 => k_is)
    (case c1 => k_is)
    (case k1 => k_is)
    (case a2 => k_is)
    (case l2 => k_is)
    (case c2 => k_is)
    (case k2 => k_is)
    (case a3 => k_is)
    (case l3 => k_is)
    (case c3 => k_is)
    (case k3 => k_is)
    (case a4 => k_is)
    (case l4 => k_is)
    (case c4 => k_is)
    (case k4 => k_is)
    (case a5 => k_is)
    (case l5 => k_is)
    (case c5 => k_is)
    (case k5 => k_is)
    (case a6 => k_is)
    (case l6 => k_is)
    (case c6 => k_is)
    (case k6 => k_is)
    (case a7 => k_is)
    (case l7 => k_is)
    (case c7 => k_is)
    (case k7 => k_is)
    (case a8 => k_is)
    (case l8 => k_is)
    (case c8 => k_is)
    (case k8 => k_is)
    (case a9 => k_is)
    (case l9 => k_is)
    (case c9 => k_is)
    (case k9 => k_is)
    (case a10 => k_is)
    (case l10 => k_is)
    (case c10 => k_is)
    (case k10 => k_is)
    (case a11 => k_is)
    (case l11 => k_is)
    (case c11 => k_is)
    (case k11 => k_is)
    (case a12 => k_is)
    (case l12 => k_is)
    (case c12 => k_is)
    (case k12 => k_is)
    (case a13 => k_is)
    (case l13 => k_is)
    (case c13 => k_is)
    (case k13 => k_is)
    (case z1 => k_is)
    (case z2 => k_is)
    (case z3 => k_is)
    (case z4 => k_is)
    (case z5 => k_is)
    (case z6 => k_is)
    (case z7 => k_is)
    (case z8 => k_is)
    (case z9 => k_is)
    (case z10 => k_is)
    (case z11 => k_is)
    (case z12 => k_is)
    (case z13 => k_is)
    (case z14 => k_is)
    (case aL => k_is)
    (case aM => k_is)
    (case aC => k_is)
    (case xC => k_exc)
    (case kC => k_is)
    (case bC => k_is)
    (case tC => k_is)
    (case iC => k_is)
    (case sC => first | rfl | k_is)
#print axioms PySem.Challenge.cw_palbuilds_k80_whole_orders_of_letters_holds
