import PyProof.Rows.All
import Wide.All
import OpenK.AllK
import Wide.FinOn
import HandS.ForMost
import HandS.Deep
import HandS.Walk
import KE.KDictDisplayH
import KE.KDictWalk
import KE.SortData
import KE.GoesMore
import KE.GoesEnum
import PySem.Challenge.RW_lilt_k82_whole_read_twice
import HandS.IsInst
import HandS.Style
section
set_option autoImplicit false
/-! The mathematics of law_k82: capped counts of ways, and the search by layers. Plain Lean, core alone. -/
namespace Rt

/-! ### sums -/
/-- f 0 + .. + f (n - 1) -/
def sm (f : Nat → Nat) : Nat → Nat
  | 0 => 0
  | n + 1 => sm f n + f n
theorem sm_congr {f g : Nat → Nat} : ∀ {n : Nat}, (∀ k, k < n → f k = g k) → sm f n = sm g n
  | 0, _ => rfl
  | n + 1, h => by
    show sm f n + f n = sm g n + g n
    rw [sm_congr fun k hk => h k (Nat.lt_succ_of_lt hk), h n (Nat.lt_succ_self n)]
theorem sm_zero {f : Nat → Nat} : ∀ {n : Nat}, (∀ k, k < n → f k = 0) → sm f n = 0
  | 0, _ => rfl
  | n + 1, h => by
    show sm f n + f n = 0
    rw [sm_zero fun k hk => h k (Nat.lt_succ_of_lt hk), h n (Nat.lt_succ_self n)]
theorem sm_le {f : Nat → Nat} {k : Nat} : ∀ {n : Nat}, k < n → f k ≤ sm f n
  | 0, h => absurd h (Nat.not_lt_zero _)
  | n + 1, h => by
    show f k ≤ sm f n + f n
    rcases Nat.lt_or_ge k n with q | q
    · exact Nat.le_trans (sm_le q) (Nat.le_add_right _ _)
    · have e : k = n := by omega
      subst e
      exact Nat.le_add_left _ _
/-- capped sums -/
theorem sm_cap {f g : Nat → Nat} : ∀ {n : Nat}, (∀ k, k < n → min 2 (f k) = min 2 (g k)) → min 2 (sm f n) = min 2 (sm g n)
  | 0, _ => rfl
  | n + 1, h => by
    show min 2 (sm f n + f n) = min 2 (sm g n + g n)
    have a := sm_cap (n := n) fun k hk => h k (Nat.lt_succ_of_lt hk)
    have b := h n (Nat.lt_succ_self n)
    omega
theorem sm_add (f g : Nat → Nat) : ∀ n : Nat, sm f n + sm g n = sm (fun k => f k + g k) n
  | 0 => rfl
  | n + 1 => by
    have e := sm_add f g n
    show sm f n + f n + (sm g n + g n) = sm (fun k => f k + g k) n + (f n + g n)
    omega
/-- one place alone -/
theorem sm_one {n j : Nat} {v : Nat} (h : j < n) : sm (fun k => if k = j then v else 0) n = v := by
  induction n with
  | zero => exact absurd h (Nat.not_lt_zero _)
  | succ n ih =>
    show sm _ n + (if n = j then v else 0) = v
    by_cases e : n = j
    · subst e
      rw [if_pos rfl, sm_zero fun k hk => if_neg (Nat.ne_of_lt hk), Nat.zero_add]
    · rw [if_neg e, ih (by omega)]
      rfl

section
variable {α : Type}
/-- the sum of f over a list -/
def ls (f : α → Nat) : List α → Nat
  | [] => 0
  | x :: xs => f x + ls f xs
theorem ls_append (f : α → Nat) : ∀ xs ys : List α, ls f (xs ++ ys) = ls f xs + ls f ys
  | [], ys => by simp [ls]
  | x :: xs, ys => by
    show f x + ls f (xs ++ ys) = f x + ls f xs + ls f ys
    rw [ls_append f xs ys, Nat.add_assoc]
theorem ls_congr {f g : α → Nat} : ∀ {xs : List α}, (∀ x, x ∈ xs → f x = g x) → ls f xs = ls g xs
  | [], _ => rfl
  | x :: xs, h => by
    show f x + ls f xs = g x + ls g xs
    rw [h x (List.mem_cons_self ..), ls_congr fun y hy => h y (List.mem_cons_of_mem _ hy)]
theorem ls_zero {f : α → Nat} {xs : List α} (h : ∀ x, x ∈ xs → f x = 0) : ls f xs = 0 := by
  induction xs with
  | nil => rfl
  | cons x xs ih =>
    show f x + ls f xs = 0
    rw [h x (List.mem_cons_self ..), ih fun y hy => h y (List.mem_cons_of_mem _ hy)]
theorem ls_perm {f : α → Nat} {xs ys : List α} (p : xs.Perm ys) : ls f xs = ls f ys := by
  induction p with
  | nil => rfl
  | cons x _ ih => show f x + _ = f x + _; rw [ih]
  | swap x y l => show f y + (f x + ls f l) = f x + (f y + ls f l); omega
  | trans _ _ a b => exact a.trans b
/-- the sums in the other order -/
theorem ls_sm (f : α → Nat → Nat) (n : Nat) : ∀ xs : List α, ls (fun x => sm (f x) n) xs = sm (fun k => ls (fun x => f x k) xs) n
  | [] => (sm_zero fun _ _ => rfl).symm
  | x :: xs => by
    show sm (f x) n + ls (fun y => sm (f y) n) xs = sm (fun k => f x k + ls (fun y => f y k) xs) n
    rw [ls_sm f n xs]
    exact sm_add _ _ n
theorem ls_mul (c : Nat) (f : α → Nat) : ∀ xs : List α, ls (fun x => c * f x) xs = c * ls f xs
  | [] => rfl
  | x :: xs => by
    show c * f x + ls _ xs = c * (f x + ls f xs)
    rw [ls_mul c f xs, Nat.mul_add]
end

/-! ### tables: pairs in the order of insertion -/
section
variable {α : Type} [DecidableEq α]
def gt (f : List (α × Nat)) (b : α) : Nat := ((f.find? fun x => decide (x.1 = b)).map (·.2)).getD 0
def pt (f : List (α × Nat)) (b : α) (v : Nat) : List (α × Nat) :=
  if f.any (fun x => decide (x.1 = b)) = true then f.map fun x => if x.1 = b then (x.1, v) else x else f ++ [(b, v)]
theorem gt_nil (b : α) : gt ([] : List (α × Nat)) b = 0 := rfl
theorem gt_pos {x : α × Nat} {f : List (α × Nat)} {b : α} (h : x.1 = b) : gt (x :: f) b = x.2 := by simp [gt, h]
theorem gt_neg {x : α × Nat} {f : List (α × Nat)} {b : α} (h : ¬ x.1 = b) : gt (x :: f) b = gt f b := by simp [gt, h]
theorem gt_map (b c : α) (v : Nat) : ∀ f : List (α × Nat), gt (f.map fun x => if x.1 = b then (x.1, v) else x) c = if c = b ∧ f.any (fun x => decide (x.1 = b)) = true then v else gt f c
  | [] => by simp [gt]
  | x :: f => by
    have ih := gt_map b c v f
    rw [List.map_cons]
    by_cases e : x.1 = b
    · rw [if_pos e]
      by_cases q : c = b
      · rw [gt_pos (by rw [q]; exact e), if_pos ⟨q, by simp [e]⟩]
      · have n : ¬ x.1 = c := fun z => q (z.symm.trans e)
        rw [gt_neg (x := (x.1, v)) n, ih, gt_neg n, if_neg fun z => q z.1, if_neg fun z => q z.1]
    · rw [if_neg e]
      by_cases q : x.1 = c
      · have n : ¬ c = b := fun z => e (q.trans z)
        rw [gt_pos q, gt_pos q, if_neg fun z => n z.1]
      · rw [gt_neg q, gt_neg q, ih, List.any_cons, decide_eq_false e, Bool.false_or]
theorem gt_snoc (b c : α) (v : Nat) : ∀ f : List (α × Nat), f.any (fun x => decide (x.1 = b)) = false → gt (f ++ [(b, v)]) c = if c = b then v else gt f c
  | [], _ => by
    by_cases q : c = b
    · rw [if_pos q]; exact gt_pos q.symm
    · rw [if_neg q]; exact gt_neg fun z => q z.symm
  | x :: f, h => by
    simp only [List.any_cons, Bool.or_eq_false_iff, decide_eq_false_iff_not] at h
    have ih := gt_snoc b c v f h.2
    rw [List.cons_append]
    by_cases q : x.1 = c
    · rw [gt_pos q, gt_pos q, if_neg fun z => h.1 (q.trans z)]
    · rw [gt_neg q, gt_neg q, ih]
theorem gt_pt (f : List (α × Nat)) (b c : α) (v : Nat) : gt (pt f b v) c = if c = b then v else gt f c := by
  unfold pt
  by_cases h : f.any (fun x => decide (x.1 = b)) = true
  · rw [if_pos h, gt_map]
    simp [h]
  · rw [if_neg h, gt_snoc _ _ _ _ (Bool.eq_false_iff.mpr h)]
theorem keys_pt (f : List (α × Nat)) (b : α) (v : Nat) : (pt f b v).map (·.1) = if f.any (fun x => decide (x.1 = b)) = true then f.map (·.1) else f.map (·.1) ++ [b] := by
  unfold pt
  by_cases h : f.any (fun x => decide (x.1 = b)) = true
  · rw [if_pos h, if_pos h, List.map_map]
    refine List.map_congr_left fun x _ => ?_
    by_cases e : x.1 = b <;> simp [e]
  · rw [if_neg h, if_neg h]
    simp
theorem nd_pt {f : List (α × Nat)} (h : (f.map (·.1)).Nodup) (b : α) (v : Nat) : ((pt f b v).map (·.1)).Nodup := by
  rw [keys_pt]
  by_cases q : f.any (fun x => decide (x.1 = b)) = true
  · rw [if_pos q]; exact h
  · rw [if_neg q, List.nodup_append]
    refine ⟨h, by simp, fun x hx y hy e => ?_⟩
    simp only [List.mem_singleton] at hy
    subst hy
    subst e
    obtain ⟨z, hz, rfl⟩ := List.mem_map.mp hx
    exact q (List.any_eq_true.mpr ⟨z, hz, by simp⟩)
theorem key_pt {f : List (α × Nat)} {b : α} {v : Nat} {x : α × Nat} (h : x ∈ pt f b v) : x.1 = b ∨ ∃ y, y ∈ f ∧ y.1 = x.1 := by
  have q : x.1 ∈ (pt f b v).map (·.1) := List.mem_map.mpr ⟨x, h, rfl⟩
  rw [keys_pt] at q
  split at q
  · obtain ⟨y, hy, e⟩ := List.mem_map.mp q
    exact .inr ⟨y, hy, e⟩
  · rcases List.mem_append.mp q with q | q
    · obtain ⟨y, hy, e⟩ := List.mem_map.mp q
      exact .inr ⟨y, hy, e⟩
    · exact .inl (by simpa using q)
theorem len_pt (f : List (α × Nat)) (b : α) (v : Nat) : (pt f b v).length ≤ f.length + 1 := by
  unfold pt
  split
  · simp
  · simp
/-- the sum of what stands at a key -/
def at' (c : List (α × Nat)) (b : α) : Nat := ls (fun x => if x.1 = b then x.2 else 0) c
theorem at_none {c : List (α × Nat)} {b : α} (h : ∀ x, x ∈ c → x.1 ≠ b) : at' c b = 0 := ls_zero fun x hx => if_neg (h x hx)
theorem at_gt {b : α} : ∀ {c : List (α × Nat)}, (c.map (·.1)).Nodup → at' c b = gt c b
  | [], _ => rfl
  | x :: c, h => by
    rw [List.map_cons, List.nodup_cons] at h
    show (if x.1 = b then x.2 else 0) + at' c b = _
    by_cases e : x.1 = b
    · rw [if_pos e, gt_pos e, at_none fun y hy z => h.1 (List.mem_map.mpr ⟨y, hy, z.trans e.symm⟩), Nat.add_zero]
    · rw [if_neg e, gt_neg e, at_gt h.2, Nat.zero_add]
theorem at_mem {b : α} {v : Nat} : ∀ {c : List (α × Nat)}, (c.map (·.1)).Nodup → (b, v) ∈ c → at' c b = v
  | [], _, h => nomatch h
  | x :: c, hn, h => by
    rw [List.map_cons, List.nodup_cons] at hn
    show (if x.1 = b then x.2 else 0) + at' c b = _
    rcases List.mem_cons.mp h with e | h
    · subst e
      rw [if_pos rfl, at_none fun y hy z => hn.1 (List.mem_map.mpr ⟨y, hy, z⟩), Nat.add_zero]
    · rw [if_neg fun e => hn.1 (List.mem_map.mpr ⟨_, h, e.symm⟩), at_mem hn.2 h, Nat.zero_add]
theorem mem_at {b : α} {c : List (α × Nat)} (hn : (c.map (·.1)).Nodup) (h : 0 < at' c b) : (b, at' c b) ∈ c := by
  induction c with
  | nil => exact absurd h (Nat.lt_irrefl _)
  | cons x c ih =>
    rw [List.map_cons, List.nodup_cons] at hn
    have e : at' (x :: c) b = (if x.1 = b then x.2 else 0) + at' c b := rfl
    by_cases q : x.1 = b
    · rw [if_pos q, at_none fun y hy z => hn.1 (List.mem_map.mpr ⟨y, hy, z.trans q.symm⟩), Nat.add_zero] at e
      rw [e]
      exact List.mem_cons.mpr (.inl (by rw [← q]))
    · rw [if_neg q, Nat.zero_add] at e
      rw [e] at h ⊢
      exact List.mem_cons_of_mem _ (ih hn.2 h)
theorem at_perm {c d : List (α × Nat)} (p : c.Perm d) (b : α) : at' c b = at' d b := ls_perm p
end
end Rt

namespace Rt
/-! ### the metre, its states, its moves -/
abbrev Pat := List Nat
abbrev Slot := List Pat × Bool
abbrev Met := List Slot
abbrev St3 := Nat × Nat × Nat
abbrev Step := Nat × Bool
abbrev Row := List Step
abbrev Cnt := List (St3 × Nat)

def slotAt (m : Met) (i : Nat) : Slot := m.getD i ([], false)
def patAt (ps : List Pat) (k : Nat) : Pat := ps.getD k []
def fitC (mk : Nat) (p : Pat) (a : Nat) : Bool := p[a]? == some mk || p[a]? == some 120
def behindS (m : Met) (s k a : Nat) (e : Bool) : List (Nat × St3) :=
  if a < (patAt (slotAt m s).1 k).length then [(k, (s, k, a))] else if ((slotAt m s).2 && !e) = true then [] else [(k, (s + 1, 0, 0))]
def firstMoves (m : Met) (s mk : Nat) (e : Bool) (n : Nat) : List (Nat × St3) :=
  (List.range n).flatMap fun k => if fitC mk (patAt (slotAt m s).1 k) 0 = true then behindS m s k 1 e else []
def movesOf (m : Met) (st : St3) (mk : Nat) (e : Bool) : List (Nat × St3) :=
  if st.1 = m.length then []
  else if 0 < st.2.2 then (if fitC mk (patAt (slotAt m st.1).1 st.2.1) st.2.2 = true then behindS m st.1 st.2.1 (st.2.2 + 1) e else [])
  else firstMoves m st.1 mk e (slotAt m st.1).1.length
theorem firstMoves_succ (m : Met) (s mk : Nat) (e : Bool) (n : Nat) :
    firstMoves m s mk e (n + 1) = firstMoves m s mk e n ++ (if fitC mk (patAt (slotAt m s).1 n) 0 = true then behindS m s n 1 e else []) := by
  unfold firstMoves
  rw [List.range_succ, List.flatMap_append]
  simp

/-- a metre as the law draws it -/
structure MOk (m : Met) : Prop where
  some : 1 ≤ m.length
  most : m.length ≤ 3
  pats : ∀ s, s ∈ m → 1 ≤ s.1.length ∧ s.1.length ≤ 3
  lens : ∀ s, s ∈ m → ∀ p, p ∈ s.1 → 1 ≤ p.length ∧ p.length ≤ 3
  codes : ∀ s, s ∈ m → ∀ p, p ∈ s.1 → ∀ c, c ∈ p → c = 117 ∨ c = 45 ∨ c = 120
theorem slotAt_mem {m : Met} {i : Nat} (h : i < m.length) : slotAt m i ∈ m := by
  have e : slotAt m i = m[i] := by simp [slotAt, h]
  rw [e]
  exact List.getElem_mem h
theorem patAt_mem {ps : List Pat} {k : Nat} (h : k < ps.length) : patAt ps k ∈ ps := by
  have e : patAt ps k = ps[k] := by simp [patAt, h]
  rw [e]
  exact List.getElem_mem h
theorem slotAt_out {m : Met} {i : Nat} (h : m.length ≤ i) : slotAt m i = ([], false) := by
  simp [slotAt, List.getElem?_eq_none h]
theorem patAt_out {ps : List Pat} {k : Nat} (h : ps.length ≤ k) : patAt ps k = [] := by
  simp [patAt, List.getElem?_eq_none h]
def psAt (m : Met) (i : Nat) : List Pat := (slotAt m i).1
theorem MOk.len {m : Met} (M : MOk m) {i k : Nat} (hi : i < m.length) (hk : k < (slotAt m i).1.length) : 1 ≤ (patAt (slotAt m i).1 k).length ∧ (patAt (slotAt m i).1 k).length ≤ 3 :=
  M.lens _ (slotAt_mem hi) _ (patAt_mem hk)

/-- a state that the machine may stand in -/
def Val (m : Met) (st : St3) : Prop :=
  st.1 ≤ m.length ∧ (st.2.2 = 0 → st.2.1 = 0) ∧ (0 < st.2.2 → st.1 < m.length ∧ st.2.1 < (slotAt m st.1).1.length ∧ st.2.2 < (patAt (slotAt m st.1).1 st.2.1).length)
theorem val_start (m : Met) : Val m (0, 0, 0) := ⟨Nat.zero_le _, fun _ => rfl, fun h => absurd h (Nat.lt_irrefl _)⟩
def rank (st : St3) : Nat := 3 * st.1 + st.2.2
theorem mem_behind {m : Met} {s k a : Nat} {e : Bool} {x : Nat × St3} (h : x ∈ behindS m s k a e) :
    x.1 = k ∧ ((a < (patAt (slotAt m s).1 k).length ∧ x.2 = (s, k, a)) ∨ (¬ a < (patAt (slotAt m s).1 k).length ∧ x.2 = (s + 1, 0, 0))) := by
  unfold behindS at h
  split at h
  · rename_i q
    have e : x = _ := List.mem_singleton.mp h
    subst e
    exact ⟨rfl, .inl ⟨q, rfl⟩⟩
  · rename_i q
    split at h
    · exact nomatch h
    · have e : x = _ := List.mem_singleton.mp h
      subst e
      exact ⟨rfl, .inr ⟨q, rfl⟩⟩
/-- where a move leads: the state is one again, and its rank is greater -/
theorem move_ok {m : Met} (M : MOk m) {st : St3} (v : Val m st) {mk : Nat} {e : Bool} {x : Nat × St3} (h : x ∈ movesOf m st mk e) : Val m x.2 ∧ rank st + 1 ≤ rank x.2 := by
  obtain ⟨s, c, a⟩ := st
  obtain ⟨v1, v2, v3⟩ := v
  have key : ∀ k a', s < m.length → k < (slotAt m s).1.length → a ≤ a' → 0 < a' + 1 → a' + 1 ≤ (patAt (slotAt m s).1 k).length → x ∈ behindS m s k (a' + 1) e → Val m x.2 ∧ rank (s, c, a) + 1 ≤ rank x.2 := by
    intro k a' hs hk ha _ hl hx
    obtain ⟨_, q⟩ := mem_behind hx
    have lm := (M.len hs hk).2
    rcases q with ⟨q, e⟩ | ⟨q, e⟩
    · rw [e]
      exact ⟨⟨Nat.le_of_lt hs, fun z => absurd z (Nat.succ_ne_zero a'), fun _ => ⟨hs, hk, q⟩⟩, by show 3 * s + a + 1 ≤ 3 * s + (a' + 1); omega⟩
    · rw [e]
      exact ⟨⟨hs, fun _ => rfl, fun z => absurd z (Nat.lt_irrefl _)⟩, by show 3 * s + a + 1 ≤ 3 * (s + 1) + 0; omega⟩
  unfold movesOf at h
  by_cases h1 : s = m.length
  · rw [if_pos h1] at h; exact nomatch h
  · rw [if_neg h1] at h
    by_cases h2 : 0 < a
    · rw [if_pos h2] at h
      obtain ⟨w1, w2, w3⟩ := v3 h2
      split at h
      · exact key c a w1 w2 (Nat.le_refl _) (Nat.succ_pos _) w3 h
      · exact nomatch h
    · rw [if_neg h2] at h
      have hs : s < m.length := by have : s ≤ m.length := v1; omega
      obtain ⟨k, hk, hx⟩ := List.mem_flatMap.mp h
      have hk' : k < (slotAt m s).1.length := List.mem_range.mp hk
      split at hx
      · exact key k 0 hs hk' (by omega) (Nat.succ_pos _) (M.len hs hk').1 hx
      · exact nomatch hx

/-! ### counting on -/
def nMv (st : St3) (mvs : List (Nat × St3)) : Nat := ls (fun x => if x.2 = st then 1 else 0) mvs
def addMoves (f : Cnt) (n : Nat) (mvs : List (Nat × St3)) : Cnt := mvs.foldl (fun f x => pt f x.2 (min 2 (gt f x.2 + n))) f
def foundOf (m : Met) (c : Cnt) (mk : Nat) (e : Bool) : Cnt := c.foldl (fun f x => addMoves f x.2 (movesOf m x.1 mk e)) []
def tot (m : Met) (c : Cnt) (mk : Nat) (e : Bool) (st : St3) : Nat := ls (fun x => x.2 * nMv st (movesOf m x.1 mk e)) c
theorem gt_add {n : Nat} (st : St3) : ∀ (mvs : List (Nat × St3)) (f : Cnt), (∀ b, gt f b ≤ 2) → gt (addMoves f n mvs) st = min 2 (gt f st + n * nMv st mvs)
  | [], f, h => by
    show gt f st = min 2 (gt f st + n * 0)
    have := h st
    omega
  | x :: mvs, f, h => by
    have h' : ∀ b, gt (pt f x.2 (min 2 (gt f x.2 + n))) b ≤ 2 := fun b => by
      rw [gt_pt]
      split
      · omega
      · exact h b
    show gt (addMoves (pt f x.2 (min 2 (gt f x.2 + n))) n mvs) st = min 2 (gt f st + n * ((if x.2 = st then 1 else 0) + nMv st mvs))
    rw [gt_add st mvs _ h', gt_pt, Nat.mul_add]
    by_cases q : x.2 = st
    · subst q
      rw [if_pos rfl, if_pos rfl]
      omega
    · rw [if_neg q, if_neg fun z => q z.symm]
      omega
theorem add_le {n : Nat} (mvs : List (Nat × St3)) (f : Cnt) (h : ∀ b, gt f b ≤ 2) : ∀ b, gt (addMoves f n mvs) b ≤ 2 := fun b => by
  rw [gt_add b mvs f h]
  omega
theorem gt_found_go (m : Met) (mk : Nat) (e : Bool) (st : St3) : ∀ (c f : Cnt), (∀ b, gt f b ≤ 2) → gt (c.foldl (fun f x => addMoves f x.2 (movesOf m x.1 mk e)) f) st = min 2 (gt f st + tot m c mk e st)
  | [], f, h => by
    show gt f st = min 2 (gt f st + 0)
    have := h st
    omega
  | x :: c, f, h => by
    show gt (c.foldl _ (addMoves f x.2 (movesOf m x.1 mk e))) st = min 2 (gt f st + (x.2 * nMv st (movesOf m x.1 mk e) + tot m c mk e st))
    rw [gt_found_go m mk e st c _ (add_le _ _ h), gt_add _ _ _ h]
    omega
theorem gt_found (m : Met) (c : Cnt) (mk : Nat) (e : Bool) (st : St3) : gt (foundOf m c mk e) st = min 2 (tot m c mk e st) := by
  unfold foundOf
  rw [gt_found_go m mk e st c [] (fun _ => Nat.zero_le _), gt_nil, Nat.zero_add]
/-- the keys: no name twice, each a move's end -/
theorem add_keys (P : St3 → Prop) {n : Nat} : ∀ (mvs : List (Nat × St3)) (f : Cnt), (f.map (·.1)).Nodup → (∀ x, x ∈ f → P x.1) → (∀ x, x ∈ mvs → P x.2) → ((addMoves f n mvs).map (·.1)).Nodup ∧ ∀ x, x ∈ addMoves f n mvs → P x.1
  | [], _, h1, h2, _ => ⟨h1, h2⟩
  | x :: mvs, f, h1, h2, h3 => by
    refine add_keys P mvs _ (nd_pt h1 _ _) (fun y hy => ?_) fun y hy => h3 y (List.mem_cons_of_mem _ hy)
    rcases key_pt hy with e | ⟨z, hz, e⟩
    · rw [e]; exact h3 x (List.mem_cons_self ..)
    · rw [← e]; exact h2 z hz
theorem found_keys (P : St3 → Prop) (m : Met) (mk : Nat) (e : Bool) : ∀ (c f : Cnt), (f.map (·.1)).Nodup → (∀ x, x ∈ f → P x.1) → (∀ x, x ∈ c → ∀ y, y ∈ movesOf m x.1 mk e → P y.2) →
    ((c.foldl (fun f x => addMoves f x.2 (movesOf m x.1 mk e)) f).map (·.1)).Nodup ∧ ∀ x, x ∈ c.foldl (fun f x => addMoves f x.2 (movesOf m x.1 mk e)) f → P x.1
  | [], _, h1, h2, _ => ⟨h1, h2⟩
  | x :: c, f, h1, h2, h3 => by
    obtain ⟨a, b⟩ := add_keys P (n := x.2) (movesOf m x.1 mk e) f h1 h2 (h3 x (List.mem_cons_self ..))
    exact found_keys P m mk e c _ a b fun y hy => h3 y (List.mem_cons_of_mem _ hy)

section
variable (le : St3 × Nat → St3 × Nat → Bool)
def countedOn (m : Met) (c : Cnt) (st : Step) : Cnt := (foundOf m c st.1 st.2).mergeSort le
variable {le}
theorem counted_perm (m : Met) (c : Cnt) (st : Step) : (countedOn le m c st).Perm (foundOf m c st.1 st.2) := List.mergeSort_perm _ _
theorem counted_nil (m : Met) (st : Step) : countedOn le m [] st = [] := by
  have p := counted_perm (le := le) m [] st
  exact List.perm_nil.mp p
theorem counted_at (m : Met) (c : Cnt) (st : Step) (b : St3) : at' (countedOn le m c st) b = min 2 (tot m c st.1 st.2 b) := by
  have k := found_keys (fun _ => True) m st.1 st.2 c [] (by simp) (fun _ _ => trivial) (fun _ _ _ _ => trivial)
  rw [at_perm (counted_perm m c st), at_gt (c := foundOf m c st.1 st.2) k.1, gt_found]
theorem counted_nd (m : Met) (c : Cnt) (st : Step) : ((countedOn le m c st).map (·.1)).Nodup := by
  have k := found_keys (fun _ => True) m st.1 st.2 c [] (by simp) (fun _ _ => trivial) (fun _ _ _ _ => trivial)
  exact ((counted_perm m c st).map (·.1)).nodup_iff.mpr k.1
theorem counted_all (P : St3 → Prop) {m : Met} {c : Cnt} {st : Step} (h : ∀ x, x ∈ c → ∀ y, y ∈ movesOf m x.1 st.1 st.2 → P y.2) : ∀ x, x ∈ countedOn le m c st → P x.1 := fun x hx =>
  (found_keys P m st.1 st.2 c [] (by simp) (fun _ q => nomatch q) h).2 x ((counted_perm m c st).mem_iff.mp hx)
end
end Rt

namespace Rt
/-! ### feet: how many lists of patterns stand for the first marks of a row -/
def fitR (R : Row) (p : Pat) (pos t : Nat) : Bool := match R[pos + t]? with
  | some x => fitC x.1 p t
  | none => false
def matN (R : Row) (p : Pat) (pos : Nat) : Nat → Bool
  | 0 => true
  | j + 1 => matN R p pos j && fitR R p pos j
def endsAt (R : Row) (i : Nat) : Bool := match R[i]? with
  | some x => x.2
  | none => false
/-- the pattern stands for the marks of R ahead of the place a -/
def fitsB (R : Row) (p : Pat) (cut : Bool) (a : Nat) : Bool := decide (p.length ≤ a) && matN R p (a - p.length) p.length && (!cut || endsAt R (a - 1))
def F (m : Met) (R : Row) : Nat → Nat → Nat
  | 0, a => if a = 0 then 1 else 0
  | i + 1, a => sm (fun k => if fitsB R (patAt (slotAt m i).1 k) (slotAt m i).2 a = true then F m R i (a - (patAt (slotAt m i).1 k).length) else 0) (slotAt m i).1.length
/-- in how many ways the machine comes to a state over the first a marks of R -/
def PP (m : Met) (R : Row) (a : Nat) (st : St3) : Nat :=
  if st.2.2 = 0 then (if st.2.1 = 0 then F m R st.1 a else 0)
  else if st.1 < m.length ∧ st.2.1 < (slotAt m st.1).1.length ∧ st.2.2 < (patAt (slotAt m st.1).1 st.2.1).length ∧ st.2.2 ≤ a ∧ matN R (patAt (slotAt m st.1).1 st.2.1) (a - st.2.2) st.2.2 = true then F m R st.1 (a - st.2.2) else 0

theorem nMv_append (st : St3) (xs ys : List (Nat × St3)) : nMv st (xs ++ ys) = nMv st xs + nMv st ys := ls_append _ xs ys
theorem nMv_first (m : Met) (s mk : Nat) (e : Bool) (st : St3) : ∀ n : Nat, nMv st (firstMoves m s mk e n) = sm (fun k => if fitC mk (patAt (slotAt m s).1 k) 0 = true then nMv st (behindS m s k 1 e) else 0) n
  | 0 => rfl
  | n + 1 => by
    rw [firstMoves_succ, nMv_append, nMv_first m s mk e st n]
    show _ = sm _ n + (if fitC mk (patAt (slotAt m s).1 n) 0 = true then nMv st (behindS m s n 1 e) else 0)
    split
    · rfl
    · rfl
theorem nMv_behind_in (m : Met) (s k a : Nat) (e : Bool) (i c j : Nat) : nMv (i, c, j + 1) (behindS m s k a e) = if a < (patAt (slotAt m s).1 k).length ∧ s = i ∧ k = c ∧ a = j + 1 then 1 else 0 := by
  unfold behindS
  by_cases h : a < (patAt (slotAt m s).1 k).length
  · rw [if_pos h]
    show (if (s, k, a) = (i, c, j + 1) then 1 else 0) + 0 = _
    by_cases q : s = i ∧ k = c ∧ a = j + 1
    · obtain ⟨rfl, rfl, rfl⟩ := q
      rw [if_pos rfl, if_pos ⟨h, rfl, rfl, rfl⟩]
    · rw [if_neg fun z => q (by injection z with z1 z2; injection z2 with z2 z3; exact ⟨z1, z2, z3⟩), if_neg fun z => q z.2]
  · rw [if_neg h]
    refine Eq.trans ?_ (if_neg fun z => h z.1).symm
    by_cases q : ((slotAt m s).2 && !e) = true
    · rw [if_pos q]
      rfl
    · rw [if_neg q]
      show (if ((s + 1, 0, 0) : St3) = (i, c, j + 1) then 1 else 0) + 0 = 0
      rw [if_neg fun z => by injection z with z1 z2; injection z2 with z2 z3; cases z3]
theorem nMv_behind_out (m : Met) (s k a : Nat) (e : Bool) (i : Nat) (ha : 0 < a) : nMv (i, 0, 0) (behindS m s k a e) = if ¬ a < (patAt (slotAt m s).1 k).length ∧ s + 1 = i ∧ ((slotAt m s).2 && !e) = false then 1 else 0 := by
  unfold behindS
  by_cases h : a < (patAt (slotAt m s).1 k).length
  · rw [if_pos h, if_neg fun z => z.1 h]
    show (if ((s, k, a) : St3) = (i, 0, 0) then 1 else 0) + 0 = 0
    rw [if_neg fun z => by injection z with z1 z2; injection z2 with z2 z3; omega]
  · rw [if_neg h]
    by_cases q : ((slotAt m s).2 && !e) = true
    · rw [if_pos q, if_neg fun z => by rw [q] at z; exact nomatch z.2.2]
      rfl
    · rw [if_neg q]
      show (if ((s + 1, 0, 0) : St3) = (i, 0, 0) then 1 else 0) + 0 = _
      by_cases w : s + 1 = i
      · subst w
        rw [if_pos rfl, if_pos ⟨h, rfl, by simpa using q⟩]
      · rw [if_neg fun z => w (by injection z), if_neg fun z => w z.2.1]
theorem nMv_behind_odd (m : Met) (s k a : Nat) (e : Bool) (i c : Nat) (ha : 0 < a) : nMv (i, c + 1, 0) (behindS m s k a e) = 0 := by
  refine ls_zero fun x hx => if_neg fun z => ?_
  obtain ⟨_, q⟩ := mem_behind hx
  rcases q with ⟨_, q⟩ | ⟨_, q⟩
  · rw [z] at q; injection q with _ q; injection q with _ q; omega
  · rw [z] at q; injection q with _ q; injection q with q _; omega

/-- the moves from a state that stands to one within a pattern -/
theorem nMv_in {m : Met} {st : St3} (v : Val m st) (mk : Nat) (e : Bool) (i c j : Nat) :
    nMv (i, c, j + 1) (movesOf m st mk e) =
      if (i < m.length ∧ c < (slotAt m i).1.length ∧ j + 1 < (patAt (slotAt m i).1 c).length ∧ fitC mk (patAt (slotAt m i).1 c) j = true) ∧ st = (if j = 0 then (i, 0, 0) else (i, c, j)) then 1 else 0 := by
  obtain ⟨s, k, a⟩ := st
  obtain ⟨v1, v2, v3⟩ := v
  show nMv _ (if s = m.length then [] else if 0 < a then (if fitC mk (patAt (slotAt m s).1 k) a = true then behindS m s k (a + 1) e else []) else firstMoves m s mk e (slotAt m s).1.length) = _
  by_cases h1 : s = m.length
  · rw [if_pos h1, if_neg]
    · rfl
    · rintro ⟨⟨q, _⟩, z⟩
      have : s = i := by
        split at z
        · injection z
        · injection z
      omega
  · rw [if_neg h1]
    have hs : s < m.length := by have : s ≤ m.length := v1; omega
    by_cases h2 : 0 < a
    · rw [if_pos h2]
      obtain ⟨_, w2, w3⟩ := v3 h2
      by_cases hf : fitC mk (patAt (slotAt m s).1 k) a = true
      · rw [if_pos hf, nMv_behind_in]
        by_cases q : a + 1 < (patAt (slotAt m s).1 k).length ∧ s = i ∧ k = c ∧ a + 1 = j + 1
        · rw [if_pos q]
          obtain ⟨q1, rfl, rfl, q4⟩ := q
          have q5 : a = j := by omega
          subst q5
          rw [if_pos]
          exact ⟨⟨hs, w2, q1, hf⟩, by rw [if_neg (by omega)]⟩
        · rw [if_neg q, if_neg]
          rintro ⟨⟨_, _, q3, _⟩, z⟩
          by_cases hj : j = 0
          · rw [if_pos hj] at z
            injection z with z1 z2; injection z2 with z2 z3; omega
          · rw [if_neg hj] at z
            injection z with z1 z2; injection z2 with z2 z3
            subst z1 z2 z3
            exact q ⟨q3, rfl, rfl, rfl⟩
      · rw [if_neg hf, if_neg]
        · rfl
        · rintro ⟨⟨_, _, _, q4⟩, z⟩
          by_cases hj : j = 0
          · rw [if_pos hj] at z
            injection z with z1 z2; injection z2 with z2 z3; omega
          · rw [if_neg hj] at z
            injection z with z1 z2; injection z2 with z2 z3
            subst z1 z2 z3
            exact hf q4
    · rw [if_neg h2, nMv_first]
      have ha : a = 0 := by omega
      subst ha
      have hk : k = 0 := v2 rfl
      subst hk
      by_cases q : (i < m.length ∧ c < (slotAt m i).1.length ∧ j + 1 < (patAt (slotAt m i).1 c).length ∧ fitC mk (patAt (slotAt m i).1 c) j = true) ∧ ((s, 0, 0) : St3) = (if j = 0 then (i, 0, 0) else (i, c, j))
      · rw [if_pos q]
        obtain ⟨⟨_, q2, q3, q4⟩, z⟩ := q
        by_cases hj : j = 0
        · subst hj
          rw [if_pos rfl] at z
          injection z with z1 z2
          subst z1
          refine (sm_congr fun k hk => ?_).trans (sm_one q2)
          rw [nMv_behind_in]
          by_cases hkc : k = c
          · subst hkc
            rw [if_pos q4, if_pos rfl, if_pos ⟨q3, rfl, rfl, rfl⟩]
          · rw [if_neg hkc, if_neg (c := _ ∧ _ ∧ _ ∧ _) fun z => hkc z.2.2.1, ite_self]
        · rw [if_neg hj] at z
          injection z with z1 z2; injection z2 with z2 z3; omega
      · rw [if_neg q]
        refine sm_zero fun k hk => ?_
        by_cases hf : fitC mk (patAt (slotAt m s).1 k) 0 = true
        · rw [if_pos hf, nMv_behind_in, if_neg]
          rintro ⟨w1, rfl, rfl, w4⟩
          have hj : j = 0 := by omega
          subst hj
          exact q ⟨⟨hs, hk, w1, hf⟩, rfl⟩
        · rw [if_neg hf]
/-- .. to the next slot's beginning -/
theorem nMv_out {m : Met} (M : MOk m) {st : St3} (v : Val m st) (mk : Nat) (e : Bool) {i : Nat} (hi : i < m.length) :
    nMv (i + 1, 0, 0) (movesOf m st mk e) =
      sm (fun k => if (fitC mk (patAt (slotAt m i).1 k) ((patAt (slotAt m i).1 k).length - 1) = true ∧ ((slotAt m i).2 && !e) = false) ∧ st = (if (patAt (slotAt m i).1 k).length - 1 = 0 then (i, 0, 0) else (i, k, (patAt (slotAt m i).1 k).length - 1)) then 1 else 0) (slotAt m i).1.length := by
  obtain ⟨s, k, a⟩ := st
  obtain ⟨v1, v2, v3⟩ := v
  show nMv _ (if s = m.length then [] else if 0 < a then (if fitC mk (patAt (slotAt m s).1 k) a = true then behindS m s k (a + 1) e else []) else firstMoves m s mk e (slotAt m s).1.length) = _
  by_cases h1 : s = m.length
  · rw [if_pos h1, sm_zero fun c hc => ?_]
    · rfl
    · refine if_neg ?_
      rintro ⟨_, z⟩
      have : s = i := by
        split at z
        · injection z
        · injection z
      omega
  · rw [if_neg h1]
    have hs : s < m.length := by have : s ≤ m.length := v1; omega
    by_cases h2 : 0 < a
    · rw [if_pos h2]
      obtain ⟨_, w2, w3⟩ := v3 h2
      have w2' : k < (slotAt m s).1.length := w2
      have w3' : a < (patAt (slotAt m s).1 k).length := w3
      have lhs : nMv (i + 1, 0, 0) (if fitC mk (patAt (slotAt m s).1 k) a = true then behindS m s k (a + 1) e else []) = if fitC mk (patAt (slotAt m s).1 k) a = true ∧ (¬ a + 1 < (patAt (slotAt m s).1 k).length ∧ s + 1 = i + 1 ∧ ((slotAt m s).2 && !e) = false) then 1 else 0 := by
        by_cases hf : fitC mk (patAt (slotAt m s).1 k) a = true
        · rw [if_pos hf, nMv_behind_out _ _ _ _ _ _ (Nat.succ_pos _)]
          simp only [hf, true_and]
        · rw [if_neg hf, if_neg fun z => hf z.1]
          rfl
      refine lhs.trans ?_
      by_cases hsi : s = i
      · subst hsi
        refine (Eq.trans (sm_congr fun c hc => ?_) (sm_one (j := k) (v := if fitC mk (patAt (slotAt m s).1 k) a = true ∧ (¬ a + 1 < (patAt (slotAt m s).1 k).length ∧ s + 1 = s + 1 ∧ ((slotAt m s).2 && !e) = false) then 1 else 0) w2')).symm
        by_cases hck : c = k
        · subst hck
          rw [if_pos rfl]
          by_cases z : fitC mk (patAt (slotAt m s).1 c) a = true ∧ (¬ a + 1 < (patAt (slotAt m s).1 c).length ∧ s + 1 = s + 1 ∧ ((slotAt m s).2 && !e) = false)
          · rw [if_pos z, if_pos]
            have el : (patAt (slotAt m s).1 c).length - 1 = a := by omega
            rw [el]
            exact ⟨⟨z.1, z.2.2.2⟩, by rw [if_neg (by omega)]⟩
          · rw [if_neg z, if_neg]
            rintro ⟨⟨y1, y2⟩, y3⟩
            by_cases y4 : (patAt (slotAt m s).1 c).length - 1 = 0
            · rw [if_pos y4] at y3
              injection y3 with _ y3; injection y3 with _ y3; omega
            · rw [if_neg y4] at y3
              injection y3 with _ y3; injection y3 with _ y3
              rw [← y3] at y1
              exact z ⟨y1, by omega, rfl, y2⟩
        · rw [if_neg hck, if_neg]
          rintro ⟨_, y3⟩
          split at y3
          · injection y3 with _ y3; injection y3 with _ y3; omega
          · injection y3 with _ y3; injection y3 with y3 _; exact hck y3.symm
      · rw [if_neg fun z => hsi (by omega), sm_zero fun c hc => ?_]
        refine if_neg ?_
        rintro ⟨_, y3⟩
        split at y3
        · injection y3 with y3 _; exact hsi y3
        · injection y3 with y3 _; exact hsi y3
    · rw [if_neg h2, nMv_first]
      have ha : a = 0 := by omega
      subst ha
      have hk : k = 0 := v2 rfl
      subst hk
      by_cases hsi : s = i
      · subst hsi
        refine sm_congr fun c hc => ?_
        have lc := (M.len hs hc).1
        rw [nMv_behind_out _ _ _ _ _ _ Nat.one_pos]
        by_cases y4 : (patAt (slotAt m s).1 c).length - 1 = 0
        · rw [y4, if_pos rfl]
          by_cases hf : fitC mk (patAt (slotAt m s).1 c) 0 = true
          · rw [if_pos hf]
            by_cases z : ((slotAt m s).2 && !e) = false
            · rw [if_pos ⟨by omega, rfl, z⟩, if_pos ⟨⟨hf, z⟩, rfl⟩]
            · rw [if_neg fun y => z y.2.2, if_neg fun y => z y.1.2]
          · rw [if_neg hf, if_neg fun y => hf y.1.1]
        · rw [if_neg y4, if_neg (c := _ ∧ _ = _)]
          · split
            · refine if_neg fun y => ?_
              have := y.1
              omega
            · rfl
          · rintro ⟨_, y3⟩
            injection y3 with _ y3; injection y3 with _ y3; omega
      · rw [sm_zero fun c hc => ?_, sm_zero fun c hc => ?_]
        · refine if_neg ?_
          rintro ⟨_, y3⟩
          split at y3
          · injection y3 with y3 _; exact hsi y3
          · injection y3 with y3 _; exact hsi y3
        · split
          · rw [nMv_behind_out _ _ _ _ _ _ Nat.one_pos, if_neg fun y => hsi (by omega)]
          · rfl
end Rt

namespace Rt
theorem ls_if {α : Type} (b : Prop) [Decidable b] (f : α → Nat) (xs : List α) : ls (fun x => if b then f x else 0) xs = if b then ls f xs else 0 := by
  by_cases h : b
  · rw [if_pos h]; exact ls_congr fun x _ => if_pos h
  · rw [if_neg h]; exact ls_zero fun x _ => if_neg h
theorem mul_if (n : Nat) (b : Prop) [Decidable b] : n * (if b then 1 else 0) = if b then n else 0 := by
  split <;> omega
/-- the marks read so far, one more -/
theorem fitR_at {R : Row} {a : Nat} {x : Step} (hx : R[a]? = some x) (p : Pat) (pos t : Nat) (h : pos + t = a) : fitR R p pos t = fitC x.1 p t := by
  unfold fitR
  rw [h, hx]
theorem endsAt_at {R : Row} {a : Nat} {x : Step} (hx : R[a]? = some x) : endsAt R a = x.2 := by
  unfold endsAt
  rw [hx]
theorem tot_in {m : Met} {c : Cnt} (hv : ∀ x, x ∈ c → Val m x.1) (mk : Nat) (e : Bool) (i k j : Nat) :
    tot m c mk e (i, k, j + 1) = if i < m.length ∧ k < (slotAt m i).1.length ∧ j + 1 < (patAt (slotAt m i).1 k).length ∧ fitC mk (patAt (slotAt m i).1 k) j = true then at' c (if j = 0 then (i, 0, 0) else (i, k, j)) else 0 := by
  unfold tot at'
  rw [← ls_if]
  refine ls_congr fun x hx => ?_
  rw [nMv_in (hv x hx), mul_if]
  by_cases q : i < m.length ∧ k < (slotAt m i).1.length ∧ j + 1 < (patAt (slotAt m i).1 k).length ∧ fitC mk (patAt (slotAt m i).1 k) j = true
  · rw [if_pos q]
    by_cases z : x.1 = (if j = 0 then (i, 0, 0) else (i, k, j))
    · rw [if_pos ⟨q, z⟩, if_pos z]
    · rw [if_neg fun y => z y.2, if_neg z]
  · rw [if_neg q, if_neg fun y => q y.1]
theorem mul_sm (n : Nat) (f : Nat → Nat) : ∀ k : Nat, n * sm f k = sm (fun i => n * f i) k
  | 0 => rfl
  | k + 1 => by
    show n * (sm f k + f k) = sm _ k + n * f k
    rw [Nat.mul_add, mul_sm n f k]
theorem tot_out {m : Met} (M : MOk m) {c : Cnt} (hv : ∀ x, x ∈ c → Val m x.1) (mk : Nat) (e : Bool) {i : Nat} (hi : i < m.length) :
    tot m c mk e (i + 1, 0, 0) = sm (fun k => if fitC mk (patAt (slotAt m i).1 k) ((patAt (slotAt m i).1 k).length - 1) = true ∧ ((slotAt m i).2 && !e) = false then
      at' c (if (patAt (slotAt m i).1 k).length - 1 = 0 then (i, 0, 0) else (i, k, (patAt (slotAt m i).1 k).length - 1)) else 0) (slotAt m i).1.length := by
  unfold tot
  have e1 : ls (fun x : St3 × Nat => x.2 * nMv (i + 1, 0, 0) (movesOf m x.1 mk e)) c = ls (fun x => sm (fun k => if fitC mk (patAt (slotAt m i).1 k) ((patAt (slotAt m i).1 k).length - 1) = true ∧ ((slotAt m i).2 && !e) = false then
      (if x.1 = (if (patAt (slotAt m i).1 k).length - 1 = 0 then (i, 0, 0) else (i, k, (patAt (slotAt m i).1 k).length - 1)) then x.2 else 0) else 0) (slotAt m i).1.length) c := by
    refine ls_congr fun x hx => ?_
    rw [nMv_out M (hv x hx) mk e hi, mul_sm]
    refine sm_congr fun k _ => ?_
    rw [mul_if]
    by_cases q : fitC mk (patAt (slotAt m i).1 k) ((patAt (slotAt m i).1 k).length - 1) = true ∧ ((slotAt m i).2 && !e) = false
    · rw [if_pos q]
      by_cases z : x.1 = (if (patAt (slotAt m i).1 k).length - 1 = 0 then (i, 0, 0) else (i, k, (patAt (slotAt m i).1 k).length - 1))
      · rw [if_pos ⟨q, z⟩, if_pos z]
      · rw [if_neg fun y => z y.2, if_neg z]
    · rw [if_neg q, if_neg fun y => q y.1]
  rw [e1, ls_sm]
  refine sm_congr fun k _ => ?_
  rw [ls_if]
  rfl
theorem tot_zero {m : Met} {c : Cnt} {mk : Nat} {e : Bool} {b : St3} (h : ∀ x, x ∈ c → nMv b (movesOf m x.1 mk e) = 0) : tot m c mk e b = 0 := ls_zero fun x hx => by rw [h x hx]; rfl
theorem nMv_none {b : St3} {mvs : List (Nat × St3)} (h : ∀ x, x ∈ mvs → x.2 ≠ b) : nMv b mvs = 0 := ls_zero fun x hx => if_neg (h x hx)

/-- counts over the first a marks of R, capped -/
def Right (m : Met) (R : Row) (a : Nat) (c : Cnt) : Prop := ∀ b, at' c b = min 2 (PP m R a b)
theorem min2_if {b : Prop} [Decidable b] {x y : Nat} (h : b → min 2 x = min 2 y) : min 2 (if b then x else 0) = min 2 (if b then y else 0) := by
  by_cases q : b
  · rw [if_pos q, if_pos q]; exact h q
  · rw [if_neg q, if_neg q]
theorem min2_min (x : Nat) : min 2 (min 2 x) = min 2 x := by omega
/-- THE STEP -/
theorem right_step {le : St3 × Nat → St3 × Nat → Bool} {m : Met} (M : MOk m) {R : Row} {a : Nat} {x : Step} (hx : R[a]? = some x) {c : Cnt} (hv : ∀ y, y ∈ c → Val m y.1) (h : Right m R a c) : Right m R (a + 1) (countedOn le m c x) := by
  intro b
  rw [counted_at]
  obtain ⟨i, k, j⟩ := b
  cases j with
  | succ j =>
    rw [tot_in hv]
    show min 2 (if _ then _ else 0) = min 2 (if i < m.length ∧ k < (slotAt m i).1.length ∧ j + 1 < (patAt (slotAt m i).1 k).length ∧ j + 1 ≤ a + 1 ∧ matN R (patAt (slotAt m i).1 k) (a + 1 - (j + 1)) (j + 1) = true then F m R i (a + 1 - (j + 1)) else 0)
    have ea : a + 1 - (j + 1) = a - j := by omega
    rw [ea]
    show min 2 (if _ then _ else 0) = min 2 (if i < m.length ∧ k < (slotAt m i).1.length ∧ j + 1 < (patAt (slotAt m i).1 k).length ∧ j + 1 ≤ a + 1 ∧ (matN R (patAt (slotAt m i).1 k) (a - j) j && fitR R (patAt (slotAt m i).1 k) (a - j) j) = true then F m R i (a - j) else 0)
    by_cases q : i < m.length ∧ k < (slotAt m i).1.length ∧ j + 1 < (patAt (slotAt m i).1 k).length ∧ fitC x.1 (patAt (slotAt m i).1 k) j = true
    · rw [if_pos q]
      obtain ⟨q1, q2, q3, q4⟩ := q
      by_cases hj : j = 0
      · subst hj
        rw [if_pos rfl, h, if_pos, min2_min]
        · rfl
        · exact ⟨q1, q2, q3, by omega, by rw [fitR_at hx _ _ _ (by omega), q4]; rfl⟩
      · rw [if_neg hj, h, min2_min]
        show min 2 (if j = 0 then _ else if _ then _ else 0) = _
        rw [if_neg hj]
        by_cases w : j ≤ a
        · rw [fitR_at hx _ _ _ (by omega), q4, Bool.and_true]
          by_cases y : matN R (patAt (slotAt m i).1 k) (a - j) j = true
          · rw [if_pos ⟨q1, q2, Nat.lt_of_succ_lt q3, w, y⟩, if_pos ⟨q1, q2, q3, by omega, y⟩]
          · rw [if_neg fun z => y z.2.2.2.2, if_neg fun z => y z.2.2.2.2]
        · rw [if_neg fun z => w z.2.2.2.1, if_neg fun z => w (by have := z.2.2.2.1; omega)]
    · rw [if_neg q, if_neg]
      rintro ⟨z1, z2, z3, z4, z5⟩
      rw [Bool.and_eq_true] at z5
      rw [fitR_at hx _ _ _ (by omega)] at z5
      exact q ⟨z1, z2, z3, z5.2⟩
  | zero =>
    cases k with
    | succ k =>
      rw [tot_zero]
      · rfl
      · intro y hy
        refine nMv_none fun z hz e => ?_
        have v := (move_ok M (hv y hy) hz).1
        rw [e] at v
        exact absurd (v.2.1 rfl) (Nat.succ_ne_zero k)
    | zero =>
      cases i with
      | zero =>
        rw [tot_zero]
        · rfl
        · intro y hy
          refine nMv_none fun z hz e => ?_
          have r := (move_ok M (hv y hy) hz).2
          rw [e] at r
          exact absurd r (by show ¬ _ ≤ 3 * 0 + 0; omega)
      | succ i =>
        show _ = min 2 (F m R (i + 1) (a + 1))
        by_cases hi : i < m.length
        · rw [tot_out M hv _ _ hi]
          refine sm_cap fun k hk => ?_
          have lk := (M.len hi hk).1
          by_cases q : fitC x.1 (patAt (slotAt m i).1 k) ((patAt (slotAt m i).1 k).length - 1) = true ∧ ((slotAt m i).2 && !x.2) = false
          · rw [if_pos q, h, min2_min]
            obtain ⟨q1, q2⟩ := q
            have q3 : (!(slotAt m i).2 || endsAt R (a + 1 - 1)) = true := by
              rw [Nat.add_sub_cancel, endsAt_at hx]
              revert q2
              cases (slotAt m i).2 <;> cases x.2 <;> decide
            unfold fitsB
            rw [q3, Bool.and_true]
            generalize hp : patAt (slotAt m i).1 k = p at *
            have el : p.length = (p.length - 1) + 1 := by omega
            by_cases y : p.length - 1 = 0
            · rw [if_pos y]
              have l1 : p.length = 1 := by omega
              rw [l1]
              show min 2 (F m R i a) = min 2 (if (decide (1 ≤ a + 1) && (true && fitR R p (a + 1 - 1) 0)) = true then F m R i (a + 1 - 1) else 0)
              rw [fitR_at hx _ _ _ (by omega), if_pos]
              · rfl
              · rw [y] at q1
                simp [q1]
            · rw [if_neg y]
              show min 2 (if p.length - 1 = 0 then _ else if i < m.length ∧ k < (slotAt m i).1.length ∧ p.length - 1 < (patAt (slotAt m i).1 k).length ∧ p.length - 1 ≤ a ∧ matN R (patAt (slotAt m i).1 k) (a - (p.length - 1)) (p.length - 1) = true then F m R i (a - (p.length - 1)) else 0) = _
              rw [if_neg y, hp]
              have ez : a + 1 - p.length = a - (p.length - 1) := by omega
              rw [ez]
              have em : matN R p (a - (p.length - 1)) p.length = (matN R p (a - (p.length - 1)) (p.length - 1) && fitR R p (a - (p.length - 1)) (p.length - 1)) := by
                conv => lhs; rw [el]
                rfl
              rw [em]
              by_cases w : p.length - 1 ≤ a
              · rw [fitR_at hx _ _ _ (by omega), q1, Bool.and_true]
                have d1 : decide (p.length ≤ a + 1) = true := decide_eq_true (by omega)
                rw [d1, Bool.true_and]
                by_cases u : matN R p (a - (p.length - 1)) (p.length - 1) = true
                · rw [if_pos ⟨hi, hk, by omega, w, u⟩, if_pos u]
                · rw [if_neg fun z => u z.2.2.2.2, if_neg u]
              · have d1 : decide (p.length ≤ a + 1) = false := decide_eq_false (by omega)
                rw [d1, Bool.false_and, if_neg Bool.false_ne_true, if_neg fun z => w z.2.2.2.1]
          · rw [if_neg q]
            refine congrArg (min 2) (if_neg fun z => ?_).symm
            unfold fitsB at z
            rw [Bool.and_eq_true, Bool.and_eq_true, decide_eq_true_eq] at z
            obtain ⟨⟨z1, z2⟩, z3⟩ := z
            generalize hp : patAt (slotAt m i).1 k = p at *
            have el : p.length = (p.length - 1) + 1 := by omega
            rw [el] at z2
            have z2' : (matN R p (a + 1 - ((p.length - 1) + 1)) (p.length - 1) && fitR R p (a + 1 - ((p.length - 1) + 1)) (p.length - 1)) = true := z2
            rw [Bool.and_eq_true, fitR_at hx _ _ _ (by omega)] at z2'
            rw [Nat.add_sub_cancel, endsAt_at hx] at z3
            refine q ⟨z2'.2, ?_⟩
            revert z3
            cases (slotAt m i).2 <;> cases x.2 <;> decide
        · have o : slotAt m i = ([], false) := slotAt_out (by omega)
          have f0 : F m R (i + 1) (a + 1) = 0 := by
            show sm _ (slotAt m i).1.length = 0
            rw [o]
            rfl
          rw [f0, tot_zero]
          intro y hy
          refine nMv_none fun z hz e => ?_
          have v := (move_ok M (hv y hy) hz).1.1
          rw [e] at v
          exact hi v

/-! ### the counts of a row -/
def init : Cnt := [((0, 0, 0), 1)]
section
variable (le : St3 × Nat → St3 × Nat → Bool)
def Cn (m : Met) (r : Row) : Cnt := r.foldl (countedOn le m) init
def feet (m : Met) (R : Row) : Nat := F m R m.length R.length
def done (m : Met) : St3 := (m.length, 0, 0)
variable {le}
theorem Cn_snoc (m : Met) (r : Row) (x : Step) : Cn le m (r ++ [x]) = countedOn le m (Cn le m r) x := by simp [Cn]
/-- its states: each is one, of a rank that is not less than the number of marks -/
theorem Cn_val {m : Met} (M : MOk m) : ∀ r : Row, (∀ x, x ∈ Cn le m r → Val m x.1 ∧ r.length ≤ rank x.1) ∧ ((Cn le m r).map (·.1)).Nodup := by
  intro r
  induction h : r.length generalizing r with
  | zero =>
    obtain rfl : r = [] := List.length_eq_zero_iff.mp h
    refine ⟨fun x hx => ?_, by simp [Cn, init]⟩
    have e : x = _ := List.mem_singleton.mp hx
    subst e
    exact ⟨val_start m, Nat.zero_le _⟩
  | succ n ih =>
    have hne : r ≠ [] := fun z => by rw [z] at h; cases h
    have e := List.dropLast_concat_getLast hne
    have hl : r.dropLast.length = n := by rw [List.length_dropLast, h]; rfl
    obtain ⟨i1, i2⟩ := ih r.dropLast hl
    rw [← e, Cn_snoc]
    refine ⟨counted_all (fun b => Val m b ∧ n + 1 ≤ rank b) fun x hx y hy => ?_, counted_nd _ _ _⟩
    obtain ⟨v, rk⟩ := i1 x hx
    obtain ⟨w1, w2⟩ := move_ok M v hy
    exact ⟨w1, by omega⟩
theorem take_snoc {R : Row} {a : Nat} {x : Step} (hx : R[a]? = some x) : R.take (a + 1) = R.take a ++ [x] := by
  rw [List.take_add_one, hx]
  rfl
theorem Cn_right {m : Met} (M : MOk m) (R : Row) : ∀ a : Nat, a ≤ R.length → Right m R a (Cn le m (R.take a))
  | 0, _ => by
    intro b
    show (if ((0, 0, 0) : St3) = b then 1 else 0) + 0 = _
    obtain ⟨i, k, j⟩ := b
    unfold PP
    by_cases hj : j = 0
    · subst hj
      by_cases hk : k = 0
      · subst hk
        cases i with
        | zero => rfl
        | succ i =>
          rw [if_neg fun z => by injection z with z _; cases z]
          show 0 = min 2 (F m R (i + 1) 0)
          have : F m R (i + 1) 0 = 0 := by
            refine sm_zero fun k hk => if_neg fun z => ?_
            by_cases hi : i < m.length
            · have := (M.len hi hk).1
              unfold fitsB at z
              rw [Bool.and_eq_true, Bool.and_eq_true, decide_eq_true_eq] at z
              omega
            · have o : slotAt m i = ([], false) := slotAt_out (by omega)
              rw [o] at hk
              exact absurd hk (Nat.not_lt_zero _)
          rw [this]
          rfl
      · rw [if_neg fun z => hk (by injection z with _ z; injection z with z _; exact z.symm)]
        show 0 = min 2 (if k = 0 then _ else 0)
        rw [if_neg hk]
        rfl
    · rw [if_neg fun z => hj (by injection z with _ z; injection z with _ z; exact z.symm)]
      show 0 = min 2 (if j = 0 then _ else _)
      rw [if_neg hj, if_neg fun z => hj (Nat.le_zero.mp z.2.2.2.1)]
      rfl
  | a + 1, h => by
    have hx : R[a]? = some R[a] := List.getElem?_eq_getElem h
    rw [take_snoc hx, Cn_snoc]
    exact right_step M hx (fun y hy => ((Cn_val M _).1 y hy).1) (Cn_right M R a (Nat.le_of_succ_le h))
/-- L1: the end's count is the number of lists of feet, two at most -/
theorem Cn_feet {m : Met} (M : MOk m) (R : Row) : at' (Cn le m R) (done m) = min 2 (feet m R) := by
  have h := Cn_right (le := le) M R R.length (Nat.le_refl _) (done m)
  rw [List.take_length] at h
  exact h
theorem amb_iff {m : Met} (M : MOk m) (R : Row) : (done m, 2) ∈ Cn le m R ↔ 2 ≤ feet m R := by
  have nd := (Cn_val (le := le) M R).2
  constructor
  · intro h
    have e := at_mem nd h
    rw [Cn_feet M] at e
    omega
  · intro h
    have e : at' (Cn le m R) (done m) = 2 := by rw [Cn_feet M]; omega
    have q := mem_at nd (b := done m) (by rw [e]; decide)
    rw [e] at q
    exact q
end
end Rt

namespace Rt
/-! ### the order of said rows -/
def STEPS : List Step := [(117, false), (117, true), (45, false), (45, true)]
def rk (x : Step) : Nat := (if x.1 = 117 then 0 else 2) + (if x.2 = true then 1 else 0)
def bef : Row → Row → Bool
  | x :: xs, y :: ys => if x = y then bef xs ys else decide (rk x < rk y)
  | [], _ => false
  | _ :: _, [] => false
def before (a b : Row) : Bool := if a.length = b.length then bef a b else decide (a.length < b.length)
theorem bef_irrefl : ∀ a : Row, bef a a = false
  | [] => rfl
  | x :: a => by
    show (if x = x then bef a a else _) = false
    rw [if_pos rfl, bef_irrefl a]
theorem bef_trans : ∀ a b c : Row, bef a b = true → bef b c = true → bef a c = true
  | [], _, _, h, _ => nomatch h
  | x :: a, [], _, h, _ => nomatch h
  | x :: a, y :: b, [], _, h => nomatch h
  | x :: a, y :: b, z :: c, h, h' => by
    have h1 : (if x = y then bef a b else decide (rk x < rk y)) = true := h
    have h2 : (if y = z then bef b c else decide (rk y < rk z)) = true := h'
    show (if x = z then bef a c else decide (rk x < rk z)) = true
    by_cases e1 : x = y
    · rw [if_pos e1] at h1
      subst e1
      by_cases e2 : x = z
      · rw [if_pos e2] at h2 ⊢
        exact bef_trans a b c h1 h2
      · rw [if_neg e2] at h2 ⊢
        exact h2
    · rw [if_neg e1, decide_eq_true_eq] at h1
      by_cases e2 : y = z
      · subst e2
        rw [if_neg e1, decide_eq_true_eq]
        exact h1
      · rw [if_neg e2, decide_eq_true_eq] at h2
        rw [if_neg fun e => by rw [e] at h1; omega, decide_eq_true_eq]
        omega
theorem bef_asymm {a b : Row} (h : bef a b = true) : bef b a = false := by
  cases q : bef b a with
  | false => rfl
  | true =>
    have := bef_trans a b a h q
    rw [bef_irrefl] at this
    cases this
theorem bef_snoc : ∀ {a b : Row} (x y : Step), a.length = b.length → bef a b = true → bef (a ++ [x]) (b ++ [y]) = true
  | [], _, _, _, _, h => nomatch h
  | u :: a, [], _, _, h, _ => nomatch h
  | u :: a, v :: b, x, y, hl, h => by
    have h1 : (if u = v then bef a b else decide (rk u < rk v)) = true := h
    show (if u = v then bef (a ++ [x]) (b ++ [y]) else decide (rk u < rk v)) = true
    by_cases e : u = v
    · rw [if_pos e] at h1 ⊢
      exact bef_snoc x y (Nat.succ.inj hl) h1
    · rw [if_neg e] at h1 ⊢
      exact h1
theorem bef_last : ∀ (a : Row) {x y : Step}, rk x < rk y → bef (a ++ [x]) (a ++ [y]) = true
  | [], x, y, h => by
    show (if x = y then false else decide (rk x < rk y)) = true
    rw [if_neg fun e => by rw [e] at h; omega, decide_eq_true h]
  | u :: a, x, y, h => by
    show (if u = u then bef (a ++ [x]) (a ++ [y]) else _) = true
    rw [if_pos rfl, bef_last a h]

/-! ### the search, as the program does it -/
abbrev Lay := List (Cnt × Row)
def sd (b : Lay) (c : Cnt) (r : Row) : Lay := if b.any (fun x => decide (x.1 = c)) = true then b else b ++ [(c, r)]
section
variable {α β : Type}
/-- one after another, until one gives a row -/
def scan (f : α → Lay → Sum Row Lay) : List α → Lay → Sum Row Lay
  | [], b => .inr b
  | x :: xs, b => match f x b with
    | .inl w => .inl w
    | .inr b' => scan f xs b'
theorem scan_append (f : α → Lay → Sum Row Lay) : ∀ (xs ys : List α) (b : Lay), scan f (xs ++ ys) b = match scan f xs b with
    | .inl w => .inl w
    | .inr b' => scan f ys b'
  | [], _, _ => rfl
  | x :: xs, ys, b => by
    show (match f x b with | .inl w => _ | .inr b' => scan f (xs ++ ys) b') = match (match f x b with | .inl w => Sum.inl w | .inr b' => scan f xs b') with | .inl w => _ | .inr b' => _
    cases f x b with
    | inl w => rfl
    | inr b' => exact scan_append f xs ys b'
theorem scan_one (f : α → Lay → Sum Row Lay) (x : α) (b : Lay) : scan f [x] b = f x b := by
  show (match f x b with | .inl w => Sum.inl w | .inr b' => .inr b') = f x b
  cases f x b <;> rfl
theorem scan_flat (g : α → β → Lay → Sum Row Lay) (ys : List β) : ∀ (xs : List α) (b : Lay), scan (fun x => scan (g x) ys) xs b = scan (fun p => g p.1 p.2) (xs.flatMap fun x => ys.map fun y => (x, y)) b
  | [], _ => rfl
  | x :: xs, b => by
    have e : ∀ (zs : List β) (b : Lay), scan (fun p : α × β => g p.1 p.2) (zs.map fun y => (x, y)) b = scan (g x) zs b := by
      intro zs
      induction zs with
      | nil => intro _; rfl
      | cons z zs ih =>
        intro b
        show (match g x z b with | .inl w => _ | .inr b' => scan _ (zs.map fun y => (x, y)) b') = match g x z b with | .inl w => _ | .inr b' => scan (g x) zs b'
        cases g x z b with
        | inl w => rfl
        | inr b' => exact ih b'
    rw [List.flatMap_cons, scan_append, e]
    show (match scan (g x) ys b with | .inl w => _ | .inr b' => scan _ xs b') = _
    cases scan (g x) ys b with
    | inl w => rfl
    | inr b' => exact scan_flat g ys xs b'
end
section
variable (le : St3 × Nat → St3 × Nat → Bool) (m : Met)
def isAmb (c : Cnt) (x : Step) : Bool := x.2 && decide ((done m, 2) ∈ c)
def turn1 (c : Cnt) (r : Row) (x : Step) (b : Lay) : Sum Row Lay :=
  if isAmb m (countedOn le m c x) x = true then .inl (r ++ [x]) else .inr (if countedOn le m c x = [] then b else sd b (countedOn le m c x) (r ++ [x]))
def go1 (c : Cnt) (r : Row) : List Step → Lay → Sum Row Lay := scan (turn1 le m c r)
def go2 : Lay → Lay → Sum Row Lay := scan fun p => go1 le m p.1 p.2 STEPS
def search : Nat → Lay → Option Row
  | 0, _ => none
  | n + 1, L => if L = [] then none else match go2 le m L [] with
    | .inl w => some w
    | .inr b => search n b
def readTwice : Option Row := search le m 10 [(init, [])]

/-! ### what it finds -/
abbrev Cand := (Cnt × Row) × Step
def cc (p : Cand) : Cnt := countedOn le m p.1.1 p.2
def cr (p : Cand) : Row := p.1.2 ++ [p.2]
def am (p : Cand) : Bool := isAmb m (cc le m p) p.2
def keepC (b : Lay) (p : Cand) : Lay := if cc le m p = [] then b else sd b (cc le m p) (cr p)
def cands (L : Lay) : List Cand := L.flatMap fun p => STEPS.map fun x => (p, x)
variable {le m}
theorem go2_eq (L b : Lay) : go2 le m L b = scan (fun p : Cand => turn1 le m p.1.1 p.1.2 p.2) (cands L) b := scan_flat (fun (p : Cnt × Row) x => turn1 le m p.1 p.2 x) STEPS L b
theorem turn1_eq (p : Cand) (b : Lay) : turn1 le m p.1.1 p.1.2 p.2 b = if am le m p = true then .inl (cr p) else .inr (keepC le m b p) := rfl
theorem scan_inl {w : Row} : ∀ {xs : List Cand} {b : Lay}, scan (fun p : Cand => turn1 le m p.1.1 p.1.2 p.2) xs b = .inl w →
    ∃ pre y post, xs = pre ++ y :: post ∧ am le m y = true ∧ w = cr y ∧ ∀ z, z ∈ pre → am le m z = false
  | [], _, h => nomatch h
  | x :: xs, b, h => by
    have h1 : (match turn1 le m x.1.1 x.1.2 x.2 b with | .inl w => Sum.inl w | .inr b' => scan (fun p : Cand => turn1 le m p.1.1 p.1.2 p.2) xs b') = .inl w := h
    rw [turn1_eq] at h1
    by_cases q : am le m x = true
    · rw [if_pos q] at h1
      injection h1 with h1
      exact ⟨[], x, xs, rfl, q, h1.symm, fun z hz => nomatch hz⟩
    · rw [if_neg q] at h1
      obtain ⟨pre, y, post, e, a, ew, hp⟩ := scan_inl h1
      refine ⟨x :: pre, y, post, by rw [e]; rfl, a, ew, fun z hz => ?_⟩
      rcases List.mem_cons.mp hz with rfl | hz
      · exact Bool.eq_false_iff.mpr q
      · exact hp z hz
theorem scan_inr {b' : Lay} : ∀ {xs : List Cand} {b : Lay}, scan (fun p : Cand => turn1 le m p.1.1 p.1.2 p.2) xs b = .inr b' → (∀ z, z ∈ xs → am le m z = false) ∧ b' = xs.foldl (keepC le m) b
  | [], _, h => by
    injection h with h
    exact ⟨(fun z hz => nomatch hz), h.symm⟩
  | x :: xs, b, h => by
    have h1 : (match turn1 le m x.1.1 x.1.2 x.2 b with | .inl w => Sum.inl w | .inr b' => scan (fun p : Cand => turn1 le m p.1.1 p.1.2 p.2) xs b') = .inr b' := h
    rw [turn1_eq] at h1
    by_cases q : am le m x = true
    · rw [if_pos q] at h1
      exact nomatch h1
    · rw [if_neg q] at h1
      obtain ⟨a, e⟩ := scan_inr h1
      refine ⟨fun z hz => ?_, e⟩
      rcases List.mem_cons.mp hz with rfl | hz
      · exact Bool.eq_false_iff.mpr q
      · exact a z hz
/-- what is kept of some candidates whose rows rise -/
structure Kept (le : St3 × Nat → St3 × Nat → Bool) (m : Met) (xs : List Cand) (b b' : Lay) : Prop where
  ord : (b'.map (·.2)).Pairwise fun u v => bef u v = true
  from_ : ∀ e, e ∈ b' → e ∈ b ∨ ∃ y, y ∈ xs ∧ e = (cc le m y, cr y) ∧ cc le m y ≠ []
  stay : ∀ e, e ∈ b → e ∈ b'
  all : ∀ y, y ∈ xs → cc le m y ≠ [] → ∃ e, e ∈ b' ∧ e.1 = cc le m y ∧ (e.2 = cr y ∨ bef e.2 (cr y) = true)
  nd : (b'.map (·.1)).Nodup
  few : b'.length ≤ b.length + xs.length
theorem kept : ∀ (xs : List Cand) (b : Lay), xs.Pairwise (fun u v => bef (cr u) (cr v) = true) → (b.map (·.2)).Pairwise (fun u v => bef u v = true) → (b.map (·.1)).Nodup → (∀ e, e ∈ b → ∀ y, y ∈ xs → bef e.2 (cr y) = true) →
    Kept le m xs b (xs.foldl (keepC le m) b)
  | [], b, _, ho, hn, _ => ⟨ho, fun e he => .inl he, fun e he => he, (fun y hy => nomatch hy), hn, Nat.le_refl _⟩
  | x :: xs, b, hx, ho, hn, hb => by
    obtain ⟨hx1, hx2⟩ := List.pairwise_cons.mp hx
    show Kept le m (x :: xs) b (xs.foldl (keepC le m) (keepC le m b x))
    by_cases q : cc le m x = []
    · have e1 : keepC le m b x = b := if_pos q
      rw [e1]
      have k := kept xs b hx2 ho hn fun e he y hy => hb e he y (List.mem_cons_of_mem _ hy)
      refine ⟨k.ord, fun e he => ?_, k.stay, fun y hy hq => ?_, k.nd, Nat.le_succ_of_le k.few⟩
      · rcases k.from_ e he with z | ⟨y, hy, z⟩
        · exact .inl z
        · exact .inr ⟨y, List.mem_cons_of_mem _ hy, z⟩
      · rcases List.mem_cons.mp hy with rfl | hy
        · exact absurd q hq
        · exact k.all y hy hq
    · have e1 : keepC le m b x = sd b (cc le m x) (cr x) := if_neg q
      rw [e1]
      unfold sd
      by_cases a : b.any (fun z => decide (z.1 = cc le m x)) = true
      · rw [if_pos a]
        have k := kept xs b hx2 ho hn fun e he y hy => hb e he y (List.mem_cons_of_mem _ hy)
        refine ⟨k.ord, fun e he => ?_, k.stay, fun y hy hq => ?_, k.nd, Nat.le_succ_of_le k.few⟩
        · rcases k.from_ e he with z | ⟨y, hy, z⟩
          · exact .inl z
          · exact .inr ⟨y, List.mem_cons_of_mem _ hy, z⟩
        · rcases List.mem_cons.mp hy with rfl | hy
          · obtain ⟨e, he, ee⟩ := List.any_eq_true.mp a
            exact ⟨e, k.stay e he, of_decide_eq_true ee, .inr (hb e he y (List.mem_cons_self ..))⟩
          · exact k.all y hy hq
      · rw [if_neg a]
        have k := kept xs (b ++ [(cc le m x, cr x)]) hx2 (by
            rw [List.map_append, List.pairwise_append]
            refine ⟨ho, List.pairwise_singleton _ _, fun u hu v hv => ?_⟩
            obtain ⟨e, he, rfl⟩ := List.mem_map.mp hu
            have ev : v = cr x := List.mem_singleton.mp hv
            rw [ev]
            exact hb e he x (List.mem_cons_self ..)) (by
            rw [List.map_append, List.nodup_append]
            refine ⟨hn, by simp, fun u hu v hv e => ?_⟩
            obtain ⟨z, hz, rfl⟩ := List.mem_map.mp hu
            have ev : v = cc le m x := List.mem_singleton.mp hv
            exact a (List.any_eq_true.mpr ⟨z, hz, decide_eq_true (e.trans ev)⟩)) fun e he y hy => by
            rcases List.mem_append.mp he with he | he
            · exact hb e he y (List.mem_cons_of_mem _ hy)
            · have ee : e = (cc le m x, cr x) := List.mem_singleton.mp he
              rw [ee]
              exact hx1 y hy
        refine ⟨k.ord, fun e he => ?_, fun e he => k.stay e (List.mem_append_left _ he), fun y hy hq => ?_, k.nd, ?_⟩
        · rcases k.from_ e he with z | ⟨y, hy, z⟩
          · rcases List.mem_append.mp z with z | z
            · exact .inl z
            · exact .inr ⟨x, List.mem_cons_self .., List.mem_singleton.mp z, q⟩
          · exact .inr ⟨y, List.mem_cons_of_mem _ hy, z⟩
        · rcases List.mem_cons.mp hy with rfl | hy
          · exact ⟨_, k.stay _ (List.mem_append_right _ (List.mem_singleton.mpr rfl)), rfl, .inl rfl⟩
          · exact k.all y hy hq
        · have := k.few
          simp only [List.length_append, List.length_cons, List.length_nil] at this ⊢
          omega

/-- rows over the four steps; one that is said -/
def Over (r : Row) : Prop := ∀ x, x ∈ r → x ∈ STEPS
def Said (r : Row) : Prop := Over r ∧ ∃ r0 x, r = r0 ++ [x] ∧ x.2 = true
structure Good (le : St3 × Nat → St3 × Nat → Bool) (m : Met) (k : Nat) (L : Lay) : Prop where
  ent : ∀ e, e ∈ L → e.2.length = k ∧ Cn le m e.2 = e.1 ∧ Over e.2 ∧ e.1 ≠ []
  ord : (L.map (·.2)).Pairwise fun u v => bef u v = true
  all : ∀ r : Row, r.length = k → Over r → Cn le m r ≠ [] → ∃ e, e ∈ L ∧ e.1 = Cn le m r ∧ (e.2 = r ∨ bef e.2 r = true)
  nd : (L.map (·.1)).Nodup
  few : L.length ≤ 4 ^ k
theorem good_start : Good le m 0 [(init, [])] where
  ent := fun e he => by
    obtain rfl : e = (init, []) := List.mem_singleton.mp he
    exact ⟨rfl, rfl, (fun x hx => nomatch hx), by simp [init]⟩
  ord := List.pairwise_singleton _ _
  all := fun r hr _ _ => by
    obtain rfl : r = [] := List.length_eq_zero_iff.mp hr
    exact ⟨_, List.mem_singleton.mpr rfl, rfl, .inl rfl⟩
  nd := by simp
  few := Nat.le_refl _
theorem mem_cands {L : Lay} {p : Cand} : p ∈ cands L ↔ p.1 ∈ L ∧ p.2 ∈ STEPS := by
  constructor
  · intro h
    obtain ⟨e, he, hp⟩ := List.mem_flatMap.mp h
    obtain ⟨x, hx, rfl⟩ := List.mem_map.mp hp
    exact ⟨he, hx⟩
  · rintro ⟨h1, h2⟩
    exact List.mem_flatMap.mpr ⟨p.1, h1, List.mem_map.mpr ⟨p.2, h2, rfl⟩⟩
theorem cands_ord {k : Nat} : ∀ {L : Lay}, (∀ e, e ∈ L → e.2.length = k) → (L.map (·.2)).Pairwise (fun u v => bef u v = true) → (cands L).Pairwise fun u v => bef (cr u) (cr v) = true
  | [], _, _ => List.Pairwise.nil
  | e :: L, hl, h => by
    rw [List.map_cons, List.pairwise_cons] at h
    have ec : cands (e :: L) = (STEPS.map fun x => (e, x)) ++ cands L := rfl
    rw [ec, List.pairwise_append]
    refine ⟨?_, cands_ord (fun e' he => hl e' (List.mem_cons_of_mem _ he)) h.2, fun u hu v hv => ?_⟩
    · rw [List.pairwise_map]
      have st : STEPS.Pairwise fun x y => rk x < rk y := by decide
      exact st.imp fun hxy => bef_last e.2 hxy
    · obtain ⟨x, _, rfl⟩ := List.mem_map.mp hu
      obtain ⟨h1, h2⟩ := mem_cands.mp hv
      exact bef_snoc _ _ ((hl e (List.mem_cons_self ..)).trans (hl v.1 (List.mem_cons_of_mem _ h1)).symm) (h.1 _ (List.mem_map.mpr ⟨v.1, h1, rfl⟩))
theorem cands_len : ∀ L : Lay, (cands L).length = 4 * L.length
  | [] => rfl
  | e :: L => by
    have ec : cands (e :: L) = (STEPS.map fun x => (e, x)) ++ cands L := rfl
    rw [ec, List.length_append, cands_len L]
    show 4 + 4 * L.length = 4 * (L.length + 1)
    omega
theorem over_snoc {r : Row} {x : Step} : Over (r ++ [x]) ↔ Over r ∧ x ∈ STEPS := by
  constructor
  · intro h
    exact ⟨fun y hy => h y (List.mem_append_left _ hy), h x (List.mem_append_right _ (List.mem_singleton.mpr rfl))⟩
  · rintro ⟨h1, h2⟩ y hy
    rcases List.mem_append.mp hy with hy | hy
    · exact h1 y hy
    · rw [List.mem_singleton.mp hy]; exact h2
theorem cc_eq {k : Nat} {L : Lay} (g : Good le m k L) {p : Cand} (hp : p ∈ cands L) : cc le m p = Cn le m (cr p) := by
  obtain ⟨h1, _⟩ := mem_cands.mp hp
  unfold cc cr
  rw [Cn_snoc, (g.ent _ h1).2.1]
theorem cr_len {k : Nat} {L : Lay} (g : Good le m k L) {p : Cand} (hp : p ∈ cands L) : (cr p).length = k + 1 := by
  obtain ⟨h1, _⟩ := mem_cands.mp hp
  unfold cr
  rw [List.length_append, (g.ent _ h1).1]
  rfl
/-- the candidate that stands for a row -/
theorem stands {k : Nat} {L : Lay} (g : Good le m k L) {r0 : Row} {x : Step} (hl : r0.length = k) (ho : Over (r0 ++ [x])) (hc : Cn le m (r0 ++ [x]) ≠ []) :
    ∃ p, p ∈ cands L ∧ cc le m p = Cn le m (r0 ++ [x]) ∧ p.2 = x ∧ (cr p = r0 ++ [x] ∨ bef (cr p) (r0 ++ [x]) = true) := by
  obtain ⟨o1, o2⟩ := over_snoc.mp ho
  have h0 : Cn le m r0 ≠ [] := fun z => hc (by rw [Cn_snoc, z, counted_nil])
  obtain ⟨e, he, e1, e2⟩ := g.all r0 hl o1 h0
  refine ⟨(e, x), mem_cands.mpr ⟨he, o2⟩, ?_, rfl, ?_⟩
  · show countedOn le m e.1 x = _
    rw [Cn_snoc, e1]
  · rcases e2 with e2 | e2
    · exact .inl (by show e.2 ++ [x] = _; rw [e2])
    · exact .inr (bef_snoc _ _ ((g.ent e he).1.trans hl.symm) e2)
theorem good_step {k : Nat} {L b : Lay} (g : Good le m k L) (h : go2 le m L [] = .inr b) : Good le m (k + 1) b := by
  rw [go2_eq] at h
  obtain ⟨_, e⟩ := scan_inr h
  have kk := kept (le := le) (m := m) (cands L) [] (cands_ord (fun e he => (g.ent e he).1) g.ord) List.Pairwise.nil (by simp) fun e he => nomatch he
  rw [← e] at kk
  refine ⟨fun e he => ?_, kk.ord, fun r hr ho hc => ?_, kk.nd, ?_⟩
  · rcases kk.from_ e he with z | ⟨y, hy, rfl, hq⟩
    · exact nomatch z
    · obtain ⟨h1, h2⟩ := mem_cands.mp hy
      exact ⟨cr_len g hy, (cc_eq g hy).symm, over_snoc.mpr ⟨(g.ent _ h1).2.2.1, h2⟩, hq⟩
  · have hne : r ≠ [] := fun z => by rw [z] at hr; cases hr
    have er := List.dropLast_concat_getLast hne
    have hl : r.dropLast.length = k := by rw [List.length_dropLast, hr]; rfl
    rw [← er] at ho hc ⊢
    obtain ⟨p, hp, e1, _, e3⟩ := stands g hl ho hc
    obtain ⟨e', he', f1, f2⟩ := kk.all p hp (by rw [e1]; exact hc)
    refine ⟨e', he', f1.trans e1, ?_⟩
    rcases f2 with f2 | f2
    · rw [f2]; exact e3
    · rcases e3 with e3 | e3
      · rw [← e3]; exact .inr f2
      · exact .inr (bef_trans _ _ _ f2 e3)
  · have f := kk.few
    rw [cands_len] at f
    have := g.few
    rw [Nat.pow_succ]
    simp only [List.length_nil] at f
    omega
/-- no row of at most k marks has two -/
def Clean (m : Met) (k : Nat) : Prop := ∀ r, r.length ≤ k → Said r → feet m r < 2
theorem am_iff (M : MOk m) {k : Nat} {L : Lay} (g : Good le m k L) {p : Cand} (hp : p ∈ cands L) : am le m p = true ↔ p.2.2 = true ∧ 2 ≤ feet m (cr p) := by
  unfold am isAmb
  rw [Bool.and_eq_true, decide_eq_true_eq, cc_eq g hp, amb_iff M]
/-- a row that has two has a candidate not behind it that has two -/
theorem twin (M : MOk m) {k : Nat} {L : Lay} (g : Good le m k L) {r : Row} (hl : r.length = k + 1) (hs : Said r) (h2 : 2 ≤ feet m r) : ∃ p, p ∈ cands L ∧ am le m p = true ∧ (cr p = r ∨ bef (cr p) r = true) := by
  obtain ⟨ho, r0, x, rfl, hx⟩ := hs
  have hm := (amb_iff (le := le) M (r0 ++ [x])).mpr h2
  have hc : Cn le m (r0 ++ [x]) ≠ [] := fun z => by rw [z] at hm; exact nomatch hm
  have hl0 : r0.length = k := by simpa using hl
  obtain ⟨p, hp, e1, e2, e3⟩ := stands g hl0 ho hc
  refine ⟨p, hp, ?_, e3⟩
  unfold am isAmb
  rw [Bool.and_eq_true, decide_eq_true_eq, e1, e2]
  exact ⟨hx, hm⟩
theorem clean_step (M : MOk m) {k : Nat} {L b : Lay} (g : Good le m k L) (cl : Clean m k) (h : go2 le m L [] = .inr b) : Clean m (k + 1) := by
  intro r hr hs
  by_cases hl : r.length = k + 1
  · refine Nat.lt_of_not_le fun h2 => ?_
    obtain ⟨p, hp, ha, _⟩ := twin M g hl hs h2
    rw [go2_eq] at h
    rw [(scan_inr h).1 p hp] at ha
    cases ha
  · exact cl r (by omega) hs
/-- what is told: the first row that has two -/
structure First (m : Met) (w : Row) : Prop where
  said : Said w
  two : 2 ≤ feet m w
  least : ∀ r, Said r → before r w = true → feet m r < 2
theorem first_of (M : MOk m) {k : Nat} {L : Lay} {w : Row} (g : Good le m k L) (cl : Clean m k) (h : go2 le m L [] = .inl w) : First m w := by
  rw [go2_eq] at h
  obtain ⟨pre, y, post, e, ha, rfl, hp⟩ := scan_inl h
  have hy : y ∈ cands L := by rw [e]; exact List.mem_append_right _ (List.mem_cons_self ..)
  obtain ⟨a1, a2⟩ := (am_iff M g hy).mp ha
  obtain ⟨y1, y2⟩ := mem_cands.mp hy
  refine ⟨⟨over_snoc.mpr ⟨(g.ent _ y1).2.2.1, y2⟩, y.1.2, y.2, rfl, a1⟩, a2, fun r hs hb => ?_⟩
  have lw := cr_len g hy
  unfold before at hb
  by_cases hl : r.length = (cr y).length
  · rw [if_pos hl] at hb
    refine Nat.lt_of_not_le fun h2 => ?_
    obtain ⟨p, hp', ap, ep⟩ := twin M g (hl.trans lw) hs h2
    have po := cands_ord (fun e he => (g.ent e he).1) g.ord
    rw [e] at po hp'
    have lt : bef (cr p) (cr y) = true := by
      rcases ep with ep | ep
      · rw [ep]; exact hb
      · exact bef_trans _ _ _ ep hb
    rcases List.mem_append.mp hp' with q | q
    · rw [hp p q] at ap
      cases ap
    · rcases List.mem_cons.mp q with q | q
      · rw [q, bef_irrefl] at lt
        cases lt
      · have := (List.pairwise_cons.mp (List.pairwise_append.mp po).2.1).1 p q
        rw [bef_asymm this] at lt
        cases lt
  · rw [if_neg hl, decide_eq_true_eq] at hb
    exact cl r (by omega) hs
theorem rank_le (M : MOk m) {st : St3} (v : Val m st) : rank st ≤ 9 := by
  obtain ⟨s, k, a⟩ := st
  obtain ⟨v1, v2, v3⟩ := v
  have h3 := M.most
  have v1' : s ≤ m.length := v1
  show 3 * s + a ≤ 9
  by_cases h : 0 < a
  · obtain ⟨w1, w2, w3⟩ := v3 h
    have w1' : s < m.length := w1
    have w3' : a < (patAt (slotAt m s).1 k).length := w3
    have := (M.len w1 w2).2
    have t : (patAt (slotAt m s).1 k).length ≤ 3 := this
    omega
  · omega
theorem few_layers (M : MOk m) {k : Nat} {L : Lay} (g : Good le m k L) (h : L ≠ []) : k ≤ 9 := by
  obtain ⟨e, he⟩ := List.exists_mem_of_ne_nil L h
  obtain ⟨h1, h2, _, h4⟩ := g.ent e he
  obtain ⟨x, hx⟩ := List.exists_mem_of_ne_nil e.1 h4
  rw [← h2] at hx
  obtain ⟨v, r⟩ := (Cn_val M e.2).1 x hx
  have := rank_le M v
  omega
theorem Cn_cut {r : Row} {k : Nat} (h : Cn le m (r.take k) = []) : Cn le m r = [] := by
  have e : Cn le m r = (r.drop k).foldl (countedOn le m) (Cn le m (r.take k)) := by
    unfold Cn
    rw [← List.foldl_append, List.take_append_drop]
  rw [e, h]
  generalize r.drop k = q
  induction q with
  | nil => rfl
  | cons x q ih =>
    show q.foldl _ (countedOn le m [] x) = []
    rw [counted_nil]
    exact ih
theorem clean_all (M : MOk m) {k : Nat} (g : Good le m k []) (cl : Clean m k) : ∀ r, Said r → feet m r < 2 := by
  intro r hs
  by_cases hl : r.length ≤ k
  · exact cl r hl hs
  · have hk : (r.take k).length = k := by rw [List.length_take]; omega
    have h0 : Cn le m (r.take k) = [] := by
      refine Decidable.byContradiction fun h => ?_
      obtain ⟨e, he, _⟩ := g.all (r.take k) hk (fun x hx => hs.1 x (List.mem_of_mem_take hx)) h
      exact nomatch he
    have e := Cn_feet (le := le) M r
    rw [Cn_cut h0] at e
    have e' : 0 = min 2 (feet m r) := e
    omega
theorem search_spec (M : MOk m) : ∀ (n k : Nat) (L : Lay), Good le m k L → Clean m k → 10 ≤ k + n →
    (∀ w, search le m n L = some w → First m w) ∧ (search le m n L = none → ∀ r, Said r → feet m r < 2)
  | 0, k, L, g, cl, h => by
    have hL : L = [] := Decidable.byContradiction fun z => by have := few_layers M g z; omega
    subst hL
    exact ⟨(fun w e => nomatch e), fun _ => clean_all M g cl⟩
  | n + 1, k, L, g, cl, h => by
    have eq : search le m (n + 1) L = if L = [] then none else match go2 le m L [] with
      | .inl w => some w
      | .inr b => search le m n b := rfl
    by_cases hL : L = []
    · subst hL
      exact ⟨fun w e => (by rw [eq, if_pos rfl] at e; exact nomatch e), fun _ => clean_all M g cl⟩
    · rw [eq, if_neg hL]
      cases q : go2 le m L [] with
      | inl w0 =>
        refine ⟨fun w e => ?_, fun e => nomatch e⟩
        have e' : w0 = w := Option.some.inj e
        rw [← e']
        exact first_of M g cl q
      | inr b => exact search_spec M n (k + 1) b (good_step g q) (clean_step M g cl q) (by omega)
theorem clean_start (m : Met) : Clean m 0 := fun r hr hs => by
  obtain ⟨_, r0, x, rfl, _⟩ := hs
  simp at hr
theorem read_some (M : MOk m) {w : Row} (h : readTwice le m = some w) : First m w := (search_spec M 10 0 _ good_start (clean_start m) (by decide)).1 w h
theorem read_none (M : MOk m) (h : readTwice le m = none) : ∀ r, Said r → feet m r < 2 := (search_spec (le := le) M 10 0 _ good_start (clean_start m) (by decide)).2 h
end
end Rt

namespace Rt
/-! ### the law's own count of feet -/
def wPat (R : Row) (cut : Bool) (a n : Nat) (l : List (Nat × Nat)) (p : Pat) : List (Nat × Nat) := if fitsB R p cut (a + p.length) = true then pt l (a + p.length) (gt l (a + p.length) + n) else l
def wPats (R : Row) (cut : Bool) (a n : Nat) (ps : List Pat) (l : List (Nat × Nat)) : List (Nat × Nat) := ps.foldl (wPat R cut a n) l
def wStep (R : Row) (s : Slot) (w : List (Nat × Nat)) : List (Nat × Nat) := w.foldl (fun l x => wPats R s.2 x.1 x.2 s.1 l) []
def wAll (R : Row) (ss : List Slot) : List (Nat × Nat) := ss.foldl (fun w s => wStep R s w) [(0, 1)]
theorem gt_wPats (R : Row) (cut : Bool) (a n b : Nat) : ∀ (ps : List Pat) (l : List (Nat × Nat)), gt (wPats R cut a n ps l) b = gt l b + ls (fun p => if fitsB R p cut b = true ∧ a + p.length = b then n else 0) ps
  | [], _ => rfl
  | p :: ps, l => by
    show gt (wPats R cut a n ps (wPat R cut a n l p)) b = gt l b + ((if fitsB R p cut b = true ∧ a + p.length = b then n else 0) + ls _ ps)
    rw [gt_wPats R cut a n b ps]
    have e : gt (wPat R cut a n l p) b = gt l b + (if fitsB R p cut b = true ∧ a + p.length = b then n else 0) := by
      unfold wPat
      by_cases h : a + p.length = b
      · subst h
        by_cases q : fitsB R p cut (a + p.length) = true
        · rw [if_pos q, if_pos ⟨q, rfl⟩, gt_pt, if_pos rfl]
        · rw [if_neg q, if_neg fun z => q z.1, Nat.add_zero]
      · rw [if_neg (c := _ ∧ _) fun z => h z.2, Nat.add_zero]
        split
        · rw [gt_pt, if_neg fun z => h z.symm]
        · rfl
    rw [e, Nat.add_assoc]
theorem ls_take {α : Type} (f : α → Nat) (d : α) (ps : List α) : ∀ n : Nat, n ≤ ps.length → ls f (ps.take n) = sm (fun k => f (ps.getD k d)) n
  | 0, _ => rfl
  | n + 1, h => by
    have hx : ps[n]? = some ps[n] := List.getElem?_eq_getElem h
    rw [List.take_add_one, hx, ls_append, ls_take f d ps n (Nat.le_of_succ_le h)]
    show sm _ n + (f ps[n] + 0) = sm _ n + f (ps.getD n d)
    have e : ps.getD n d = ps[n] := by simp [List.getD, hx]
    rw [e, Nat.add_zero]
theorem ls_range {α : Type} (f : α → Nat) (d : α) (ps : List α) : ls f ps = sm (fun k => f (ps.getD k d)) ps.length := by
  have h := ls_take f d ps ps.length (Nat.le_refl _)
  rwa [List.take_length] at h
theorem gt_wStep_go (R : Row) (s : Slot) (b : Nat) : ∀ (w l : List (Nat × Nat)), gt (w.foldl (fun l x => wPats R s.2 x.1 x.2 s.1 l) l) b = gt l b + ls (fun x => ls (fun p => if fitsB R p s.2 b = true ∧ x.1 + p.length = b then x.2 else 0) s.1) w
  | [], _ => rfl
  | x :: w, l => by
    show gt (w.foldl _ (wPats R s.2 x.1 x.2 s.1 l)) b = gt l b + (ls _ s.1 + ls _ w)
    rw [gt_wStep_go R s b w, gt_wPats, Nat.add_assoc]
theorem gt_wStep {R : Row} {s : Slot} {w : List (Nat × Nat)} (nd : (w.map (·.1)).Nodup) (b : Nat) : gt (wStep R s w) b = sm (fun k => if fitsB R (patAt s.1 k) s.2 b = true then gt w (b - (patAt s.1 k).length) else 0) s.1.length := by
  unfold wStep
  rw [gt_wStep_go, gt_nil, Nat.zero_add]
  have e1 : ls (fun x : Nat × Nat => ls (fun p => if fitsB R p s.2 b = true ∧ x.1 + p.length = b then x.2 else 0) s.1) w = ls (fun x => sm (fun k => if fitsB R (patAt s.1 k) s.2 b = true ∧ x.1 + (patAt s.1 k).length = b then x.2 else 0) s.1.length) w :=
    ls_congr fun x _ => ls_range _ [] s.1
  rw [e1, ls_sm]
  refine sm_congr fun k _ => ?_
  generalize patAt s.1 k = p
  by_cases h : fitsB R p s.2 b = true
  · rw [if_pos h, ← at_gt nd]
    refine ls_congr fun x _ => ?_
    have hl : p.length ≤ b := by
      unfold fitsB at h
      rw [Bool.and_eq_true, Bool.and_eq_true, decide_eq_true_eq] at h
      exact h.1.1
    by_cases q : x.1 = b - p.length
    · rw [if_pos ⟨h, by omega⟩, if_pos q]
    · rw [if_neg fun z => q (by omega), if_neg q]
  · rw [if_neg h]
    exact ls_zero fun x _ => if_neg fun z => h z.1
theorem nd_wPats (R : Row) (cut : Bool) (a n : Nat) : ∀ (ps : List Pat) (l : List (Nat × Nat)), (l.map (·.1)).Nodup → ((wPats R cut a n ps l).map (·.1)).Nodup ∧ (wPats R cut a n ps l).length ≤ l.length + ps.length
  | [], l, h => ⟨h, Nat.le_refl _⟩
  | p :: ps, l, h => by
    have h' : ((wPat R cut a n l p).map (·.1)).Nodup ∧ (wPat R cut a n l p).length ≤ l.length + 1 := by
      unfold wPat
      split
      · exact ⟨nd_pt h _ _, len_pt _ _ _⟩
      · exact ⟨h, Nat.le_succ _⟩
    obtain ⟨a1, a2⟩ := nd_wPats R cut a n ps _ h'.1
    exact ⟨a1, by show (wPats R cut a n ps (wPat R cut a n l p)).length ≤ l.length + (ps.length + 1); omega⟩
theorem nd_wStep_go (R : Row) (s : Slot) : ∀ (w l : List (Nat × Nat)), (l.map (·.1)).Nodup → ((w.foldl (fun l x => wPats R s.2 x.1 x.2 s.1 l) l).map (·.1)).Nodup ∧ (w.foldl (fun l x => wPats R s.2 x.1 x.2 s.1 l) l).length ≤ l.length + w.length * s.1.length
  | [], l, h => ⟨h, Nat.le_add_right _ _⟩
  | x :: w, l, h => by
    obtain ⟨b1, b2⟩ := nd_wPats R s.2 x.1 x.2 s.1 l h
    obtain ⟨a1, a2⟩ := nd_wStep_go R s w _ b1
    refine ⟨a1, ?_⟩
    show (w.foldl _ (wPats R s.2 x.1 x.2 s.1 l)).length ≤ l.length + (w.length + 1) * s.1.length
    rw [Nat.add_mul]
    omega
theorem nd_wStep (R : Row) (s : Slot) (w : List (Nat × Nat)) : ((wStep R s w).map (·.1)).Nodup ∧ (wStep R s w).length ≤ w.length * s.1.length := by
  have h := nd_wStep_go R s w [] (by simp)
  exact ⟨h.1, Nat.le_trans h.2 (by simp)⟩
theorem wAll_snoc (R : Row) (ss : List Slot) (s : Slot) : wAll R (ss ++ [s]) = wStep R s (wAll R ss) := by simp [wAll]
theorem slot_get {m : Met} {i : Nat} (h : i < m.length) : m[i]? = some (slotAt m i) := by
  unfold slotAt
  rw [List.getElem?_eq_getElem h]
  simp [h]
theorem pat_get {ps : List Pat} {k : Nat} (h : k < ps.length) : ps[k]? = some (patAt ps k) := by
  unfold patAt
  rw [List.getElem?_eq_getElem h]
  simp [h]
theorem wAll_take {m : Met} (R : Row) {i : Nat} (h : i < m.length) : wAll R (m.take (i + 1)) = wStep R (slotAt m i) (wAll R (m.take i)) := by
  rw [List.take_add_one, slot_get h]
  exact wAll_snoc R _ _
theorem wAll_F (m : Met) (R : Row) : ∀ i : Nat, i ≤ m.length → ((wAll R (m.take i)).map (·.1)).Nodup ∧ ∀ b, gt (wAll R (m.take i)) b = F m R i b
  | 0, _ => by
    refine ⟨by simp [wAll], fun b => ?_⟩
    show gt [(0, 1)] b = if b = 0 then 1 else 0
    by_cases h : b = 0
    · subst h
      rfl
    · rw [if_neg h, gt_neg fun z => h z.symm]
      rfl
  | i + 1, h => by
    obtain ⟨h1, h2⟩ := wAll_F m R i (Nat.le_of_succ_le h)
    rw [wAll_take R h]
    refine ⟨(nd_wStep R _ _).1, fun b => ?_⟩
    rw [gt_wStep h1]
    show sm _ _ = sm _ _
    refine sm_congr fun k _ => ?_
    rw [h2]
/-- the law's count is ours -/
theorem law_feet (m : Met) (R : Row) : gt (wAll R m) R.length = feet m R := by
  have h := (wAll_F m R m.length (Nat.le_refl _)).2 R.length
  rw [List.take_length] at h
  exact h
theorem wAll_few {m : Met} (M : MOk m) (R : Row) : ∀ i : Nat, i ≤ m.length → (wAll R (m.take i)).length ≤ 3 ^ i
  | 0, _ => Nat.le_refl _
  | i + 1, h => by
    rw [wAll_take R h]
    have a := (nd_wStep R (slotAt m i) (wAll R (m.take i))).2
    have b := (M.pats _ (slotAt_mem h)).2
    have c := wAll_few M R i (Nat.le_of_succ_le h)
    have d := Nat.mul_le_mul c b
    rw [Nat.pow_succ]
    exact Nat.le_trans a d

/-! ### rows that are said by patterns -/
def Fpos (m : Met) (r : Row) (i : Nat) : Prop := ∀ t : Row, 1 ≤ F m (r ++ t) i r.length
theorem pos_zero (m : Met) : Fpos m [] 0 := fun _ => Nat.le_refl 1
structure SegOk (p : Pat) (cut : Bool) (g : Row) : Prop where
  len : g.length = p.length
  fit : ∀ j x, g[j]? = some x → fitC x.1 p j = true
  ends : cut = true → ∀ x, g[p.length - 1]? = some x → x.2 = true
theorem pos_step {m : Met} (M : MOk m) {r g : Row} {i k : Nat} (h : Fpos m r i) (hi : i < m.length) (hk : k < (slotAt m i).1.length) (s : SegOk (patAt (slotAt m i).1 k) (slotAt m i).2 g) : Fpos m (r ++ g) (i + 1) := by
  intro t
  have lp := (M.len hi hk).1
  have el : (r ++ g).length = r.length + (patAt (slotAt m i).1 k).length := by rw [List.length_append, s.len]
  have e1 : (r ++ g).length - (patAt (slotAt m i).1 k).length = r.length := by omega
  have get : ∀ j, j < g.length → ((r ++ g) ++ t)[r.length + j]? = g[j]? := fun j hj => by
    rw [List.append_assoc, List.getElem?_append_right (Nat.le_add_right _ _), Nat.add_sub_cancel_left, List.getElem?_append_left hj]
  have hm : ∀ j, j ≤ g.length → matN ((r ++ g) ++ t) (patAt (slotAt m i).1 k) r.length j = true := by
    intro j
    induction j with
    | zero => intro _; rfl
    | succ j ih =>
      intro hj
      show (matN _ _ _ j && fitR _ _ _ j) = true
      rw [ih (Nat.le_of_succ_le hj), Bool.true_and]
      have hx : g[j]? = some g[j] := List.getElem?_eq_getElem hj
      rw [fitR_at (x := g[j]) (a := r.length + j) (by rw [get j hj, hx]) _ _ _ rfl]
      exact s.fit j _ hx
  have hf : fitsB ((r ++ g) ++ t) (patAt (slotAt m i).1 k) (slotAt m i).2 (r ++ g).length = true := by
    unfold fitsB
    rw [e1, hm _ (by rw [s.len]; exact Nat.le_refl _), decide_eq_true (by omega : (patAt (slotAt m i).1 k).length ≤ (r ++ g).length)]
    cases hc : (slotAt m i).2 with
    | false => rfl
    | true =>
      have hj : (patAt (slotAt m i).1 k).length - 1 < g.length := by rw [s.len]; omega
      have hx : g[(patAt (slotAt m i).1 k).length - 1]? = some g[(patAt (slotAt m i).1 k).length - 1] := List.getElem?_eq_getElem hj
      have eq : (r ++ g).length - 1 = r.length + ((patAt (slotAt m i).1 k).length - 1) := by omega
      rw [eq, endsAt_at (x := g[(patAt (slotAt m i).1 k).length - 1]) (by rw [get _ hj, hx]), s.ends hc _ hx]
      rfl
  refine Nat.le_trans ?_ (sm_le hk)
  rw [if_pos hf, e1, List.append_assoc]
  exact h (g ++ t)
theorem pos_feet {m : Met} {R : Row} (h : Fpos m R m.length) : 1 ≤ feet m R := by
  have := h []
  rwa [List.append_nil] at this
/-- what the law asks of a said row that is ahead of what is told -/
theorem one_of {m : Met} {R : Row} (h1 : Fpos m R m.length) (h2 : feet m R < 2) : feet m R = 1 := by
  have := pos_feet h1
  omega
end Rt

namespace Rt
/-! ### the search, part by part -/
section
variable {α : Type}
theorem scan_take (f : α → Lay → Sum Row Lay) {xs : List α} {i : Nat} {x : α} (hx : xs[i]? = some x) (b : Lay) : scan f (xs.take (i + 1)) b = match scan f (xs.take i) b with
    | .inl w => .inl w
    | .inr b' => f x b' := by
  rw [List.take_add_one, hx]
  show scan f (xs.take i ++ [x]) b = _
  rw [scan_append]
  cases scan f (xs.take i) b with
  | inl w => rfl
  | inr b' => exact scan_one f x b'
theorem scan_stop (f : α → Lay → Sum Row Lay) {xs : List α} {n : Nat} {b : Lay} {w : Row} (h : scan f (xs.take n) b = .inl w) : scan f xs b = .inl w := by
  have e := scan_append f (xs.take n) (xs.drop n) b
  rw [List.take_append_drop, h] at e
  exact e
theorem scan_go (f : α → Lay → Sum Row Lay) {xs : List α} {i : Nat} {x : α} (hx : xs[i]? = some x) {b b' : Lay} (h : scan f (xs.take i) b = .inr b') : scan f (xs.take (i + 1)) b = f x b' := by
  rw [scan_take f hx, h]
end
section
variable {le : St3 × Nat → St3 × Nat → Bool} {m : Met}
theorem turn1_few {c : Cnt} {r : Row} {x : Step} {b b' : Lay} (h : turn1 le m c r x b = .inr b') : b'.length ≤ b.length + 1 := by
  unfold turn1 at h
  split at h
  · exact nomatch h
  · injection h with h
    subst h
    split
    · exact Nat.le_succ _
    · unfold sd
      split
      · exact Nat.le_succ _
      · simp
theorem scan_few {α : Type} {f : α → Lay → Sum Row Lay} {n : Nat} (hf : ∀ x b b', f x b = .inr b' → b'.length ≤ b.length + n) : ∀ (xs : List α) (b b' : Lay), scan f xs b = .inr b' → b'.length ≤ b.length + n * xs.length
  | [], b, b', h => by
    injection h with h
    subst h
    exact Nat.le_refl _
  | x :: xs, b, b', h => by
    have h1 : (match f x b with | .inl w => Sum.inl w | .inr b1 => scan f xs b1) = .inr b' := h
    cases q : f x b with
    | inl w =>
      rw [q] at h1
      exact nomatch h1
    | inr b1 =>
      rw [q] at h1
      have a := scan_few hf xs b1 b' h1
      have c := hf x b b1 q
      have e : n * (x :: xs).length = n * xs.length + n := by rw [List.length_cons, Nat.mul_add, Nat.mul_one]
      omega
theorem go1_few {c : Cnt} {r : Row} {n : Nat} {b b' : Lay} (h : scan (turn1 le m c r) (STEPS.take n) b = .inr b') : b'.length ≤ b.length + 4 := by
  have a := scan_few (n := 1) (fun x b b' q => turn1_few q) _ _ _ h
  have l : (STEPS.take n).length ≤ 4 := by
    rw [List.length_take]
    exact Nat.min_le_right _ _
  omega
theorem go2_few {L : Lay} {b : Lay} {i : Nat} (h : go2 le m (L.take i) [] = .inr b) : b.length ≤ 4 * L.length := by
  have a := scan_few (n := 4) (fun p b b' (q : go1 le m p.1 p.2 STEPS b = .inr b') => by
    have q' : scan (turn1 le m p.1 p.2) (STEPS.take 4) b = .inr b' := q
    exact go1_few q') _ _ _ h
  have l : (L.take i).length ≤ L.length := by rw [List.length_take]; exact Nat.min_le_right _ _
  simp only [List.length_nil] at a
  omega
theorem pow_le {k n : Nat} (h : k ≤ n) : 4 ^ k ≤ 4 ^ n := Nat.pow_le_pow_right (by decide) h
theorem search_nil (n : Nat) : search le m n [] = none := by
  cases n <;> rfl
theorem search_step {n : Nat} {L : Lay} (h : L ≠ []) : search le m (n + 1) L = match go2 le m L [] with
    | .inl w => some w
    | .inr b => search le m n b := if_neg h
theorem Good.len {k : Nat} {L : Lay} (g : Good le m k L) (hk : k ≤ 9) : L.length ≤ 262144 := by
  have a := g.few
  have b := pow_le hk
  have c : 4 ^ 9 = 262144 := by decide
  omega
end
/-- how the law holds two rows against each other -/
theorem STEPS_mem {x : Step} : x ∈ STEPS ↔ x.1 = 117 ∨ x.1 = 45 := by
  obtain ⟨c, e⟩ := x
  cases e <;> simp [STEPS]
end Rt
end
section
set_option Elab.async false
set_option linter.all false
set_option maxRecDepth 100000
set_option maxHeartbeats 4000000
/-! What stands in memory for a metre, a state, counts, a said row. -/
namespace Rt
open PySem L2

/-! ### pairs, place by place -/
theorem pd_len {α β : Type} {F : α → β → Prop} {xs : List α} {ys : List β} (h : Paired F xs ys) : xs.length = ys.length := Paired.length h
theorem pd_get {α β : Type} {F : α → β → Prop} : ∀ {xs : List α} {ys : List β} {i : Nat} {y : β}, Paired F xs ys → ys[i]? = some y → ∃ x, xs[i]? = some x ∧ F x y
  | _, _, i, y, .nil, h => by simp at h
  | x :: xs, y :: ys, 0, z, .cons a t, h => by
    rw [List.getElem?_cons_zero] at h
    cases h
    exact ⟨x, rfl, a⟩
  | x :: xs, y :: ys, i + 1, z, .cons a t, h => by
    rw [List.getElem?_cons_succ] at h
    obtain ⟨u, e, f⟩ := pd_get t h
    exact ⟨u, by rw [List.getElem?_cons_succ]; exact e, f⟩
theorem pd_get' {α β : Type} {F : α → β → Prop} {xs : List α} {ys : List β} {i : Nat} {x : α} (h : Paired F xs ys) (hx : xs[i]? = some x) : ∃ y, ys[i]? = some y ∧ F x y := by
  have hl : i < ys.length := by
    have := (List.getElem?_eq_some_iff.mp hx).1
    rw [← pd_len h]
    exact this
  obtain ⟨u, e, f⟩ := pd_get h (List.getElem?_eq_getElem hl)
  rw [hx] at e
  cases e
  exact ⟨_, List.getElem?_eq_getElem hl, f⟩
theorem pd_mono {α β : Type} {F G : α → β → Prop} (f : ∀ a b, F a b → G a b) : ∀ {xs : List α} {ys : List β}, Paired F xs ys → Paired G xs ys
  | _, _, .nil => .nil
  | _, _, .cons a t => .cons (f _ _ a) (pd_mono f t)
theorem pd_app {α β : Type} {F : α → β → Prop} : ∀ {xs zs : List α} {ys ws : List β}, Paired F xs ys → Paired F zs ws → Paired F (xs ++ zs) (ys ++ ws)
  | _, _, _, _, .nil, t => t
  | _, _, _, _, .cons a s, t => .cons a (pd_app s t)
theorem pd_single {α β : Type} {F : α → β → Prop} {x : α} : ∀ {ys : List β}, Paired F [x] ys → ∃ y, ys = [y] ∧ F x y
  | _, .cons a .nil => ⟨_, rfl, a⟩
theorem pd_one {α β : Type} {F : α → β → Prop} {x : α} {y : β} (h : F x y) : Paired F [x] [y] := .cons h .nil
theorem pd_snoc {α β : Type} {F : α → β → Prop} {xs : List α} {ys : List β} {x : α} {y : β} (h : Paired F xs ys) (f : F x y) : Paired F (xs ++ [x]) (ys ++ [y]) := pd_app h (pd_one f)
theorem pd_mem {α β : Type} {F : α → β → Prop} {xs : List α} {ys : List β} (h : Paired F xs ys) {y : β} (hy : y ∈ ys) : ∃ x, x ∈ xs ∧ F x y := by
  obtain ⟨i, e⟩ := List.mem_iff_getElem?.mp hy
  obtain ⟨x, hx, f⟩ := pd_get h e
  exact ⟨x, List.mem_of_getElem? hx, f⟩
theorem pd_take {α β : Type} {F : α → β → Prop} : ∀ {xs : List α} {ys : List β} (n : Nat), Paired F xs ys → Paired F (xs.take n) (ys.take n)
  | _, _, 0, _ => by simp only [List.take_zero]; exact .nil
  | _, _, _ + 1, .nil => .nil
  | _, _, n + 1, .cons a t => by simp only [List.take_succ_cons]; exact .cons a (pd_take n t)
/-- each in one list stands for one of the other: pairs from a function -/
theorem pd_map {α β : Type} {F : α → β → Prop} (f : β → α) : ∀ {ys : List β}, (∀ y, y ∈ ys → F (f y) y) → Paired F (ys.map f) ys
  | [], _ => .nil
  | y :: ys, h => .cons (h y (List.mem_cons_self ..)) (pd_map f fun z hz => h z (List.mem_cons_of_mem _ hz))

/-! ### values -/
/-- a text by its codes -/
def tx (p : List Nat) : Str := ⟨p.toArray⟩
def ch (c : Nat) : Str := tx [c]
theorem tx_list (p : List Nat) : (tx p).cps.toList = p := rfl
theorem tx_len (p : List Nat) : (tx p).length = p.length := by
  show p.toArray.size = _
  simp
theorem tx_inj {p q : List Nat} (h : tx p = tx q) : p = q := by
  have e := congrArg (fun z : Str => z.cps.toList) h
  exact e
theorem ch_of (c : Nat) : (⟨#[c]⟩ : Str) = ch c := rfl
theorem dec_ch (a b : Nat) : decide (V.str (ch a) = V.str (ch b)) = (a == b) := by
  by_cases h : a = b
  · subst h
    simp
  · have n : ¬ V.str (ch a) = V.str (ch b) := fun e => h (by
      injection e with e
      have := tx_inj e
      injection this)
    rw [decide_eq_false n]
    exact (beq_eq_false_iff_ne.mpr h).symm

section
variable (K : PySem.W.Frag) (H : Hp)
def S3At (a : Addr) (st : St3) : Prop := H a = some (.tup [.int (st.1 : Nat), .int (st.2.1 : Nat), .int (st.2.2 : Nat)])
def MvAt (v : V) (x : Nat × St3) : Prop := ∃ p q, v = .ref p ∧ H p = some (.tup [.int (x.1 : Nat), .ref q]) ∧ S3At H q x.2
def MvsAt (l : Addr) (mvs : List (Nat × St3)) : Prop := ∃ vs, H l = some (.lst vs) ∧ Paired (MvAt H) vs mvs
def EntAt (v : V) (x : St3 × Nat) : Prop := ∃ p q, v = .ref p ∧ H p = some (.tup [.ref q, .int (x.2 : Nat)]) ∧ S3At H q x.1
def CntAt (a : Addr) (c : Cnt) : Prop := ∃ vs, H a = some (.tup vs) ∧ Paired (EntAt H) vs c
def StepAt (v : V) (x : Step) : Prop := ∃ a, v = .ref a ∧ SqT K H a [.str (ch x.1), .bl x.2]
def RowAt (l : Addr) (r : Row) : Prop := ∃ vs, H l = some (.lst vs) ∧ Paired (StepAt K H) vs r
def SlotAt (v : V) (s : Slot) : Prop := ∃ p q, v = .ref p ∧ H p = some (.tup [.ref q, .bl s.2]) ∧ H q = some (.tup (s.1.map fun p => V.str (tx p)))
def MetAt (a : Addr) (m : Met) : Prop := ∃ vs, H a = some (.tup vs) ∧ Paired (SlotAt H) vs m
end

section
variable {K : PySem.W.Frag} {H H' : Hp}
/-- tuples never change -/
def Tups (H H' : Hp) : Prop := ∀ b xs, H b = some (.tup xs) → H' b = some (.tup xs)
theorem same_tups (s : Same H H') : Tups H H' := fun b xs e => s b _ e
theorem Same.sqt {a : Addr} {xs : List V} (s : Same H H') (h : SqT K H a xs) : SqT K H' a xs := by
  rcases h with (h | ⟨o, h⟩) | h
  · exact .inl (.inl (s _ _ h))
  · exact .inl (.inr ⟨o, s _ _ h⟩)
  · exact .inr h
theorem s3_mono {a : Addr} {st : St3} (s : Tups H H') (h : S3At H a st) : S3At H' a st := s _ _ h
theorem mv_mono {v : V} {x : Nat × St3} (s : Tups H H') : MvAt H v x → MvAt H' v x := fun ⟨p, q, e, h1, h2⟩ => ⟨p, q, e, s _ _ h1, s3_mono s h2⟩
theorem ent_mono {v : V} {x : St3 × Nat} (s : Tups H H') : EntAt H v x → EntAt H' v x := fun ⟨p, q, e, h1, h2⟩ => ⟨p, q, e, s _ _ h1, s3_mono s h2⟩
theorem cnt_mono {a : Addr} {c : Cnt} (s : Tups H H') : CntAt H a c → CntAt H' a c := fun ⟨vs, h1, h2⟩ => ⟨vs, s _ _ h1, pd_mono (fun _ _ => ent_mono s) h2⟩
theorem slot_mono {v : V} {x : Slot} (s : Tups H H') : SlotAt H v x → SlotAt H' v x := fun ⟨p, q, e, h1, h2⟩ => ⟨p, q, e, s _ _ h1, s _ _ h2⟩
theorem met_mono {a : Addr} {m : Met} (s : Tups H H') : MetAt H a m → MetAt H' a m := fun ⟨vs, h1, h2⟩ => ⟨vs, s _ _ h1, pd_mono (fun _ _ => slot_mono s) h2⟩
theorem step_mono {v : V} {x : Step} (s : Same H H') : StepAt K H v x → StepAt K H' v x := fun ⟨a, e, h⟩ => ⟨a, e, Same.sqt s h⟩
theorem row_mono {l : Addr} {r : Row} (s : Same H H') : RowAt K H l r → RowAt K H' l r := fun ⟨vs, h1, h2⟩ => ⟨vs, s _ _ h1, pd_mono (fun _ _ => step_mono s) h2⟩
theorem mvs_mono {l : Addr} {mvs : List (Nat × St3)} (s : Same H H') : MvsAt H l mvs → MvsAt H' l mvs := fun ⟨vs, h1, h2⟩ => ⟨vs, s _ _ h1, pd_mono (fun _ _ => mv_mono (same_tups s)) h2⟩
/-- a new object, all else as it was -/
theorem same_new {p : Addr} {o : HO} (h : H p = none) : Same H (upd H p o) := fun b u e => by rw [upd_ne (ne_of_none e h)]; exact e
theorem tups_upd {p : Addr} {o : HO} (h : ∀ xs, H p ≠ some (.tup xs)) : Tups H (upd H p o) := fun b xs e => by
  have n : b ≠ p := fun z => h xs (by rw [← z]; exact e)
  rw [upd_ne n]
  exact e
theorem Tups.trans {H2 : Hp} (a : Tups H H') (b : Tups H' H2) : Tups H H2 := fun c xs e => b c xs (a c xs e)
theorem Tups.refl (H : Hp) : Tups H H := fun _ _ e => e
theorem met_slot {a : Addr} {m : Met} {i : Nat} (h : MetAt H a m) (hi : i < m.length) : ∃ vs p q, H a = some (.tup vs) ∧ vs.length = m.length ∧ vs[i]? = some (.ref p) ∧ H p = some (.tup [.ref q, .bl (slotAt m i).2]) ∧ H q = some (.tup ((slotAt m i).1.map fun p => V.str (tx p))) := by
  obtain ⟨vs, h1, h2⟩ := h
  obtain ⟨v, e, p, q, rfl, h3, h4⟩ := pd_get h2 (slot_get hi)
  exact ⟨vs, p, q, h1, pd_len h2, e, h3, h4⟩
theorem pats_get {ps : List Pat} {k : Nat} (h : k < ps.length) : (ps.map fun p => V.str (tx p))[k]? = some (.str (tx (patAt ps k))) := by
  rw [List.getElem?_map, pat_get h]
  rfl
end
end Rt
end
section
set_option Elab.async false
set_option linter.all false
set_option maxRecDepth 100000
set_option maxHeartbeats 4000000
/-! Rules that the hand layer lacks: in over a tuple of data, enumerate over a tuple, sorted over a list of data. -/
namespace Rt
open PySem PySem.Spec PyProof.Rows L2

/-! ### x in t, t a tuple of data -/
section
variable {X : Cx}
def rInT (K : PySem.W.Frag) : R2 := fun x y H Q => ∃ d ds, Dp K H x d ∧ Dp K H y (.tuple ds) ∧ SeqAt.shaped d = true ∧ SeqAt.shaped (.tuple ds) = true ∧ Q (.bl (ds.any fun z => PyData.eqv z d)) H
theorem op_inT (room : X.A.units + 65 < cLine) : OpR X (compareOp .In) (rInT X.K) := by
  rintro pins s σ H x y v u Q inv rx ry ⟨d, ds, hd, he, sd, se, q⟩
  obtain ⟨_, r1⟩ := Dp.reads inv d x v hd rx
  obtain ⟨_, r2⟩ := Dp.reads inv (.tuple ds) y u he ry
  exact SeqAt.in_tuple_reads r2 r1 (SeqAt.canLay_of_shaped se) (SeqAt.canLay_of_shaped sd) (room_in_shaped sd room) ⟨.bl _, H, inv, rfl, q⟩
end

/-! ### enumerate(t), t a tuple -/
set_option maxHeartbeats 4000000 in
theorem enumT_new (l : Addr) (items : Array Value) : Meets (Builtin.«enumerate.__new__» ⟨[.type "enumerate", .ref l], []⟩) (fun _ R s => s.heap.IsTuple l items ∧
      R (.ok (.ret (.ref (s.heap.push { cls := .type "tuple_iterator", data := .fields #[.ref l, .int 0 0] }).objs.size)))
        { s with heap := (s.heap.push { cls := .type "tuple_iterator", data := .fields #[.ref l, .int 0 0] }).push { cls := .type "enumerate", data := .fields #[.none, .bool false, .ref s.heap.objs.size, rawInt 0, .none, .none] } }) :=
  .of_wp fun prog w A R s k => by
    obtain ⟨hp, gs, dr, tk, os⟩ := s
    obtain ⟨hl, k⟩ := k
    have sub := sub_enumerate
    have it : ∀ {A' : Around} {E : Value → Shared → Prop} {Q : Value → Shared → Prop}, Q (.ref hp.objs.size) ⟨hp.push { cls := .type "tuple_iterator", data := .fields #[.ref l, .int 0 0] }, gs, dr, tk, os⟩ →
        wpAny (model prog w) A' (pyIter (.ref l)) Q E ⟨hp, gs, dr, tk, os⟩ := fun q => wpAny_pyIter_tuple (show Heap.IsTuple (Shared.heap ⟨hp, gs, dr, tk, os⟩) l items from hl) q
    wp_walk using it
    refine wpAny_stack_any fun st => wpAny_pure ?_
    split
    · rename_i c _ _ _ _ _
      cases hc : (c == Value.type "enumerate") <;> (wp_walk using it; exact ⟨_, rfl, k⟩)
    · wp_walk using it
      exact ⟨_, rfl, k⟩
theorem enumT_call {prog : Program} {w : World} {A : Around} {E : Value → Shared → Prop} {s : Shared} {l : Addr} {items : Array Value} {Q : Value → Shared → Prop} (hl : s.heap.IsTuple l items)
    (h : ∀ h', IsEnum h' (s.heap.objs.size + 1) s.heap.objs.size 0 .none → h'.IsTupleIter s.heap.objs.size l 0 → (∀ b o, s.heap.get? b = some o → h'.get? b = some o) → Q (.ref (s.heap.objs.size + 1)) { s with heap := h' }) :
    wpAny (model prog w) A (call (.type "enumerate") [.ref l]) Q E s := by
  refine callType_new F.called_enumerate (by decide) (F.typeCall_enumerate_1 _) (F.newCall_enumerate_1 _) (fun obj => F.args_object_init_2 obj _) F.entry_enumerate_new (enumT_new l items) ⟨hl, ?_⟩
  have sz : (s.heap.push { cls := .type "tuple_iterator", data := .fields #[.ref l, .int 0 0] }).objs.size = s.heap.objs.size + 1 := Heap.size_push ..
  show _ ∧ _
  rw [sz]
  have top := Heap.get?_push_size (s.heap.push { cls := .type "tuple_iterator", data := .fields #[.ref l, .int 0 0] })
    (o := { cls := .type "enumerate", data := .fields #[.none, .bool false, .ref s.heap.objs.size, rawInt 0, .none, .none] }) rfl
  rw [sz] at top
  exact ⟨⟨_, top, rfl⟩, h _ top ⟨_, Heap.get?_push_of_some _ (Heap.get?_push_size _ rfl), rfl, rfl⟩ fun b o e => Heap.get?_push_of_some _ (Heap.get?_push_of_some _ e)⟩

/-- the tuple at a, each item in a new pair -/
def ItE (K : PySem.W.Frag) (a : Addr) (xs : List V) : It :=
  ⟨fun i H => SqT K H a xs ∧ i < xs.length, fun i H v H' => ∃ T x, v = .ref T ∧ H T = none ∧ H' = upd H T (.tup [.int (i : Nat), x]) ∧ xs[i]? = some x, fun i H => SqT K H a xs ∧ i = xs.length⟩
theorem turnE {P : Program} {w : World} {K : PySem.W.Frag} {elts : List Expr} {kk : Nat} {tpos : Pos} (a e it : Addr) (xs : List V) :
    Turn P w K (.Tuple elts kk tpos) (ItE K a xs) [e, it] e (fun i h => (∃ old, IsEnum h e it ((i : Nat) : Int) old) ∧ h.IsTupleIter it a i ∧ e ≠ it ∧ a ≠ e ∧ a ≠ it) where
  mem := List.mem_cons_self ..
  obj := by
    rintro i h ⟨⟨old, he⟩, ⟨o, ho, _, hd⟩, _⟩ b hb
    rcases List.mem_cons.mp hb with rfl | hb
    · exact ⟨_, he, fun v q => nomatch q⟩
    · rw [List.mem_singleton.mp hb]
      exact ⟨o, ho, fun v q => by rw [hd] at q; cases q⟩
  keep := by
    rintro i h h' ⟨⟨old, he⟩, hi, hn⟩ k
    exact ⟨⟨old, k e (List.mem_cons_self ..) _ he⟩, hi.at fun o q => k it (by simp) o q, hn⟩
  item := by
    rintro X rfl rfl rfl calm i pins s σ H E inv free ⟨⟨old, he⟩, hit, hne, hae, hai⟩ ⟨hq, hi⟩
    obtain ⟨its, rv, tup, _⟩ := inv.tuple hq
    have hsz : i < its.toArray.size := by
      have := rv.length
      simp only [List.size_toArray]
      omega
    have D := Draws.tuple (prog := X.prog) (w := X.w) (A := X.A.in1) (inv.ok.hd calm) it a hai its.toArray
    have he0 : e < s.heap.objs.size := Heap.lt_size he
    have hi0 : it < s.heap.objs.size := let ⟨_, q, _⟩ := hit; Heap.lt_size q
    refine wpAny_pyNext_enum_itemD D he ⟨hit, tup⟩ hsz hne (by simp [hne, Ne.symm hae]) fun x h' tk hx ho hst hT hz hk => ?_
    obtain ⟨hit', _⟩ := hst
    obtain ⟨y, hy⟩ : ∃ y, xs[i]? = some y := ⟨xs[i], List.getElem?_eq_getElem hi⟩
    obtain ⟨u, hu, ru⟩ := rv.get hy
    have hux : u = x := by
      have e1 : its.toArray[i]? = some u := by simpa using hu
      rw [e1] at hx
      exact Option.some.inj hx
    subst hux
    refine ⟨_, rfl, wpAny_letOwnedTupleGo_enum (s := { s with heap := h', toks := tk + 1 }) ho fun h2 he2 sb => ?_⟩
    have hT2 : h2.get? s.heap.objs.size = some { cls := .type "tuple", data := .seq #[.int i tk, u] } := (sb.2 _ (Nat.ne_of_gt he0)).trans hT
    have new : ObjOk X.prog X.w (upd H s.heap.objs.size (.tup [.int (i : Nat), y])) h2 s.heap.objs.size (.tup [.int (i : Nat), y]) :=
      ⟨by show 2 ≤ sizeLine; decide, [.int i tk, u], .cons ⟨_, rfl⟩ (.cons ru .nil), ⟨_, hT2, rfl, _, rfl⟩⟩
    have inv1 : Inv X pins σ (upd H s.heap.objs.size (.tup [.int (i : Nat), y])) { s with heap := h2, toks := tk + 1 } :=
      inv.turnedNew (ch := [e, it]) (fun b ob hb q => (sb.2 b fun z => hb (by simp [z])).trans (hk b ob (fun z => hb (by simp [z])) (fun z => hb (by simp [z])) q)) free (Nat.le_refl _) new
    refine ⟨.ref s.heap.objs.size, _, inv1, rfl, ⟨_, y, rfl, inv.hok.fresh (Nat.le_refl _), rfl, hy⟩, ⟨⟨u, ?_⟩, hit'.at fun o q => (sb.2 it (Ne.symm hne)).trans q, hne, hae, hai⟩, fun b hb => ?_⟩
    · have en : ((i + 1 : Nat) : Int) = (i : Int) + 1 := by omega
      rw [en]
      exact he2
    · have lt : b < s.heap.objs.size := by
        rcases List.mem_cons.mp hb with rfl | hb
        · exact he0
        · rw [List.mem_singleton.mp hb]; exact hi0
      rw [upd_ne (Nat.ne_of_lt lt)]
      exact (free b hb).1
  done := by
    rintro X rfl rfl rfl calm i pins s σ H E inv free ⟨⟨old, he⟩, hit, hne, hae, hai⟩ ⟨hq, rfl⟩
    obtain ⟨its, rv, tup, _⟩ := inv.tuple hq
    have D := Draws.tuple (prog := X.prog) (w := X.w) (A := X.A.in1) (inv.ok.hd calm) it a hai its.toArray
    obtain ⟨f0, f1, _, f3, f4, f5⟩ := free it (by simp)
    have en : its.toArray.size = xs.length := by rw [List.size_toArray, rv.length]
    exact wpAny_pyNext_enum_endD D he ⟨by rw [en]; exact hit, tup⟩ fun h' eb => ⟨rfl, inv.turned (t' := s.toks) (fun b o hb q => eb b o hb q) f0 f1 f3 f4 f5⟩
  self := fun A i s Q E st h => let ⟨⟨_, he⟩, _⟩ := st; wpAny_pyIter_enum he h
def iEnumT (K : PySem.W.Frag) (ta : TA) : TI := fun σ H R => ta σ H fun vs H1 => ∃ a xs, vs = [.ref a] ∧ SqT K H1 a xs ∧ R (ItE K a xs) H1
theorem pi_enumT {X : Cx} {e : Expr} {ta : TA} {p pos tpos : PySem.Pos} {elts : List Expr} {kk : Nat} (glob : Gl X "enumerate") (free : X.mg "enumerate" = none) (arg : PA X [e] ta) (one : starEach [e] X.env = [(false, eval e X.env)] := by rfl) :
    PI X (.Tuple elts kk tpos) (.Call (.Name "enumerate" p) [e] [] pos) (iEnumT X.K ta) := by
  refine ⟨fun pins s σ H R inv h => ?_⟩
  refine Call_ (ld_blt inv glob free boot_enumerate (PyProof.Rows.callWith_type1 (thn (arg.run pos pins s σ H _ inv h) fun us s1 ⟨vs, H1, inv1, r1, a, xs, ev, hq, q⟩ => ?_) one rfl))
  subst ev
  obtain ⟨u, rfl, ru⟩ := vals1 r1
  obtain rfl : u = Value.ref a := ru
  obtain ⟨its, rv, tup, _⟩ := inv1.tuple hq
  have ha : a < s1.heap.objs.size := let ⟨_, e, _⟩ := tup; Heap.lt_size e
  refine enumT_call tup fun h' he hit hk => wpAny_pyIter_enum he ?_
  have inv2 : Inv X pins σ H1 { s1 with heap := h' } := inv1.kept (t' := s1.toks) hk
  refine ⟨s1.heap.objs.size + 1, [s1.heap.objs.size + 1, s1.heap.objs.size], _, _, H1, rfl, inv2, turnE a (s1.heap.objs.size + 1) s1.heap.objs.size xs,
    ⟨⟨.none, he⟩, hit, Nat.succ_ne_self _, Nat.ne_of_lt (Nat.lt_succ_of_lt ha), Nat.ne_of_lt ha⟩, fun b hb => ?_, q⟩
  have le : s1.heap.objs.size ≤ b := by
    rcases List.mem_cons.mp hb with rfl | hb
    · exact Nat.le_succ _
    · rw [List.mem_singleton.mp hb]; exact Nat.le_refl _
  exact inv1.fpOk le (inv1.hok.fresh le)
/-- the loop over it: Pv by the turn -/
theorem for_enumT {K : PySem.W.Frag} {a : Addr} {xs : List V} {g : TG} {tb : TS} {D : Ends} {σ : L2.St} {H : Hp} (Pv : Nat → L2.St → Hp → Prop) (h0 : Pv 0 σ H) (hl : ∀ i σ H, i ≤ xs.length → Pv i σ H → SqT K H a xs)
    (hs : ∀ i x T σ H, xs[i]? = some x → H T = none → Pv i σ H → g (.ref T) σ (upd H T (.tup [.int (i : Nat), x])) fun σ2 H2 => tb { D with nx := Pv (i + 1), ct := Pv (i + 1), bk := D.nx } σ2 H2) (hd : ∀ σ H, Pv xs.length σ H → D.nx σ H) :
    ∃ W : Nat → Nat → L2.St → Hp → Prop, (∃ m, W 0 m σ H) ∧ ∀ i m σ H, W i m σ H →
      ((ItE K a xs).stop i H ∧ D.nx σ H) ∨ ((ItE K a xs).go i H ∧ ∃ N : L2.St → Hp → Prop, (∀ σ' H', N σ' H' → ∃ m', m' < m ∧ W (i + 1) m' σ' H') ∧ ∀ x H', (ItE K a xs).yld i H x H' → g x σ H' fun σ2 H2 => tb { D with nx := N, ct := N, bk := D.nx } σ2 H2) := by
  refine ⟨fun i m σ H => m = xs.length - i ∧ i ≤ xs.length ∧ Pv i σ H, ⟨xs.length, by simp, Nat.zero_le _, h0⟩, ?_⟩
  rintro i m σ H ⟨rfl, hi, p⟩
  have q := hl i σ H hi p
  rcases Nat.lt_or_eq_of_le hi with lt | rfl
  · refine .inr ⟨⟨q, lt⟩, Pv (i + 1), fun σ' H' p' => ⟨xs.length - (i + 1), by omega, rfl, lt, p'⟩, ?_⟩
    rintro x H' ⟨T, y, rfl, hT, rfl, hy⟩
    exact hs i y T σ H hy hT p
  · exact .inl ⟨⟨q, rfl⟩, hd σ H p⟩

/-! ### sorted(xs), xs a list of data: some other order of xs, always the same one -/
section
variable {β : Type}
theorem each_of_pd {α : Type} {R : α → β → Prop} : ∀ {xs : List α} {ys : List β}, Paired R xs ys → PySem.W.EachIs R xs ys
  | _, _, .nil => .nil
  | _, _, .cons a t => .cons a (each_of_pd t)
theorem pd_vals {T : V → β → Prop} : ∀ {us : List Value} {xs : List V} {bs : List β}, Vals xs us → Paired T xs bs → PySem.W.EachIs (fun u b => ∃ y, RelV y u ∧ T y b) us bs
  | _, _, _, .nil, .nil => .nil
  | _, _, _, .cons r rs, .cons t ts => .cons ⟨_, r, t⟩ (pd_vals rs ts)
theorem vals_pd {T : V → β → Prop} : ∀ {us : List Value} {bs : List β}, PySem.W.EachIs (fun u b => ∃ y, RelV y u ∧ T y b) us bs → ∃ ys, Vals ys us ∧ Paired T ys bs
  | _, _, .nil => ⟨[], .nil, .nil⟩
  | _, _, .cons ⟨y, r, t⟩ rest => by
    obtain ⟨ys, a, b⟩ := vals_pd rest
    exact ⟨y :: ys, .cons r a, .cons t b⟩
def rSortD (K : PySem.W.Frag) (T : Hp → V → β → Prop) (enc : β → PyData) : List V → Hp → VK → Prop := fun vs H Q => ∃ (a : Addr) (xs : List V) (bs : List β), vs = [.ref a] ∧ SqL K H a xs ∧ Paired (T H) xs bs ∧ (∀ v b, T H v b → Dp K H v (enc b)) ∧
  ∀ ys p, H p = none → Paired (T H) ys (bs.mergeSort (PySem.W.dataLe false enc)) → Q (.ref p) (upd H p (.lst ys))
theorem cr_sortD {X : Cx} {T : Hp → V → β → Prop} {enc : β → PyData} (al : ∀ b b', PySem.W.alike (enc b) (enc b') = true) (tp : ∀ b, ∃ x r, enc b = .tuple (x :: r)) (dep : ∀ b, (enc b).depth ≤ 8) (room : X.A.units + 64 < cLine) :
    CallR X (.builtin "sorted") (rSortD X.K T enc) := by
  rintro pins s σ H vs us Q inv r ⟨a, xs, bs, rfl, hl, hp, dp, q⟩
  obtain ⟨u, rfl, ru⟩ := vals1 r
  obtain rfl : u = Value.ref a := ru
  obtain ⟨its, rv, pl, hz⟩ := inv.list hl
  have e1 := pd_vals rv hp
  have e2 : PySem.W.EachIs (fun v b => ∃ as, Reads s.heap v (enc b) as) its bs := e1.mono fun v b ⟨y, ry, t⟩ => Dp.reads inv (enc b) y v (dp y b t) ry
  refine PySem.W.sorted_data (R := fun u b => ∃ y, RelV y u ∧ T H y b) pl.isList e1 e2 (PySem.W.AllAlike.of al) (PySem.W.Sortable.tuples tp) (by rw [← pd_len hp]; exact hz) (fun b _ => by have := dep b; omega) fun out ho eo => ?_
  obtain ⟨ys, ry, py⟩ := vals_pd eo
  obtain ⟨n, at1⟩ := sortedAll_at s.heap its (List.toArray out)
  refine ⟨.ref (s.heap.objs.size + 1), _, ?_, rfl, q ys _ (inv.hok.fresh (Nat.le_succ _)) py⟩
  refine inv.laid (a := s.heap.objs.size + 1) (o := .lst ys) (t' := s.toks) (fun b o e => sortedAll_old e) (Nat.le_succ _) ?_
  refine ⟨?_, out, n, ry, at1⟩
  have l1 := ry.length
  have l2 := pd_len hp
  omega
end
end Rt
end
section
set_option Elab.async false
set_option linter.all false
set_option maxRecDepth 100000
set_option maxHeartbeats 4000000
/-! Dicts whose keys are counts (tuples of tuples): made, read, walked, setdefault, held against {}. -/
namespace Rt
open PySem PySem.Spec PyProof.Rows L2

/-! ### the key of counts -/
def nkS (st : St3) : NestedKey := .tup [.num (st.1 : Nat), .num (st.2.1 : Nat), .num (st.2.2 : Nat)]
def nkE (x : St3 × Nat) : NestedKey := .tup [nkS x.1, .num (x.2 : Nat)]
def nk (c : Cnt) : NestedKey := .tup (c.map nkE)
theorem nkS_inj {a b : St3} (h : nkS a = nkS b) : a = b := by
  obtain ⟨a1, a2, a3⟩ := a
  obtain ⟨b1, b2, b3⟩ := b
  unfold nkS at h
  simp only [NestedKey.tup.injEq, List.cons.injEq, NestedKey.num.injEq, and_true] at h
  obtain ⟨h1, h2, h3⟩ := h
  simp only [Prod.mk.injEq]
  omega
theorem nkE_inj {a b : St3 × Nat} (h : nkE a = nkE b) : a = b := by
  obtain ⟨a1, a2⟩ := a
  obtain ⟨b1, b2⟩ := b
  unfold nkE at h
  simp only [NestedKey.tup.injEq, List.cons.injEq, NestedKey.num.injEq, and_true] at h
  have e := nkS_inj h.1
  have e2 : a2 = b2 := by omega
  rw [e, e2]
theorem nk_map_inj : ∀ {c d : Cnt}, c.map nkE = d.map nkE → c = d
  | [], [], _ => rfl
  | [], _ :: _, h => by simp at h
  | _ :: _, [], h => by simp at h
  | x :: c, y :: d, h => by
    simp only [List.map_cons, List.cons.injEq] at h
    rw [nkE_inj h.1, nk_map_inj h.2]
theorem nk_inj {c d : Cnt} (h : nk c = nk d) : c = d := nk_map_inj (NestedKey.tup.inj h)
theorem nkE_depth (x : St3 × Nat) : (nkE x).depth = 2 := by simp [nkE, nkS, NestedKey.depth, NestedKey.depthAll]
theorem nk_depthAll : ∀ c : Cnt, NestedKey.depthAll (c.map nkE) ≤ 2
  | [] => by simp [NestedKey.depthAll]
  | x :: c => by
    have := nk_depthAll c
    rw [List.map_cons, NestedKey.depthAll, nkE_depth]
    omega
theorem nk_depth (c : Cnt) : (nk c).depth ≤ 8 := by
  have := nk_depthAll c
  show NestedKey.depthAll (c.map nkE) + 1 ≤ 8
  omega

section
variable {P : Program} {w : World} {H : Hp} {h : Heap}
theorem tup_in (ok : HOk P w H h) {a : Addr} {xs : List V} (e : H a = some (.tup xs)) : ∃ (o : Obj) (its : List Value) (n : Nat), h.get? a = some o ∧ o.cls = .type "tuple" ∧ o.data = .seq its.toArray n ∧ Vals xs its := by
  obtain ⟨_, its, rv, o, h1, h2, n, h3⟩ := (show ObjOk P w H h a (.tup xs) from ok a _ e)
  exact ⟨o, its, n, h1, h2, h3, rv⟩
theorem is_num {i : Nat} {u : Value} (r : RelV (.int (i : Nat)) u) : NestedIs h (.num (i : Nat)) u := by
  obtain ⟨t, rfl⟩ := r
  exact .int _ t
theorem s3_is (ok : HOk P w H h) {a : Addr} {st : St3} (e : S3At H a st) : NestedIs h (nkS st) (.ref a) := by
  obtain ⟨o, its, n, h1, h2, h3, rv⟩ := tup_in ok e
  refine .tup h1 h2 h3 ?_
  rw [List.toList_toArray]
  cases rv with
  | cons r1 rv =>
    cases rv with
    | cons r2 rv =>
      cases rv with
      | cons r3 rv =>
        cases rv
        exact .cons (is_num r1) (.cons (is_num r2) (.cons (is_num r3) .nil))
theorem ent_is (ok : HOk P w H h) {v : V} {x : St3 × Nat} {u : Value} (e : EntAt H v x) (r : RelV v u) : NestedIs h (nkE x) u := by
  obtain ⟨p, q, rfl, h1, h2⟩ := e
  obtain rfl : u = Value.ref p := r
  obtain ⟨o, its, n, g1, g2, g3, rv⟩ := tup_in ok h1
  refine .tup g1 g2 g3 ?_
  rw [List.toList_toArray]
  cases rv with
  | cons r1 rv =>
    cases rv with
    | cons r2 rv =>
      cases rv
      cases r1
      exact .cons (s3_is ok h2) (.cons (is_num r2) .nil)
theorem ents_are (ok : HOk P w H h) : ∀ {vs : List V} {c : Cnt} {us : List Value}, Paired (EntAt H) vs c → Vals vs us → NestedAll h (c.map nkE) us
  | _, _, _, .nil, .nil => .nil
  | _, _, _, .cons e t, .cons r rs => .cons (ent_is ok e r) (ents_are ok t rs)
theorem cnt_key (ok : HOk P w H h) {a : Addr} {c : Cnt} (e : CntAt H a c) : (nestedKind P w).is h (nk c) a := by
  obtain ⟨vs, h1, h2⟩ := e
  obtain ⟨o, its, n, g1, g2, g3, rv⟩ := tup_in ok h1
  refine ⟨.tup g1 g2 g3 ?_, nk_depth c⟩
  rw [List.toList_toArray]
  exact ents_are ok h2 rv
end

/-! ### the dict: its entries, where their keys stand, where their values stand -/
abbrev DEnt := Cnt × Addr × Addr
def full (e : DEnt) : NestedKey × Addr × Value := (nk e.1, e.2.1, .ref e.2.2)
def dnP (P : Program) (w : World) (d : Addr) (L : List DEnt) : Heap → Prop := fun h => L.length ≤ sizeLine ∧ (d == sysModules) = false ∧
  ∃ o es ep, h.get? d = some o ∧ o.ExactDict ∧ o.data = .dict es ep ∧ es.toList = (L.map full).map (entryOfKey (nestedKind P w)) ∧ (L.map (·.1)).Nodup
def dnO (P : Program) (w : World) (d : Addr) (L : List DEnt) : HO := .ext (dnP P w d L)
def Keys (H : Hp) (L : List DEnt) : Prop := ∀ e, e ∈ L → CntAt H e.2.1 e.1
section
variable {P : Program} {w : World} {H : Hp} {h : Heap} {d : Addr} {L : List DEnt}
theorem dn_ok (x : dnP P w d L h) : ObjOk P w H h d (dnO P w d L) := by
  refine ⟨x, ?_, fun h1 h2 x1 k => ?_⟩
  · obtain ⟨_, _, o, _, _, e, _⟩ := x
    exact ⟨o, e⟩
  · obtain ⟨z, y, o, es, ep, e, r⟩ := x1
    exact ⟨z, y, o, es, ep, k o e, r⟩
theorem dn_rd (ok : HOk P w H h) (e : Rd H d (dnO P w d L)) : dnP P w d L h := (e.ok ok).1
theorem nd_full (hn : (L.map (·.1)).Nodup) : ((L.map full).map (·.1)).Nodup := by
  rw [List.map_map]
  have e : L.map ((·.1) ∘ full) = (L.map (·.1)).map nk := by rw [List.map_map]; rfl
  rw [e]
  exact List.pairwise_map.mpr (hn.imp fun hab z => hab (nk_inj z))
theorem dn_H (ok : HOk P w H h) (e : Rd H d (dnO P w d L)) (ks : Keys H L) : L.length ≤ sizeLine ∧ (d == sysModules) = false ∧ h.DictOfH (nestedKind P w) d (L.map full) := by
  obtain ⟨z, y, o, es, ep, h1, h2, h3, h4, h5⟩ := dn_rd ok e
  refine ⟨z, y, o, es, ep, h1, h2, h3, h4, fun x hx => ?_, nd_full h5⟩
  obtain ⟨e', he, rfl⟩ := List.mem_map.mp hx
  exact cnt_key ok (ks e' he)
theorem at_full (c : Cnt) : ∀ L : List DEnt, atKey (L.map full) (nk c) = (L.find? fun e => decide (e.1 = c)).map fun e => (e.2.1, Value.ref e.2.2)
  | [] => rfl
  | e :: L => by
    have ih := at_full c L
    unfold atKey at ih ⊢
    rw [List.map_cons, List.find?_cons, List.find?_cons]
    by_cases q : e.1 = c
    · have q1 : decide ((full e).1 = nk c) = true := decide_eq_true (by rw [← q]; rfl)
      rw [q1, decide_eq_true q]
      rfl
    · have q1 : decide ((full e).1 = nk c) = false := decide_eq_false fun z => q (nk_inj z)
      rw [q1, decide_eq_false q]
      exact ih
theorem dn_room {A : Around} (room : A.units + 64 < cLine) : (nestedKind P w).room A.in1 := by
  show A.units + 1 + 8 < cLine
  omega
end

section
variable {X : Cx}
/-- {} -/
def tDNew (P : Program) (w : World) : TE := fun _ H Q => ∀ p, H p = none → Q (.ref p) (upd H p (dnO P w p []))
theorem dn_empty {P : Program} {w : World} (h : Heap) (hb : sysModules < h.objs.size) : dnP P w h.objs.size [] (h.push { cls := .type "dict", data := .dict #[] }) :=
  ⟨Nat.zero_le _, beq_eq_false_iff_ne.mpr (Ne.symm (Nat.ne_of_lt hb)), _, #[], 0, Heap.get?_push_size _ rfl, ⟨rfl, rfl, rfl⟩, rfl, rfl, List.nodup_nil⟩
theorem dn_laid {pins : List (Addr × Obj)} {σ : L2.St} {H : Hp} {s : Shared} (inv : Inv X pins σ H s) :
    Inv X pins σ (upd H s.heap.objs.size (dnO X.prog X.w s.heap.objs.size [])) { s with heap := s.heap.push { cls := .type "dict", data := .dict #[] } } :=
  inv.laid (t' := s.toks) (fun _ _ e => Heap.get?_push_of_some _ e) (Nat.le_refl _) (dn_ok (dn_empty s.heap inv.big))
theorem pe_dnewN {pos : PySem.Pos} : PE X (.Dict [] [] pos) (tDNew X.prog X.w) :=
  ⟨fun pins s σ H Q inv h => wpAny_Dict_empty ⟨.ref s.heap.objs.size, _, dn_laid inv, rfl, h _ (inv.hok.fresh (Nat.le_refl _))⟩⟩

/-- {k: v}, k counts, v an object -/
def tDOne (P : Program) (w : World) (trs : List (TE × TE)) : TE := fun σ H Q => ∀ d, H d = none → tPairs trs σ (upd H d (dnO P w d [])) fun ps H2 => H2 d = some (dnO P w d []) ∧
  ∃ a c v, ps = [(.ref a, .ref v)] ∧ CntAt H2 a c ∧ Q (.ref d) (upd H2 d (dnO P w d [(c, a, v)]))
theorem pe_dOne {pos : PySem.Pos} {k v : Expr} {trs : List (TE × TE)} (room : X.A.units + 64 < cLine) (pp : PPs X pos [some k] [v] trs) : PE X (.Dict [some k] [v] pos) (tDOne X.prog X.w trs) := by
  refine ⟨fun pins s σ H Q inv h => ?_⟩
  have hr : (nestedKind X.prog X.w).room X.A := by
    show X.A.units + 8 < cLine
    omega
  have hz : pairTrees [some k] [v] X.env pos ≠ [] := fun e => nomatch e
  have hn := inv.hok.fresh (Nat.le_refl s.heap.objs.size)
  rw [arm_eval_Dict, zip_pairTrees [some k] [v] X.env pos rfl rfl, dictDisplay_pairs _ hz (by show 1 < 17; decide)]
  refine wpAny_bind (wpAny_standAt (wpAny_bind (wpAny_subDictH (knd := nestedKind X.prog X.w) hr (by show 1 ≤ 15; decide) ?_)))
  refine thn (pp.run pins _ σ _ _ (dn_laid inv) (h _ hn)) fun ws s2 ⟨ps, H2, inv2, rel, e, a, c, u, ep, hc, q⟩ => ?_
  subst ep
  obtain ⟨⟨b1, b2⟩, rfl, r1, r2⟩ := pd_single rel
  obtain rfl : b1 = Value.ref a := r1
  obtain rfl : b2 = Value.ref u := r2
  obtain ⟨z, y, dd⟩ := dn_H inv2.hok (Rd.of e) (L := []) fun _ hx => nomatch hx
  refine ⟨[(nk c, a, .ref u)], ⟨rfl, rfl, cnt_key inv2.hok hc, trivial⟩, dd, fun h' tk dd' sb => ?_⟩
  obtain ⟨o, es, ep, h1, h2, h3, h4, _, _⟩ := dd'
  refine wpAny_pure ⟨.ref s.heap.objs.size, _, ?_, rfl, q⟩
  exact d_write (I := inv2) (t' := tk) (by rw [e]; exact True.intro) sb ⟨o, h1⟩ (dn_ok ⟨by show 1 ≤ sizeLine; decide, y, o, es, ep, h1, h2, h3, h4, by simp⟩)

/-! ### d[k] -/
def tDGetN (P : Program) (w : World) (td ty : TE) : TE := fun σ H Q => td σ H fun x H1 => ty σ H1 fun y H2 => ∃ d L a c e, x = .ref d ∧ Rd H2 d (dnO P w d L) ∧ Keys H2 L ∧ y = .ref a ∧ CntAt H2 a c ∧
  L.find? (fun e => decide (e.1 = c)) = some e ∧ Q (.ref e.2.2) H2
theorem pe_dgetN {o i : Expr} {pos : PySem.Pos} {td ty : TE} (room : X.A.units + 64 < cLine) (ho : PE X o td) (hi : PE X i ty) (plain : NoSl i) : PE X (.Subscript o i pos) (tDGetN X.prog X.w td ty) := by
  refine ⟨fun pins s σ H Q inv h => ?_⟩
  refine subD_of PySem.F.slot_dict_getitem.lookup plain (thn (ho.run pins s σ H _ inv h) fun u s1 ⟨x, H1, inv1, rx, q1⟩ => thn (hi.run pins s1 σ H1 _ inv1 q1) fun iv s2 ⟨y, H2, inv2, ry, d, L, a, c, e, ex, rd, ks, ey, hc, hf, q2⟩ => ?_)
  subst ex ey
  obtain rfl : u = Value.ref d := rx
  obtain rfl : iv = Value.ref a := ry
  obtain ⟨_, _, dd⟩ := dn_H inv2.hok rd ks
  refine ⟨dd.typeIs, wpAny_getItem_heap (p := (e.2.1, .ref e.2.2)) (dn_room room) (cnt_key inv2.hok hc) dd (by rw [at_full, hf]; rfl) ⟨.ref e.2.2, H2, inv2.tok _, rfl, q2⟩⟩

/-! ### d.setdefault(k, v) as a statement's value -/
def tSetd (P : Program) (w : World) (td ty tx : TE) : TE := fun σ H Q => td σ H fun x H1 => ∃ d L0, x = .ref d ∧ H1 d = some (dnO P w d L0) ∧ ty σ H1 fun y H2 => tx σ H2 fun z H3 => ∃ L a c v, H3 d = some (dnO P w d L) ∧ Keys H3 L ∧
  y = .ref a ∧ CntAt H3 a c ∧ z = .ref v ∧ L.length < sizeLine ∧ (∀ e, L.find? (fun e => decide (e.1 = c)) = some e → Q (.ref e.2.2) H3) ∧ (L.find? (fun e => decide (e.1 = c)) = none → Q (.ref v) (upd H3 d (dnO P w d (L ++ [(c, a, v)]))))
theorem pe_setd {o e f : Expr} {apos cpos : PySem.Pos} {td ty tx : TE} (room : X.A.units + 64 < cLine) (ho : PE X o td) (he : PE X e ty) (hf : PE X f tx) (m : M2 X o "setdefault" apos e f cpos) : PE X (.Call (.Attribute o "setdefault" apos) [e, f] [] cpos) (tSetd X.prog X.w td ty tx) := by
  refine ⟨fun pins s σ H Q inv h => ?_⟩
  refine wpAny_Call_method m.base m.few m.line PySem.F.plainAttrs_dict PySem.F.slot_dict_setdefault PySem.F.type_dict_setdefault (thn (ho.run pins s σ H _ inv h) fun u s1 ⟨x, H1, inv1, rx, d, L0, ex, hd0, q1⟩ => ?_)
  subst ex
  obtain rfl : u = Value.ref d := rx
  obtain ⟨_, _, o1, _, _, e1, x1, _⟩ := dn_rd inv1.hok (Rd.of hd0)
  refine ⟨⟨o1, e1, x1.1⟩, fun b eb => ?_, ?_⟩
  · cases eb
    exact ⟨o1, e1, x1.2.1⟩
  · rw [m.trees]
    refine Calls.callWith_builtin rfl (Calls.evalArgs_plain (Calls.spliced_cons (thn (he.run pins s1 σ H1 _ inv1 q1) fun iv s2 ⟨y, H2, inv2, ry, q2⟩ =>
      Calls.spliced_cons (thn (hf.run pins s2 σ H2 _ inv2 q2) fun fv s3 ⟨z, H3, inv3, rz, L, a, c, v, hd, ks, ey, hc, ez, hz, old, new⟩ => Calls.spliced_nil ?_))))
    subst ey ez
    obtain rfl : iv = Value.ref a := ry
    obtain rfl : fv = Value.ref v := rz
    obtain ⟨_, y, dd⟩ := dn_H inv3.hok (Rd.of hd) ks
    refine call_setdefault_heap (hsz := by rw [List.length_map]; exact Nat.le_of_lt hz) (dn_room room) (cnt_key inv3.hok hc) y dd (fun p hp => ?_) fun hp h' dd' sb => ?_
    · rw [at_full] at hp
      cases q : L.find? (fun e => decide (e.1 = c)) with
      | none => rw [q] at hp; cases hp
      | some e0 =>
        rw [q] at hp
        have ep : (e0.2.1, Value.ref e0.2.2) = p := Option.some.inj hp
        subst ep
        exact ⟨.ref e0.2.2, H3, inv3.tok _, rfl, old e0 q⟩
    · have hp' := hp
      rw [at_full] at hp'
      cases q : L.find? (fun e => decide (e.1 = c)) with
      | some e0 => rw [q] at hp'; cases hp'
      | none =>
        rw [storedH_new hp] at dd'
        obtain ⟨o2, es, ep, h1, h2, h3, h4, _, h5⟩ := dd'
        refine ⟨.ref v, _, ?_, rfl, new q⟩
        have el : (L ++ [(c, a, v)]).map full = L.map full ++ [(nk c, a, Value.ref v)] := by rw [List.map_append]; rfl
        refine d_write (I := inv3) (by rw [hd]; exact True.intro) sb ⟨o2, h1⟩ (dn_ok ⟨by rw [List.length_append]; exact hz, y, o2, es, ep, h1, h2, h3, by rw [el]; exact h4, ?_⟩)
        rw [← el, List.map_map] at h5
        have e5 : (L ++ [(c, a, v)]).map ((·.1) ∘ full) = ((L ++ [(c, a, v)]).map (·.1)).map nk := by rw [List.map_map]; rfl
        rw [e5] at h5
        exact (List.pairwise_map.mp h5).imp fun hab z => hab (congrArg nk z)
end
end Rt
end
section
set_option Elab.async false
set_option linter.all false
set_option maxRecDepth 100000
set_option maxHeartbeats 4000000
/-! A dict with counts as keys: walked while it is locked; held against the empty dict. -/
namespace Rt
open PySem PySem.Spec PyProof.Rows L2

section
variable {P : Program} {w : World}
/-- the keys of the locked dict at d -/
def ItN (P : Program) (w : World) (d : Addr) (o : Obj) (L : List DEnt) : It :=
  ⟨fun i H => H d = some (.frz o (dnO P w d L)) ∧ i < L.length, fun i H x H' => H' = H ∧ ∃ e, L[i]? = some e ∧ x = .ref e.2.1, fun i H => H d = some (.frz o (dnO P w d L)) ∧ L.length ≤ i⟩
theorem frzN {X : Cx} {pins : List (Addr × Obj)} {σ : L2.St} {H : Hp} {s : Shared} {d : Addr} {o : Obj} {L : List DEnt} (inv : Inv X pins σ H s) (h : H d = some (.frz o (dnO X.prog X.w d L))) :
    (d == sysModules) = false ∧ s.heap.get? d = some o ∧ o.ExactDict ∧ ∃ (es : Array DictEntry) (ep : Nat), o.data = .dict es ep ∧ es.size = L.length ∧ ∀ (i : Nat) (e : DEnt), L[i]? = some e → ∃ en : DictEntry, es[i]? = some en ∧ en.key = .ref e.2.1 := by
  obtain ⟨h1, ⟨_, y, o', es, ep, h2, h3, h4, h5, _⟩, _⟩ := inv.hok d _ h
  rw [h1] at h2
  cases h2
  refine ⟨y, h1, h3, es, ep, h4, ?_, fun i e he => ?_⟩
  · rw [size_of_entries h5, List.length_map]
  · have q := entry_at h5 i
    rw [List.getElem?_map, he] at q
    exact ⟨_, q, rfl⟩
theorem turnN {K : PySem.W.Frag} {tg : Expr} {d : Addr} {o : Obj} {es : Array DictEntry} {ep : Nat} {L : List DEnt} (it : Addr) (hod : o.data = .dict es ep) : Turn P w K tg (ItN P w d o L) [it] it (fun i h => h.IsKeyIter it d i L.length ep) where
  mem := List.mem_cons_self ..
  obj := by
    rintro i h ⟨oi, e, _, dd⟩ b hb
    rw [List.mem_singleton.mp hb]
    exact ⟨oi, e, fun v z => by rw [dd] at z; cases z⟩
  keep := fun i h h' st k => st.at fun oi e => k it (List.mem_cons_self ..) oi e
  item := by
    rintro X rfl rfl rfl calm i pins s σ H E inv free st ⟨hd, hi⟩
    obtain ⟨f0, f1, _, f3, f4, f5⟩ := free it (List.mem_cons_self ..)
    obtain ⟨_, hg, _, es', ep', hdt, hz, ent⟩ := frzN inv hd
    obtain ⟨rfl, rfl⟩ := dict_ep hod hdt
    have he : L[i]? = some L[i] := List.getElem?_eq_getElem hi
    obtain ⟨en, hen, hkey⟩ := ent i _ he
    refine next_key_item st hg hdt hz hen fun h' st' sb => ?_
    have inv1 : Inv X pins σ H { s with heap := h' } := inv.turned (t' := s.toks) (fun b ob hb e => (sb.2 b hb).trans e) f0 f1 f3 f4 f5
    obtain ⟨oi, e1, c1, d1⟩ := id st'
    exact ⟨en.key, rfl, go_of (s := { s with heap := h' }) e1 c1 d1 (by decide) ⟨.ref (L[i]).2.1, H, inv1, hkey, ⟨rfl, _, he, rfl⟩, st', fun b hb => (free b hb).1⟩⟩
  done := by
    rintro X rfl rfl rfl calm i pins s σ H E inv free st ⟨hd, hi⟩
    obtain ⟨f0, f1, _, f3, f4, f5⟩ := free it (List.mem_cons_self ..)
    obtain ⟨_, hg, _, es', ep', hdt, hz, _⟩ := frzN inv hd
    obtain ⟨rfl, rfl⟩ := dict_ep hod hdt
    exact next_key_end (inv.ok.hd calm) st hg hdt hz hi fun h' eb => ⟨rfl, inv.turned (t' := s.toks) (fun b ob hb e => eb b ob hb e) f0 f1 f3 f4 f5⟩
  self := fun A i s Q E st h => wpAny_pyIter_keyiter st h
def iKeysN (P : Program) (w : World) (td : TE) : TI := fun σ H R => td σ H fun x H1 => ∃ d o L, x = .ref d ∧ H1 d = some (.frz o (dnO P w d L)) ∧ R (ItN P w d o L) H1
theorem pi_keysN {X : Cx} {tg e : Expr} {td : TE} (he : PE X e td) : PI X tg e (iKeysN X.prog X.w td) := by
  refine ⟨fun pins s σ H R inv h => ?_⟩
  refine thn (he.run pins s σ H _ inv h) fun u s1 ⟨x, H1, inv1, rx, d, o, L, ex, hd, q⟩ => ?_
  subst ex
  obtain rfl : u = Value.ref d := rx
  obtain ⟨y, hg, hx, es, ep, hdt, hz, _⟩ := frzN inv1 hd
  refine iter_keys y hg hx hdt (pi_one (tk := s1.toks) inv1 _ (turnN _ hdt) ⟨_, Heap.get?_push_size _ rfl, rfl, ?_⟩ q)
  rw [hz]
  rfl
theorem walkN {d : Addr} {o : Obj} {L : List DEnt} : Walk (ItN P w d o L) L.length (fun H => H d = some (.frz o (dnO P w d L))) (fun i H x H' => H' = H ∧ ∃ e, L[i]? = some e ∧ x = .ref e.2.1) :=
  ⟨fun _ _ hi q => ⟨q, hi⟩, fun _ q => ⟨q, Nat.le_refl _⟩, fun _ _ _ _ _ _ y => y⟩
end

/-! ### d != {} -/
theorem ne_empty {prog : Program} {w : World} {A : Around} {E : Value → Shared → Prop} {s : Shared} {a b : Addr} {es : Array DictEntry} {ep ep' : Nat} {Q : Value → Shared → Prop} (ha : (a == sysModules) = false) (hb : (b == sysModules) = false)
    (da : s.heap.DictRaw a es ep) (db : s.heap.DictRaw b #[] ep') (room : A.units < cLine) (h : Q (.bool (!(es.size == 0))) s) : wpAny (model prog w) A (compareOp .NotEq (.ref a) (.ref b)) Q E s := by
  refine wpAny_richCompare_same_room (op := .NotEq) da.typeIs db.typeIs PySem.F.slot_dict_ne (wpAny_call_entry PySem.F.slot_dict_ne da.typeIs PySem.F.entry_dict_ne ?_ (PySem.F.args_dict_ne_2 _ _)) room
  show wpAny _ _ (Builtin.Dict.dictSlotArgs "__ne__" ⟨[.ref a, .ref b], []⟩ >>= _) _ _ s
  unfold Builtin.Dict.dictSlotArgs
  refine wpAny_bind (wpAny_bind (wpAny_notOrdered_dict da.typeIs ?_))
  show wpAny _ _ (pure (Value.ref a, Value.ref b)) _ _ s
  refine wpAny_pure (wpAny_bind (wpAny_isInstance (T := "dict") db.typeIs PySem.F.sub_dict_dict ?_))
  simp only [Bool.not_true, Bool.false_eq_true, if_false]
  refine wpAny_bind (wpAny_pure (wpAny_bind (wpAny_pure (wpAny_bind ?_))))
  obtain ⟨oa, ga, _, ta⟩ := da
  obtain ⟨ob, gb, _, tb⟩ := db
  unfold Builtin.Dict.samePairs Builtin.Dict.showsAll
  rw [if_neg (show ¬ (a == sysModules) = true by rw [ha]; exact Bool.false_ne_true), if_neg (show ¬ (b == sysModules) = true by rw [hb]; exact Bool.false_ne_true)]
  refine wpAny_bind (wpAny_pure (wpAny_bind (wpAny_pure (wpAny_bind (wpAny_dictEntries ga ta ?_)))))
  dsimp only
  refine wpAny_bind (wpAny_dictEntries gb tb ?_)
  by_cases z : es.size = 0
  · rw [z] at h
    rw [if_neg (by rw [z]; decide)]
    refine wpAny_bind (wpAny_dictEpoch ga ta (wpAny_bind ?_))
    rw [Std.Legacy.Range.forIn_eq_forIn_range', z]
    show wpAny _ _ (forIn (List.range' 0 0 1) _ _) _ _ s
    refine wpAny_pure (wpAny_pure ?_)
    exact wpAny_pure ⟨_, rfl, (fun x => nomatch x), h⟩
  · have z1 : (es.size == 0) = false := beq_eq_false_iff_ne.mpr z
    rw [z1] at h
    rw [if_pos (by simp [z])]
    refine wpAny_bind (wpAny_rule (wpAny_pure ?_))
    exact wpAny_pure ⟨_, rfl, (fun x => nomatch x), h⟩
def rNeE (P : Program) (w : World) : R2 := fun x y H Q => ∃ d e L, x = .ref d ∧ y = .ref e ∧ Rd H d (dnO P w d L) ∧ H e = some (dnO P w e []) ∧ Q (.bl (!decide (L = []))) H
theorem op_neE {X : Cx} (room : X.A.units + 64 < cLine) : OpR X (compareOp .NotEq) (rNeE X.prog X.w) := by
  rintro pins s σ H x y v u Q inv rx ry ⟨d, e, L, rfl, rfl, hd, he, q⟩
  obtain rfl : v = Value.ref d := rx
  obtain rfl : u = Value.ref e := ry
  obtain ⟨_, y1, o1, es, ep, g1, x1, t1, h1, _⟩ := dn_rd inv.hok hd
  obtain ⟨_, y2, o2, es2, ep2, g2, x2, t2, h2, _⟩ := dn_rd inv.hok (Rd.of he)
  have e2 : es2 = #[] := by
    have : es2.size = 0 := size_of_entries h2
    exact Array.eq_empty_of_size_eq_zero this
  subst e2
  have e1 : es.size = L.length := by rw [size_of_entries h1, List.length_map]
  refine ne_empty y1 y2 ⟨o1, g1, x1, t1⟩ ⟨o2, g2, x2, t2⟩ (by omega) ⟨.bl (!decide (L = [])), H, inv, ?_, q⟩
  show Value.bool _ = Value.bool _
  rw [e1]
  cases L with
  | nil => rfl
  | cons z zs => rfl

/-! ### the same rules, the program and the world by name -/
section
variable {X : Cx} (P : Program) (w : World)
theorem newAt {pos : PySem.Pos} (hP : X.prog = P := by rfl) (hw : X.w = w := by rfl) : PE X (.Dict [] [] pos) (tDNew P w) := by
  subst hP hw
  exact pe_dnewN
theorem oneAt {pos : PySem.Pos} {k v : Expr} {trs : List (TE × TE)} (room : X.A.units + 64 < cLine) (pp : PPs X pos [some k] [v] trs) (hP : X.prog = P := by rfl) (hw : X.w = w := by rfl) : PE X (.Dict [some k] [v] pos) (tDOne P w trs) := by
  subst hP hw
  exact pe_dOne room pp
theorem getAt {o i : Expr} {pos : PySem.Pos} {td ty : TE} (room : X.A.units + 64 < cLine) (ho : PE X o td) (hi : PE X i ty) (plain : NoSl i) (hP : X.prog = P := by rfl) (hw : X.w = w := by rfl) : PE X (.Subscript o i pos) (tDGetN P w td ty) := by
  subst hP hw
  exact pe_dgetN room ho hi plain
theorem setdAt {o e f : Expr} {apos cpos : PySem.Pos} {td ty tx : TE} (room : X.A.units + 64 < cLine) (ho : PE X o td) (he : PE X e ty) (hf : PE X f tx) (m : M2 X o "setdefault" apos e f cpos) (hP : X.prog = P := by rfl) (hw : X.w = w := by rfl) :
    PE X (.Call (.Attribute o "setdefault" apos) [e, f] [] cpos) (tSetd P w td ty tx) := by
  subst hP hw
  exact pe_setd room ho he hf m
theorem keysAt {tg e : Expr} {td : TE} (he : PE X e td) (hP : X.prog = P := by rfl) (hw : X.w = w := by rfl) : PI X tg e (iKeysN P w td) := by
  subst hP hw
  exact pi_keysN he
theorem neAt (room : X.A.units + 64 < cLine) (hP : X.prog = P := by rfl) (hw : X.w = w := by rfl) : OpR X (compareOp .NotEq) (rNeE P w) := by
  subst hP hw
  exact op_neE room
end
end Rt
end
section
set_option Elab.async false
set_option linter.all false
set_option maxRecDepth 100000
set_option maxHeartbeats 4000000
/-! The walks of fits, behind, moves_of. -/
namespace Rt
open PySem L2

def top (i : Nat) : Stmt := PySem.Challenge.pw_lilt_k82_whole_read_twice.main.body.getD i (.Pass ⟨0, 0, 0, 0⟩)
abbrev sFits : Stmt := top 1
abbrev sBehind : Stmt := top 2
abbrev sMoves : Stmt := top 3
abbrev sCounted : Stmt := top 6
abbrev sRead : Stmt := top 7
abbrev sCell : Stmt := top 9
abbrev sMix : Stmt := top 10
abbrev sPattern : Stmt := top 11
abbrev sSlot : Stmt := top 12
abbrev sMetre : Stmt := top 13
abbrev sLFits : Stmt := top 14
abbrev sMany : Stmt := top 15
abbrev sSaid : Stmt := top 16
abbrev sBefore : Stmt := top 17
abbrev sIsRow : Stmt := top 18
abbrev sLaw : Stmt := top 19
/-- the built-in names are still so -/
structure Txt (mg : Str → Option Value) : Prop where
  len : mg "len" = none
  enumerate : mg "enumerate" = none
  min : mg "min" = none
  tuple : mg "tuple" = none
  sorted : mg "sorted" = none
  range : mg "range" = none
  isinstance : mg "isinstance" = none
  list : mg "list" = none
  bool : mg "bool" = none
/-- a def at f by its name -/
structure Def (K : PySem.W.Frag) (mg : Str → Option Value) (x : Str) (st : Stmt) (f : Addr) (fd : FuncData) (ps : List Str) : Prop where
  fn : Fun K x x st f fd
  mg : mg x = some (.ref f)
  binds : Binds K fd ps []

theorem at_ok {α : Type} {xs : List α} {k : Nat} {v : α} (h : xs[k]? = some v) : atI xs ((k : Nat) : Int) = some v := atI_nat h
theorem line_of {n : Nat} (h : n ≤ 1000) : n ≤ sizeLine := Nat.le_of_lt (small1000 h)

section
variable {P : Program} {w : World} {K : PySem.W.Frag} {mg : Str → Option Value} {base : Heap}
/-! ### fits -/
def spFits : Sp := fun vs H Q _ => ∃ (mk : Nat) (p : Pat) (a : Nat), vs = [.str (ch mk), .str (tx p), .int (a : Nat)] ∧ a < p.length ∧ p.length ≤ 3 ∧ Q (.bl (fitC mk p a)) H
theorem sc_fits : FnScope ["mark", "pattern", "at"] ["mark", "pattern", "at"] (defScope sFits) := ⟨rfl, rfl, rfl, by decide +kernel, rfl, by decide +kernel, by decide +kernel⟩
theorem fitC_eq {p : Pat} {a : Nat} {c : Nat} (h : p[a]? = some c) (mk : Nat) : fitC mk p a = (c == mk || c == 120) := by
  unfold fitC
  rw [h]
  rfl
theorem ok_fits {f : Addr} {fd : FuncData} (F : Fun K "fits" "fits" sFits f fd) : FnOk P w K mg base CX0 1 f fd ["mark", "pattern", "at"] spFits := by
  refine F.ok sc_fits (fun vs H Q E h => ?_) (fun cdv A outer s H vs Q E hr h => ?_)
  · obtain ⟨mk, p, a, rfl, _⟩ := h
    rfl
  · obtain ⟨mk, p, a, rfl, ha, hl, q⟩ := h
    have hp : p[a]? = some p[a] := List.getElem?_eq_getElem ha
    have hz : (tx p).length ≤ sizeLine := by rw [tx_len]; exact line_of (by omega)
    refine ⟨_, pss_one (ps_ret (pe_or (pe_cmpR op_eq (pe_ix ix_str (pv 1) (pv 2) (fun _ _ => rfl)) (pv 0) (nomark _)) (pe_one (pe_cmpR op_eq (pe_ix ix_str (pv 1) (pv 2) (fun _ _ => rfl)) pe_str (nomark _))))), ?_⟩
    refine ⟨_, rfl, _, rfl, tx p, _, p[a], rfl, rfl, hz, at_ok hp, _, rfl, rfl, _, rfl, ?_⟩
    rw [ch_of, dec_ch]
    rw [fitC_eq hp] at q
    cases e : (p[a] == mk) with
    | true =>
      rw [e] at q
      exact iteT q
    | false =>
      rw [e] at q
      refine iteF ⟨_, rfl, _, rfl, tx p, _, p[a], rfl, rfl, hz, at_ok hp, rfl, ?_⟩
      rw [ch_of]
      have ex : decide (V.str (ch p[a]) = V.str ("x" : Str)) = (p[a] == 120) := dec_ch p[a] 120
      rw [ex]
      exact q
/-! ### behind -/
def spBehind : Sp := fun vs H Q _ => ∃ (am : Addr) (m : Met) (s k a : Nat) (e : Bool), vs = [.ref am, .int (s : Nat), .int (k : Nat), .int (a : Nat), .bl e] ∧ MetAt H am m ∧ MOk m ∧ s < m.length ∧ k < (slotAt m s).1.length ∧
  ∀ l H', Same H H' → H l = none → MvsAt H' l (behindS m s k a e) → Q (.ref l) H'
theorem sc_behind : FnScope ["metre", "slot", "pattern", "at", "ends", "patterns", "cut"] ["metre", "slot", "pattern", "at", "ends"] (defScope sBehind) := ⟨rfl, rfl, rfl, by decide +kernel, rfl, by decide +kernel, by decide +kernel⟩
/-- one move, made: a list of one pair -/
theorem one_move {H : Hp} {q p l : Addr} {k s c a : Nat} (hq : H q = none) (hp : upd H q (.tup [.int (s : Nat), .int (c : Nat), .int (a : Nat)]) p = none)
    (hl : upd (upd H q (.tup [.int (s : Nat), .int (c : Nat), .int (a : Nat)])) p (.tup [.int (k : Nat), .ref q]) l = none) :
    Same H (upd (upd (upd H q (.tup [.int (s : Nat), .int (c : Nat), .int (a : Nat)])) p (.tup [.int (k : Nat), .ref q])) l (.lst [.ref p])) ∧
    MvsAt (upd (upd (upd H q (.tup [.int (s : Nat), .int (c : Nat), .int (a : Nat)])) p (.tup [.int (k : Nat), .ref q])) l (.lst [.ref p])) l [(k, (s, c, a))] := by
  have s1 := same_new (o := .tup [.int (s : Nat), .int (c : Nat), .int (a : Nat)]) hq
  have s2 := same_new (o := .tup [.int (k : Nat), .ref q]) hp
  have s3 := same_new (o := .lst [.ref p]) hl
  refine ⟨(s1.trans s2).trans s3, [.ref p], upd_same, pd_one ⟨p, q, rfl, s3 _ _ upd_same, s3 _ _ (s2 _ _ upd_same)⟩⟩
theorem Same.free' {H H' : Hp} (e : Same H H') {l : Addr} (h : H' l = none) : H l = none := Same.free e h
theorem ok_behind {f : Addr} {fd : FuncData} (F : Fun K "behind" "behind" sBehind f fd) (T : Txt mg) : FnOk P w K mg base CX0 1 f fd ["metre", "slot", "pattern", "at", "ends"] spBehind := by
  refine F.ok sc_behind (fun vs H Q E h => ?_) (fun cdv A outer s H vs Q E hr h => ?_)
  · obtain ⟨am, m, s, k, a, e, rfl, _⟩ := h
    rfl
  · obtain ⟨am, m, s, k, a, e, rfl, hm, M, hs, hk, q⟩ := h
    obtain ⟨vs, p, ps, h1, _, h3, h4, h5⟩ := met_slot hm hs
    have hz : (tx (patAt (slotAt m s).1 k)).length ≤ sizeLine := by rw [tx_len]; exact line_of (by have := (M.len hs hk).2; omega)
    refine ⟨_, pss_cons (ps_asg (pe_ix ix_tup (pv 0) (pv 1) (fun _ _ => rfl)) (pg_tup (by rfl) (pgs_cons (pg_name (i := 5) sc_behind.nd rfl (.inl rfl)) (pgs_cons (pg_name (i := 6) sc_behind.nd rfl (.inl rfl)) pgs_nil))))
      (pss_cons (ps_if (pt_cmpR op_lt (pv 3) (pe_callB call_len_str (by rfl) T.len boot_len (pa_cons (pe_ix ix_tup (pv 5) (pv 2) (fun _ _ => rfl)) pa_nil)) (nomark _))
        (pss_one (ps_ret (pe_lst (pa_cons (pe_tup (pa_cons (pv 2) (pa_cons (pe_tup (pa_cons (pv 1) (pa_cons (pv 2) (pa_cons (pv 3) pa_nil)))) pa_nil))) pa_nil)))) pss_nil)
      (pss_cons (ps_if (PW.pt (pw_and (pt_val (pv 6)) (pw_and1 (pt_not (pt_val (pv 4)))))) (pss_one (ps_ret (pe_lst pa_nil))) pss_nil)
      (pss_one (ps_ret (pe_lst (pa_cons (pe_tup (pa_cons (pv 2) (pa_cons (pe_tup (pa_cons (pe_op op_add (pv 1) pe_int) (pa_cons pe_int (pa_cons pe_int pa_nil)))) pa_nil))) pa_nil)))))), ?_⟩
    refine ⟨_, rfl, _, rfl, am, vs, _, _, rfl, rfl, SqT.of h1, at_ok h3, p, _, rfl, SqT.of h4, rfl, _, _, rfl, _, _, rfl, rfl, ?_⟩
    refine ⟨_, rfl, _, rfl, _, rfl, ps, _, _, _, rfl, rfl, SqT.of h5, at_ok (pats_get hk), tx (patAt (slotAt m s).1 k), rfl, hz, _, _, rfl, rfl, _, rfl, ?_⟩
    rw [tx_len]
    unfold behindS at q
    refine ite2 (fun hlt => ?_) (fun hge => ?_)
    · have lt : a < (patAt (slotAt m s).1 k).length := by
        have := of_decide_eq_true hlt
        omega
      rw [if_pos lt] at q
      refine ⟨_, rfl, _, rfl, _, rfl, _, rfl, by show 3 ≤ sizeLine; decide, fun z hz => ⟨by show 2 ≤ sizeLine; decide, fun y hy => ⟨by show 1 ≤ sizeLine; decide, fun l hl => ?_⟩⟩⟩
      obtain ⟨g1, g2⟩ := one_move hz hy hl
      exact q l _ g1 ((Same.free' (same_new hz) (Same.free' (same_new hy) hl))) g2
    · have nlt : ¬ a < (patAt (slotAt m s).1 k).length := fun z => hge (decide_eq_true (by omega))
      rw [if_neg nlt] at q
      have two : ∀ l, H l = none → ((slotAt m s).2 && !e) = true → Q (.ref l) (upd H l (.lst [])) := fun l hl hc => by
        rw [if_pos hc] at q
        exact q l _ (same_new hl) hl ⟨[], upd_same, .nil⟩
      have one : ((slotAt m s).2 && !e) = false → ∀ z, H z = none → ∀ y, upd H z (.tup [.int ((s + 1 : Nat)), .int ((0 : Nat)), .int ((0 : Nat))]) y = none → ∀ l, upd (upd H z (.tup [.int ((s + 1 : Nat)), .int ((0 : Nat)), .int ((0 : Nat))])) y (.tup [.int (k : Nat), .ref z]) l = none →
          Q (.ref l) (upd (upd (upd H z (.tup [.int ((s + 1 : Nat)), .int ((0 : Nat)), .int ((0 : Nat))])) y (.tup [.int (k : Nat), .ref z])) l (.lst [.ref y])) := fun hc z hz y hy l hl => by
        rw [if_neg (by rw [hc]; exact Bool.false_ne_true)] at q
        obtain ⟨g1, g2⟩ := one_move hz hy hl
        exact q l _ g1 (Same.free' (same_new hz) (Same.free' (same_new hy) hl)) g2
      refine ⟨_, rfl, _, rfl, ?_⟩
      cases hc : (slotAt m s).2 with
      | true =>
        refine iteT ⟨_, rfl, _, rfl, ?_⟩
        cases e with
        | true =>
          refine iteF ?_
          refine ⟨_, rfl, _, rfl, _, _, rfl, rfl, by show 3 ≤ sizeLine; decide, fun z hz => ⟨by show 2 ≤ sizeLine; decide, fun y hy => ⟨by show 1 ≤ sizeLine; decide, fun l hl => ?_⟩⟩⟩
          exact one (by rw [hc]; rfl) z hz y hy l hl
        | false =>
          refine iteT ⟨by show 0 ≤ sizeLine; decide, fun l hl => two l hl (by rw [hc]; rfl)⟩
      | false =>
        refine iteF ?_
        refine ⟨_, rfl, _, rfl, _, _, rfl, rfl, by show 3 ≤ sizeLine; decide, fun z hz => ⟨by show 2 ≤ sizeLine; decide, fun y hy => ⟨by show 1 ≤ sizeLine; decide, fun l hl => ?_⟩⟩⟩
        exact one (by rw [hc]; rfl) z hz y hy l hl
end
end Rt
end
section
set_option Elab.async false
set_option linter.all false
set_option maxRecDepth 100000
set_option maxHeartbeats 4000000
/-! The walk of moves_of. -/
namespace Rt
open PySem L2
section
variable {P : Program} {w : World} {K : PySem.W.Frag} {mg : Str → Option Value} {base : Heap}
theorem len_behindS (m : Met) (s k a : Nat) (e : Bool) : (behindS m s k a e).length ≤ 1 := by
  unfold behindS
  split
  · exact Nat.le_refl _
  · split
    · exact Nat.zero_le _
    · exact Nat.le_refl _
theorem len_first (m : Met) (s mk : Nat) (e : Bool) : ∀ n : Nat, (firstMoves m s mk e n).length ≤ n
  | 0 => Nat.le_refl _
  | n + 1 => by
    rw [firstMoves_succ, List.length_append]
    have a := len_first m s mk e n
    have b := len_behindS m s n 1 e
    split
    · omega
    · simp only [List.length_nil]; omega
def spMoves : Sp := fun vs H Q _ => ∃ (am ast : Addr) (m : Met) (st : St3) (mk : Nat) (e : Bool), vs = [.ref am, .ref ast, .str (ch mk), .bl e] ∧ MetAt H am m ∧ MOk m ∧ S3At H ast st ∧ Val m st ∧
  ∀ l H', Same H H' → H l = none → MvsAt H' l (movesOf m st mk e) → Q (.ref l) H'
theorem sc_moves : FnScope ["metre", "state", "mark", "ends", "slot", "chosen", "at", "patterns", "found", "k", "pattern"] ["metre", "state", "mark", "ends"] (defScope sMoves) := ⟨rfl, rfl, rfl, by decide +kernel, rfl, by decide +kernel, by decide +kernel⟩
theorem ok_moves {f fF fB : Addr} {fd fdF fdB : FuncData} (F : Fun K "moves_of" "moves_of" sMoves f fd) (T : Txt mg) (DF : Def K mg "fits" sFits fF fdF ["mark", "pattern", "at"]) (DB : Def K mg "behind" sBehind fB fdB ["metre", "slot", "pattern", "at", "ends"]) :
    FnOk P w K mg base CX0 2 f fd ["metre", "state", "mark", "ends"] spMoves := by
  have GF : FnOk P w K mg base CX0 1 fF fdF ["mark", "pattern", "at"] spFits := ok_fits DF.fn
  have GB : FnOk P w K mg base CX0 1 fB fdB ["metre", "slot", "pattern", "at", "ends"] spBehind := ok_behind DB.fn T
  refine F.ok sc_moves (fun vs H Q E h => ?_) (fun cdv A outer s0 H vs Q E hr h => ?_)
  · obtain ⟨am, ast, m, st, mk, e, rfl, _⟩ := h
    rfl
  · obtain ⟨am, ast, m, st, mk, e, rfl, hm, M, hst, hv, q⟩ := h
    obtain ⟨s, c, a⟩ := st
    obtain ⟨v1, v2, v3⟩ := hv
    obtain ⟨vs, hvs, pvs⟩ := id hm
    have ltS : ∀ {p b n : Nat}, p ≤ b → b ≤ n → p ≤ n := fun a b => Nat.le_trans a b
    refine ⟨_, pss_cons (ps_asg (pv 1) (pg_tup (by rfl) (pgs_cons (pg_name (i := 4) sc_moves.nd rfl (.inl rfl)) (pgs_cons (pg_name (i := 5) sc_moves.nd rfl (.inl rfl)) (pgs_cons (pg_name (i := 6) sc_moves.nd rfl (.inl rfl)) pgs_nil)))))
      (pss_cons (ps_if (pt_cmpR op_eq (pv 4) (pe_callB call_len_seq (by rfl) T.len boot_len (pa_cons (pv 0) pa_nil)) (nomark _)) (pss_one (ps_ret (pe_lst pa_nil))) pss_nil)
      (pss_cons (ps_set (i := 7) sc_moves.nd rfl (.inl rfl) (pe_ix ix_tup (pe_ix ix_tup (pv 0) (pv 4) (fun _ _ => rfl)) pe_int (fun _ _ => rfl)))
      (pss_cons (ps_if (pt_cmpR op_gt (pv 6) pe_int (nomark _))
        (pss_cons (ps_if (pt_not (pt_val (pe_call GF hr rfl DF.mg DF.fn.kp DF.binds .nil pass0 (pa_cons (pv 2) (pa_cons (pe_ix ix_tup (pv 7) (pv 5) (fun _ _ => rfl)) (pa_cons (pv 6) pa_nil)))))) (pss_one (ps_ret (pe_lst pa_nil))) pss_nil)
          (pss_one (ps_ret (pe_call GB hr rfl DB.mg DB.fn.kp DB.binds .nil pass0 (pa_cons (pv 0) (pa_cons (pv 4) (pa_cons (pv 5) (pa_cons (pe_op op_add (pv 6) pe_int) (pa_cons (pv 3) pa_nil))))))))) pss_nil)
      (pss_cons (ps_set (i := 8) sc_moves.nd rfl (.inl rfl) (pe_lst pa_nil))
      (pss_cons (ps_for PassesOwn.never rfl (pi_enumT (by rfl) T.enumerate (pa_cons (pv 7) pa_nil)) (pg_tup (by rfl) (pgs_cons (pg_name (i := 9) sc_moves.nd rfl (.inl rfl)) (pgs_cons (pg_name (i := 10) sc_moves.nd rfl (.inl rfl)) pgs_nil)))
        (pss_one (ps_if (pt_val (pe_call GF hr rfl DF.mg DF.fn.kp DF.binds .nil pass0 (pa_cons (pv 2) (pa_cons (pv 10) (pa_cons pe_int pa_nil)))))
          (pss_one (ps_set (i := 8) sc_moves.nd rfl (.inl rfl) (pe_op op_cat (pv 8) (pe_call GB hr rfl DB.mg DB.fn.kp DB.binds .nil pass0 (pa_cons (pv 0) (pa_cons (pv 4) (pa_cons (pv 9) (pa_cons pe_int (pa_cons (pv 3) pa_nil))))))))) pss_nil)))
      (pss_one (ps_ret (pv 8)))))))), ?_⟩
    -- slot, chosen, at = state; slot == len(metre)
    refine ⟨_, rfl, ast, _, rfl, SqT.of hst, rfl, _, _, rfl, _, _, rfl, _, _, rfl, rfl, ?_⟩
    refine ⟨_, rfl, _, rfl, am, vs, rfl, .inr (SqT.of hvs), rfl, _, rfl, ?_⟩
    rw [pd_len pvs]
    unfold movesOf at q
    refine ite2 (fun he => ?_) (fun hne => ?_)
    · have e1 : s = m.length := by
        have := of_decide_eq_true he
        injection this with this
        omega
      rw [if_pos e1] at q
      exact ⟨by show 0 ≤ sizeLine; decide, fun l hl => q l _ (same_new hl) hl ⟨[], upd_same, .nil⟩⟩
    · have n1 : ¬ s = m.length := fun z => hne (decide_eq_true (by rw [z]))
      rw [if_neg n1] at q
      have hs : s < m.length := by have : s ≤ m.length := v1; omega
      obtain ⟨_, p, ps, g1, _, g3, g4, g5⟩ := met_slot hm hs
      -- patterns = metre[slot][0]
      refine ⟨_, rfl, _, rfl, am, _, _, _, rfl, rfl, SqT.of g1, at_ok g3, p, _, 0, _, rfl, rfl, SqT.of g4, rfl, ?_⟩
      refine ⟨_, rfl, _, _, rfl, rfl, _, rfl, ?_⟩
      refine ite2 (fun hp => ?_) (fun hnp => ?_)
      · have pos : 0 < a := by
          have z : (0 : Int) < ((a : Nat) : Int) := of_decide_eq_true hp
          omega
        obtain ⟨_, w2, w3⟩ := v3 pos
        have w2' : c < (slotAt m s).1.length := w2
        have w3' : a < (patAt (slotAt m s).1 c).length := w3
        rw [if_pos pos] at q
        refine ⟨_, rfl, _, rfl, _, rfl, ps, _, _, _, rfl, rfl, SqT.of g5, at_ok (pats_get w2'), _, rfl, mk, patAt (slotAt m s).1 c, a, rfl, w3', (M.len hs w2').2, _, rfl, ?_⟩
        cases hf : fitC mk (patAt (slotAt m s).1 c) a with
        | false =>
          rw [if_neg (by rw [hf]; exact Bool.false_ne_true)] at q
          exact iteT ⟨by show 0 ≤ sizeLine; decide, fun l hl => q l _ (same_new hl) hl ⟨[], upd_same, .nil⟩⟩
        | true =>
          rw [if_pos hf] at q
          refine iteF ?_
          exact ⟨_, rfl, _, rfl, _, rfl, _, rfl, _, _, rfl, rfl, _, rfl, am, m, s, c, a + 1, e, rfl, hm, M, hs, w2', q⟩
      · have a0 : a = 0 := Nat.le_zero.mp (Nat.not_lt.mp fun z => hnp (decide_eq_true (show (0 : Int) < ((a : Nat) : Int) by omega)))
        subst a0
        have c0 : c = 0 := v2 rfl
        subst c0
        rw [if_neg (Nat.lt_irrefl 0)] at q
        -- found = []; for k, pattern in enumerate(patterns)
        refine ⟨by show 0 ≤ sizeLine; decide, fun l hl => ?_⟩
        have sl := same_new (o := .lst []) hl
        refine ⟨_, rfl, ps, _, rfl, SqT.of (sl _ _ g5), for_enumT (K := K) (a := ps) (xs := (slotAt m s).1.map fun p => V.str (tx p))
          (fun i σ H2 => ∃ (l : Addr) (v9 v10 : Option V), σ = [some (.ref am), some (.ref ast), some (.str (ch mk)), some (.bl e), some (.int (s : Nat)), some (.int (0 : Nat)), some (.int (0 : Nat)), some (.ref ps), some (.ref l), v9, v10] ∧ Same H H2 ∧ H l = none ∧ MvsAt H2 l (firstMoves m s mk e i))
          ⟨l, none, none, rfl, sl, hl, [], upd_same, .nil⟩ (fun i σ H2 _ ⟨_, _, _, _, s2, _⟩ => SqT.of (s2 _ _ g5)) ?_ ?_⟩
        · rintro i x T' σ H2 hx hT ⟨l2, v9, v10, rfl, s2, hl2, mv⟩
          have hi : i < (slotAt m s).1.length := by
            have := (List.getElem?_eq_some_iff.mp hx).1
            rwa [List.length_map] at this
          rw [pats_get hi] at hx
          obtain rfl : V.str (tx (patAt (slotAt m s).1 i)) = x := Option.some.inj hx
          have s3 := same_new (o := .tup [.int (i : Nat), .str (tx (patAt (slotAt m s).1 i))]) hT
          have lp := M.len hs hi
          refine ⟨T', _, rfl, SqT.of upd_same, rfl, _, _, rfl, _, _, rfl, rfl, ?_⟩
          refine ⟨_, rfl, _, rfl, mk, patAt (slotAt m s).1 i, 0, rfl, by omega, lp.2, _, rfl, ?_⟩
          have mv3 := mvs_mono s3 mv
          have step := firstMoves_succ m s mk e i
          cases hf : fitC mk (patAt (slotAt m s).1 i) 0 with
          | false =>
            rw [if_neg (by rw [hf]; exact Bool.false_ne_true), List.append_nil] at step
            refine iteF ⟨l2, _, _, rfl, s2.trans s3, hl2, ?_⟩
            rw [step]
            exact mv3
          | true =>
            rw [if_pos hf] at step
            obtain ⟨us, e1, e2⟩ := mv3
            refine iteT ⟨_, rfl, _, rfl, _, rfl, _, rfl, _, rfl, am, m, s, i, 1, e, rfl, met_mono (same_tups (s2.trans s3)) hm, M, hs, hi, fun b H4 s4 hb mb => ?_⟩
            obtain ⟨ws, f1, f2⟩ := mb
            refine ⟨l2, b, us, ws, rfl, rfl, s4 _ _ e1, f1, ?_, fun r hr' => ?_⟩
            · have z1 := pd_len e2
              have z2 := pd_len f2
              have z3 := len_first m s mk e i
              have z4 := len_behindS m s i 1 e
              have z5 := (M.pats _ (slotAt_mem hs)).2
              exact line_of (by omega)
            · have s5 := same_new (o := .lst (us ++ ws)) hr'
              refine ⟨r, _, _, rfl, ((s2.trans s3).trans s4).trans s5, Same.free ((s2.trans s3).trans s4) hr', us ++ ws, upd_same, ?_⟩
              rw [step]
              exact pd_mono (fun _ _ => mv_mono (same_tups s5)) (pd_app (pd_mono (fun _ _ => mv_mono (same_tups s4)) e2) f2)
        · rintro σ H2 ⟨l2, v9, v10, rfl, s2, hl2, mv⟩
          rw [List.length_map] at mv
          exact ⟨_, rfl, q l2 H2 s2 hl2 mv⟩
end
end Rt
end
section
set_option Elab.async false
set_option linter.all false
set_option maxRecDepth 100000
set_option maxHeartbeats 4000000
/-! The walk of counted_on. -/
namespace Rt
open PySem L2

/-! ### the order that sorted uses: some order -/
def encE (x : St3 × Nat) : PyData := .tuple [.tuple [.int (x.1.1 : Nat), .int (x.1.2.1 : Nat), .int (x.1.2.2 : Nat)], .int (x.2 : Nat)]
def LE : St3 × Nat → St3 × Nat → Bool := PySem.W.dataLe false encE
theorem enc_alike (a b : St3 × Nat) : PySem.W.alike (encE a) (encE b) = true := by simp [encE, PySem.W.alike, PySem.W.alikeAll]
theorem enc_tup (a : St3 × Nat) : ∃ x r, encE a = .tuple (x :: r) := ⟨_, _, rfl⟩
theorem enc_depth (a : St3 × Nat) : (encE a).depth ≤ 8 := by simp [encE, PyData.depth, PyData.depthAll]
theorem enc_dp {K : PySem.W.Frag} {H : Hp} {v : V} {x : St3 × Nat} (h : EntAt H v x) : Dp K H v (encE x) := by
  obtain ⟨p, q, rfl, h1, h2⟩ := h
  exact .tup (SqT.of h1) (.cons (.tup (SqT.of h2) (.cons (.int _) (.cons (.int _) (.cons (.int _) .nil)))) (.cons (.int _) .nil))

/-! ### the dict `found` -/
def k3 (b : St3) : List Key := [Sum.inl (b.1 : Nat), Sum.inl (b.2.1 : Nat), Sum.inl (b.2.2 : Nat)]
theorem k3_inj {a b : St3} (h : k3 a = k3 b) : a = b := by
  obtain ⟨a1, a2, a3⟩ := a
  obtain ⟨b1, b2, b3⟩ := b
  unfold k3 at h
  simp only [List.cons.injEq, Sum.inl.injEq, and_true] at h
  obtain ⟨h1, h2, h3⟩ := h
  simp only [Prod.mk.injEq]
  omega
def kv3 (f : Cnt) : List (List Key × V) := f.map fun x => (k3 x.1, V.int (x.2 : Nat))
theorem k3_at {H : Hp} {a : Addr} {b : St3} (h : S3At H a b) : H a = some (.tup ((k3 b).map kV)) := h
theorem find_kv3 (b : St3) : ∀ f : Cnt, (kv3 f).find? (fun kv => decide (kv.1 = k3 b)) = (f.find? fun x => decide (x.1 = b)).map fun x => (k3 x.1, V.int (x.2 : Nat))
  | [] => rfl
  | x :: f => by
    have ih := find_kv3 b f
    show ((k3 x.1, V.int (x.2 : Nat)) :: kv3 f).find? _ = _
    rw [List.find?_cons, List.find?_cons]
    by_cases e : x.1 = b
    · have e1 : decide (k3 x.1 = k3 b) = true := decide_eq_true (by rw [e])
      simp only [e1, decide_eq_true e]
      rfl
    · have e1 : decide (k3 x.1 = k3 b) = false := decide_eq_false fun z => e (k3_inj z)
      simp only [e1, decide_eq_false e]
      exact ih
theorem val_kv3 (f : Cnt) (b : St3) : (valV (kv3 f) (k3 b)).getD (.int 0) = .int (gt f b : Nat) := by
  unfold valV gt
  rw [find_kv3]
  cases f.find? fun x => decide (x.1 = b) <;> rfl
theorem val_kv3_mem {f : Cnt} (nd : (f.map (·.1)).Nodup) {x : St3 × Nat} (hx : x ∈ f) : valV (kv3 f) (k3 x.1) = some (.int (x.2 : Nat)) := by
  have e : f.find? (fun y => decide (y.1 = x.1)) = some x := by
    induction f with
    | nil => exact nomatch hx
    | cons y f ih =>
      rw [List.map_cons, List.nodup_cons] at nd
      rw [List.find?_cons]
      rcases List.mem_cons.mp hx with rfl | hx
      · simp
      · have ne : ¬ y.1 = x.1 := fun z => nd.1 (List.mem_map.mpr ⟨x, hx, z.symm⟩)
        rw [decide_eq_false ne]
        exact ih nd.2 hx
  unfold valV
  rw [find_kv3, e]
  rfl
theorem any_kv3 (f : Cnt) (b : St3) : ((kv3 f).any fun kv => decide (kv.1 = k3 b)) = f.any fun x => decide (x.1 = b) := by
  unfold kv3
  rw [List.any_map]
  congr 1
  funext x
  show decide (k3 x.1 = k3 b) = decide (x.1 = b)
  by_cases e : x.1 = b
  · rw [decide_eq_true e, decide_eq_true (by rw [e])]
  · rw [decide_eq_false e, decide_eq_false fun z => e (k3_inj z)]
theorem put_kv3 (f : Cnt) (b : St3) (v : Nat) : putK (kv3 f) (k3 b) (.int (v : Nat)) = kv3 (pt f b v) := by
  unfold putK pt
  rw [any_kv3]
  split
  · unfold kv3
    rw [List.map_map, List.map_map]
    refine List.map_congr_left fun x _ => ?_
    show (if k3 x.1 = k3 b then (k3 x.1, V.int (v : Nat)) else (k3 x.1, V.int (x.2 : Nat))) = (fun x : St3 × Nat => (k3 x.1, V.int (x.2 : Nat))) (if x.1 = b then (x.1, v) else x)
    by_cases e : x.1 = b
    · rw [if_pos (by rw [e]), if_pos e]
    · rw [if_neg fun z => e (k3_inj z), if_neg e]
  · unfold kv3
    rw [List.map_append]
    rfl
theorem len_kv3 (f : Cnt) : (kv3 f).length = f.length := by unfold kv3; rw [List.length_map]

/-! ### sizes -/
theorem len_moves {m : Met} (M : MOk m) {st : St3} (v : Val m st) (mk : Nat) (e : Bool) : (movesOf m st mk e).length ≤ 3 := by
  unfold movesOf
  split
  · exact Nat.zero_le _
  · rename_i h1
    split
    · split
      · exact Nat.le_trans (len_behindS ..) (by decide)
      · exact Nat.zero_le _
    · have hs : st.1 < m.length := by have := v.1; omega
      exact Nat.le_trans (len_first ..) (M.pats _ (slotAt_mem hs)).2
theorem len_add {n : Nat} : ∀ (mvs : List (Nat × St3)) (f : Cnt), (addMoves f n mvs).length ≤ f.length + mvs.length
  | [], f => Nat.le_refl _
  | x :: mvs, f => by
    have a := len_add (n := n) mvs (pt f x.2 (min 2 (gt f x.2 + n)))
    have b := len_pt f x.2 (min 2 (gt f x.2 + n))
    show (addMoves (pt f x.2 (min 2 (gt f x.2 + n))) n mvs).length ≤ f.length + (mvs.length + 1)
    omega
theorem len_found_go {m : Met} (M : MOk m) (mk : Nat) (e : Bool) : ∀ (c f : Cnt), (∀ x, x ∈ c → Val m x.1) → (c.foldl (fun f x => addMoves f x.2 (movesOf m x.1 mk e)) f).length ≤ f.length + 3 * c.length
  | [], f, _ => Nat.le_refl _
  | x :: c, f, h => by
    have a := len_found_go M mk e c (addMoves f x.2 (movesOf m x.1 mk e)) fun y hy => h y (List.mem_cons_of_mem _ hy)
    have b := len_add (n := x.2) (movesOf m x.1 mk e) f
    have d := len_moves M (h x (List.mem_cons_self ..)) mk e
    show (c.foldl _ (addMoves f x.2 (movesOf m x.1 mk e))).length ≤ f.length + 3 * (c.length + 1)
    omega
def part (m : Met) (c : Cnt) (mk : Nat) (e : Bool) (i : Nat) : Cnt := (c.take i).foldl (fun f x => addMoves f x.2 (movesOf m x.1 mk e)) []
theorem part_succ (m : Met) (c : Cnt) (mk : Nat) (e : Bool) {i : Nat} {x : St3 × Nat} (hx : c[i]? = some x) : part m c mk e (i + 1) = addMoves (part m c mk e i) x.2 (movesOf m x.1 mk e) := by
  unfold part
  rw [List.take_add_one, hx]
  simp
theorem part_all (m : Met) (c : Cnt) (mk : Nat) (e : Bool) : part m c mk e c.length = foundOf m c mk e := by
  unfold part foundOf
  rw [List.take_length]
theorem len_part {m : Met} (M : MOk m) {c : Cnt} (h : ∀ x, x ∈ c → Val m x.1) (mk : Nat) (e : Bool) (i : Nat) : (part m c mk e i).length ≤ 3 * c.length := by
  have a := len_found_go M mk e (c.take i) [] fun x hx => h x (List.mem_of_mem_take hx)
  have b : (c.take i).length ≤ c.length := by rw [List.length_take]; omega
  have d : (part m c mk e i).length ≤ ([] : Cnt).length + 3 * (c.take i).length := a
  simp only [List.length_nil] at d
  omega
theorem add_take {n : Nat} {mvs : List (Nat × St3)} {j : Nat} {y : Nat × St3} (f : Cnt) (hy : mvs[j]? = some y) :
    addMoves f n (mvs.take (j + 1)) = pt (addMoves f n (mvs.take j)) y.2 (min 2 (gt (addMoves f n (mvs.take j)) y.2 + n)) := by
  unfold addMoves
  rw [List.take_add_one, hy]
  simp

/-! ### heaps that differ at one object -/
def But (d : Addr) (H H' : Hp) : Prop := ∀ b o, b ≠ d → H b = some o → H' b = some o
theorem But.of {d : Addr} {H H' : Hp} (s : Same H H') : But d H H' := fun b o _ e => s b o e
theorem But.trans {d : Addr} {H H1 H2 : Hp} (a : But d H H1) (b : But d H1 H2) : But d H H2 := fun c o n e => b c o n (a c o n e)
theorem But.upd (d : Addr) (H : Hp) (o : HO) : But d H (upd H d o) := fun b u n e => by rw [upd_ne n]; exact e
theorem But.same {d : Addr} {H H' : Hp} (a : But d H H') (h : H d = none) : Same H H' := fun b o e => a b o (ne_of_none e h) e
theorem But.tups {d : Addr} {H H' : Hp} (a : But d H H') (h : ∀ xs, H d ≠ some (.tup xs)) : Tups H H' := fun b xs e => a b _ (fun z => h xs (by rw [← z]; exact e)) e
theorem mvs_but {d : Addr} {H H' : Hp} {l : Addr} {mvs : List (Nat × St3)} (a : But d H H') (h : ∀ xs, H d ≠ some (.tup xs)) (hl : l ≠ d) : MvsAt H l mvs → MvsAt H' l mvs := fun ⟨vs, h1, h2⟩ =>
  ⟨vs, a _ _ hl h1, pd_mono (fun _ _ => mv_mono (a.tups h)) h2⟩

section
variable {P : Program} {w : World} {K : PySem.W.Frag} {mg : Str → Option Value} {base : Heap}
def spCounted (K : PySem.W.Frag) : Sp := fun vs H Q _ => ∃ (am ac ax : Addr) (m : Met) (c : Cnt) (x : Step), vs = [.ref am, .ref ac, .ref ax] ∧ MetAt H am m ∧ MOk m ∧ CntAt H ac c ∧ (∀ y, y ∈ c → Val m y.1) ∧ c.length ≤ 1000000 ∧ StepAt K H (.ref ax) x ∧
  ∀ t H', Same H H' → CntAt H' t (countedOn LE m c x) → Q (.ref t) H'
theorem sc_counted : FnScope ["metre", "counts", "step", "found", "state", "many", "pattern", "behind"] ["metre", "counts", "step"] (defScope sCounted) := ⟨rfl, rfl, rfl, by decide +kernel, rfl, by decide +kernel, by decide +kernel⟩
theorem ok_counted {f fM fF fB : Addr} {fd fdM fdF fdB : FuncData} (D0 : Fun K "counted_on" "counted_on" sCounted f fd) (T : Txt mg) (DM : Def K mg "moves_of" sMoves fM fdM ["metre", "state", "mark", "ends"])
    (DF : Def K mg "fits" sFits fF fdF ["mark", "pattern", "at"]) (DB : Def K mg "behind" sBehind fB fdB ["metre", "slot", "pattern", "at", "ends"]) :
    FnOk P w K mg base CX0 3 f fd ["metre", "counts", "step"] (spCounted K) := by
  have GM : FnOk P w K mg base CX0 2 fM fdM ["metre", "state", "mark", "ends"] spMoves := ok_moves DM.fn T DF DB
  refine D0.ok sc_counted (fun vs H Q E h => ?_) (fun cdv A outer s0 H vs Q E hr h => ?_)
  · obtain ⟨am, ac, ax, m, c, x, rfl, _⟩ := h
    rfl
  · obtain ⟨am, ac, ax, m, c, x, rfl, hm, M, hc, hv, hz, hx, q⟩ := h
    have hu := hu_of hr
    obtain ⟨mk, e⟩ := x
    obtain ⟨_, ex, hx1⟩ := hx
    cases ex
    obtain ⟨cs, hcs, pcs⟩ := id hc
    refine ⟨_, pss_cons (ps_set (i := 3) sc_counted.nd rfl (.inr rfl) pe_dnewT)
      (pss_cons (ps_for PassesOwn.never rfl (pi_tup (pv 1)) (pg_tup (by rfl) (pgs_cons (pg_name (i := 4) sc_counted.nd rfl (.inl rfl)) (pgs_cons (pg_name (i := 5) sc_counted.nd rfl (.inl rfl)) pgs_nil)))
        (pss_one (ps_for PassesOwn.never rfl (pi_list (pe_call GM hr rfl DM.mg DM.fn.kp DM.binds .nil pass0 (pa_cons (pv 0) (pa_cons (pv 4) (pa_cons (pe_ix ix_tup (pv 2) pe_int (fun _ _ => rfl)) (pa_cons (pe_ix ix_tup (pv 2) pe_int (fun _ _ => rfl)) pa_nil))))))
          (pg_tup (by rfl) (pgs_cons (pg_name (i := 6) sc_counted.nd rfl (.inl rfl)) (pgs_cons (pg_name (i := 7) sc_counted.nd rfl (.inl rfl)) pgs_nil)))
          (pss_one (ps_dput hu (pv 3) (pv 7) (pe_callB (call_min2 rfl) (by rfl) T.min PyProof.Rows.boot_min (pa_cons pe_int (pa_cons (pe_op op_add (pe_dget2 hu (pv 3) (pv 7) pe_int ⟨rfl, rfl, rfl, rfl⟩) (pv 5)) pa_nil))) rfl)))))
      (pss_one (ps_ret (pe_callTy call_tuple_of (by rfl) T.tuple PyProof.Rows.boot_tuple (pa_cons (pe_callB (cr_sortD (T := EntAt) (enc := encE) enc_alike enc_tup enc_depth hr.units) (by rfl) T.sorted PyProof.Rows.boot_sorted
        (pa_cons (pe_lock (pe_lc (own := [("state", 4)]) (g := gName 4) (tt := tYes) rfl sc_counted.nd (pi_keys (pv 3)) (blkOk_by (own := [("state", 4)]) (N := ["metre", "counts", "step", "found", "state", "many", "pattern", "behind"]) (sc := defScope sCounted) (by decide +kernel))
          (fun _ _ _ _ _ => pg_name (i := 4) sc_counted.nd rfl (Or.inl rfl)) (fun _ _ _ _ _ => pts_nil) (fun _ _ _ _ _ => pe_tup (pa_cons (pv 4) (pa_cons (pe_dget hu (pv 3) (pv 4) (fun _ _ => rfl)) pa_nil))))) pa_nil)) pa_nil))))), ?_⟩
    -- found = {}
    intro d hd
    have s1 := same_new (o := .dT []) hd
    have noT : ∀ {H2 : Hp} {ks : List (List Key × V)}, H2 d = some (.dT ks) → ∀ xs, H2 d ≠ some (.tup xs) := fun e xs z => by rw [e] at z; cases z
    -- for state, many in counts
    refine ⟨_, rfl, ac, rfl, ⟨_, SqT.of (s1 _ _ hcs)⟩, for_tup (K := K) (a := ac) (xs := cs)
      (fun i σ H2 => ∃ (v4 v5 v6 v7 : Option V), σ = [some (.ref am), some (.ref ac), some (.ref ax), some (.ref d), v4, v5, v6, v7] ∧ But d H H2 ∧ H2 d = some (.dT (kv3 (part m c mk e i))))
      ⟨none, none, none, none, rfl, .of s1, upd_same⟩ (fun i σ H2 _ ⟨_, _, _, _, _, s2, _⟩ => SqT.of (s2.same hd _ _ hcs)) ?_ ?_⟩
    · rintro i v σ H2 hi ⟨v4, v5, v6, v7, rfl, s2, hd2⟩
      have sm2 := s2.same hd
      obtain ⟨y, hy, p, b, rfl, g1, g2⟩ := pd_get' pcs hi
      have g1' := sm2 _ _ g1
      have g2' := s3_mono (same_tups sm2) g2
      have hyc : y ∈ c := List.mem_of_getElem? hy
      refine ⟨p, _, rfl, SqT.of g1', rfl, _, _, rfl, _, _, rfl, rfl, ?_⟩
      -- for pattern, behind in moves_of(..)
      refine ⟨_, rfl, _, rfl, _, rfl, ax, _, 0, _, rfl, rfl, Same.sqt sm2 hx1, rfl, _, rfl, ax, _, 1, _, rfl, rfl, Same.sqt sm2 hx1, rfl, am, b, m, y.1, mk, e, rfl, met_mono (same_tups sm2) hm, M, g2', hv y hyc, fun l H3 s3 hl hml => ?_⟩
      obtain ⟨ws, f1, f2⟩ := id hml
      have hd3 := s3 _ _ hd2
      have nl : l ≠ d := fun z => by rw [z, hd2] at hl; cases hl
      have lm := len_moves M (hv y hyc) mk e
      refine ⟨l, rfl, ⟨_, SqL.of f1⟩, for_list (K := K) (a := l) (xs := ws)
        (fun j σ H4 => ∃ (v6 v7 : Option V), σ = [some (.ref am), some (.ref ac), some (.ref ax), some (.ref d), some (.ref b), some (.int (y.2 : Nat)), v6, v7] ∧ But d H3 H4 ∧ H4 d = some (.dT (kv3 (addMoves (part m c mk e i) y.2 ((movesOf m y.1 mk e).take j)))))
        ⟨v6, v7, rfl, .of (Same.refl _), hd3⟩ (fun j σ H4 _ ⟨_, _, _, s4, _⟩ => SqL.of (s4 _ _ nl f1)) ?_ ?_⟩
      · rintro j v σ H4 hj ⟨v6, v7, rfl, s4, hd4⟩
        obtain ⟨mv, hmv, p2, b2, rfl, k1, k2⟩ := pd_get' f2 hj
        have t4 := s4.tups (noT hd3)
        have k2' := s3_mono t4 k2
        refine ⟨p2, _, rfl, SqT.of (t4 _ _ k1), rfl, _, _, rfl, _, _, rfl, rfl, ?_⟩
        refine ⟨_, rfl, d, rfl, .inr ⟨_, .of hd4⟩, _, rfl, _, DGet.t hd4 (k3_at k2'), _, rfl, _, _, val_kv3 _ _, rfl, _, _, rfl, ?_⟩
        have hlen : (kv3 (addMoves (part m c mk e i) y.2 ((movesOf m y.1 mk e).take j))).length < sizeLine := by
          rw [len_kv3, sizeLine_eq]
          have a1 := len_add (n := y.2) ((movesOf m y.1 mk e).take j) (part m c mk e i)
          have a2 := len_part M hv mk e i
          have a3 : ((movesOf m y.1 mk e).take j).length ≤ 3 := by rw [List.length_take]; omega
          omega
        refine ⟨_, rfl, _, rfl, d, _, rfl, DPut.t hd4 (k3_at k2') hlen, _, _, rfl, s4.trans (But.upd d H4 _), ?_⟩
        rw [upd_same, add_take _ hmv, ← put_kv3]
        have ev : (if ((gt (addMoves (part m c mk e i) y.2 ((movesOf m y.1 mk e).take j)) mv.2 : Nat) : Int) + ((y.2 : Nat) : Int) < 2 then ((gt (addMoves (part m c mk e i) y.2 ((movesOf m y.1 mk e).take j)) mv.2 : Nat) : Int) + ((y.2 : Nat) : Int) else 2) =
            ((min 2 (gt (addMoves (part m c mk e i) y.2 ((movesOf m y.1 mk e).take j)) mv.2 + y.2) : Nat) : Int) := by
          split <;> omega
        rw [ev]
      · rintro σ H4 ⟨v6, v7, rfl, s4, hd4⟩
        refine ⟨_, _, _, _, rfl, (s2.trans (.of s3)).trans s4, ?_⟩
        rw [part_succ m c mk e hy]
        rw [pd_len f2, List.take_length] at hd4
        exact hd4
    · rintro σ H2 ⟨v4, v5, v6, v7, rfl, s2, hd2⟩
      have ec : cs.length = c.length := pd_len pcs
      rw [ec, part_all] at hd2
      have sm2 := s2.same hd
      -- the comprehension, over the locked dict
      refine ⟨d, _, hd2, True.intro, fun od => ⟨_, rfl, d, od, rfl, .inr ⟨_, upd_same, fun D hD => ?_⟩⟩⟩
      have nd := (found_keys (fun _ => True) m mk e c [] (by simp) (fun _ _ => trivial) (fun _ _ _ _ => trivial)).1
      have lF : (foundOf m c mk e).length ≤ 3 * c.length := by
        rw [← part_all]
        exact len_part M hv mk e _
      have hDd : d ≠ D := ne_of_none (upd_same (H := H2)) hD
      refine lc_it walk_keysT (fun i H4 => ∃ acc, H4 D = some (.lst acc) ∧ But D (upd H2 d (.frz od (.dT (kv3 (foundOf m c mk e))))) H4 ∧ Paired (EntAt H4) acc ((foundOf m c mk e).take i))
        ⟨[], upd_same, But.upd _ _ _, .nil⟩ (fun i H4 _ ⟨_, _, b4, _⟩ => b4 d _ hDd upd_same) ?_ ?_
      · rintro i v _ H4 hi ⟨acc, a1, a2, a3⟩ ⟨rfl, k, u, b, hk, rfl, hb⟩
        have hi' : i < (foundOf m c mk e).length := by rwa [len_kv3] at hi
        have hy : (foundOf m c mk e)[i]? = some (foundOf m c mk e)[i] := List.getElem?_eq_getElem hi'
        unfold kv3 at hk
        rw [List.getElem?_map, hy] at hk
        have hk' : (k3 (foundOf m c mk e)[i].1, V.int ((foundOf m c mk e)[i].2 : Nat)) = (k, u) := Option.some.inj hk
        injection hk' with hk1 hk2
        subst hk1 hk2
        refine ⟨rfl, _, rfl, _, rfl, _, rfl, d, _, rfl, .inr ⟨_, _, b, .inr ⟨od, a2 d _ hDd upd_same⟩, rfl, hb, (val_kv3_mem nd (List.getElem_mem hi')).symm⟩, by show 2 ≤ sizeLine; decide, fun p hp => ?_⟩
        have s5 := same_new (o := .tup [.ref b, .int ((foundOf m c mk e)[i].2 : Nat)]) hp
        have t6 : Tups (upd H4 p (.tup [.ref b, .int ((foundOf m c mk e)[i].2 : Nat)])) (upd (upd H4 p (.tup [.ref b, .int ((foundOf m c mk e)[i].2 : Nat)])) D (.lst (acc ++ [.ref p]))) :=
          tups_upd fun xs z => by rw [s5 _ _ a1] at z; cases z
        refine ⟨acc, s5 _ _ a1, ?_, acc ++ [.ref p], upd_same, (a2.trans (.of s5)).trans (But.upd _ _ _), ?_⟩
        · have z1 := pd_len a3
          rw [List.length_take] at z1
          rw [sizeLine_eq]
          omega
        · rw [List.take_add_one, hy]
          exact pd_snoc (pd_mono (fun _ _ => ent_mono ((same_tups s5).trans t6)) a3) ⟨p, b, rfl, t6 _ _ upd_same, t6 _ _ (s5 _ _ hb)⟩
      · rintro H4 ⟨acc, a1, a2, a3⟩
        rw [len_kv3, List.take_length] at a3
        have fz := a2 d _ hDd upd_same
        -- the dict is free again; sorted(..), tuple(..)
        have t5 : Tups H4 (upd H4 d (.dT (kv3 (foundOf m c mk e)))) := tups_upd fun xs z => by rw [fz] at z; cases z
        have e5 : upd H4 d (.dT (kv3 (foundOf m c mk e))) D = some (.lst acc) := by rw [upd_ne (Ne.symm hDd)]; exact a1
        have hD2 : H2 D = none := by
          have z := hD
          rw [upd_ne (Ne.symm hDd)] at z
          exact z
        have s5 : Same H2 (upd H4 d (.dT (kv3 (foundOf m c mk e)))) := fun z o ez => by
          by_cases hz1 : z = d
          · rw [hz1] at ez ⊢
            rw [hd2] at ez
            cases ez
            exact upd_same
          · have hz2 : z ≠ D := ne_of_none ez hD2
            rw [upd_ne hz1]
            exact a2 z o hz2 (by rw [upd_ne hz1]; exact ez)
        refine ⟨fz, D, acc, _, rfl, SqL.of e5, pd_mono (fun _ _ => ent_mono t5) a3, fun v b hvb => enc_dp hvb, fun ys p hp py => ⟨p, ys, rfl, .inl ⟨SqL.of upd_same, fun t ht => ?_⟩⟩⟩
        have s6 := same_new (o := .lst ys) hp
        have s7 := same_new (o := .tup ys) ht
        exact q t _ (((sm2.trans s5).trans s6).trans s7) ⟨ys, upd_same, pd_mono (fun _ _ => ent_mono (same_tups (s6.trans s7))) py⟩
end
end Rt
end
section
set_option Elab.async false
set_option linter.all false
set_option maxRecDepth 100000
set_option maxHeartbeats 4000000
/-! The walk of read_twice. -/
namespace Rt
open PySem L2

/-! ### counts as data -/
theorem encE_lay (z : St3 × Nat) : (encE z).canLay0 = true := by simp [encE, PyData.canLay0, PyData.canLayAll0]
theorem encs_lay : ∀ c : Cnt, PyData.canLayAll0 (c.map encE) = true
  | [] => by simp [PyData.canLayAll0]
  | z :: c => by simp [PyData.canLayAll0, encE_lay z, encs_lay c]
theorem encs_depth : ∀ c : Cnt, PyData.depthAll (c.map encE) ≤ 8
  | [] => by simp [PyData.depthAll]
  | z :: c => by
    have a := encs_depth c
    have b := enc_depth z
    rw [List.map_cons]
    simp only [PyData.depthAll]
    omega
theorem encE_shaped (z : St3 × Nat) : SeqAt.shaped (encE z) = true := by
  unfold SeqAt.shaped
  rw [encE_lay, decide_eq_true (Nat.le_trans (enc_depth z) (by decide))]
  rfl
theorem encs_shaped (c : Cnt) : SeqAt.shaped (.tuple (c.map encE)) = true := by
  unfold SeqAt.shaped
  have a := encs_depth c
  have d : PyData.depth (.tuple (c.map encE)) ≤ 64 := by
    simp only [PyData.depth]
    omega
  rw [decide_eq_true d, Bool.and_true]
  simp only [PyData.canLay0]
  exact encs_lay c
theorem encE_eqv (x y : St3 × Nat) : PyData.eqv (encE x) (encE y) = decide (x = y) := by
  obtain ⟨⟨a, b, c⟩, n⟩ := x
  obtain ⟨⟨a', b', c'⟩, n'⟩ := y
  have e : PyData.eqv (encE ((a, b, c), n)) (encE ((a', b', c'), n')) = ((((a : Int) == (a' : Int)) && (((b : Int) == (b' : Int)) && (((c : Int) == (c' : Int)) && true))) && (((n : Int) == (n' : Int)) && true)) := by
    simp only [encE, PyData.eqv, PyData.eqvAll]
  rw [e]
  by_cases h : (((a, b, c), n) : St3 × Nat) = ((a', b', c'), n')
  · cases h
    simp
  · rw [decide_eq_false h]
    refine Bool.eq_false_iff.mpr fun z => h ?_
    simp only [Bool.and_eq_true, beq_iff_eq, Bool.and_true] at z
    obtain ⟨⟨z1, z2, z3⟩, z4⟩ := z
    have y1 : a = a' := by omega
    have y2 : b = b' := by omega
    have y3 : c = c' := by omega
    have y4 : n = n' := by omega
    rw [y1, y2, y3, y4]
theorem encs_in (c : Cnt) (x : St3 × Nat) : ((c.map encE).any fun z => PyData.eqv z (encE x)) = decide (x ∈ c) := by
  rw [List.any_map]
  by_cases h : x ∈ c
  · rw [decide_eq_true h]
    exact List.any_eq_true.mpr ⟨x, h, by show PyData.eqv (encE x) (encE x) = true; rw [encE_eqv]; exact decide_eq_true rfl⟩
  · rw [decide_eq_false h]
    refine Bool.eq_false_iff.mpr fun z => h ?_
    obtain ⟨y, hy, e⟩ := List.any_eq_true.mp z
    have e' : PyData.eqv (encE y) (encE x) = true := e
    rw [encE_eqv] at e'
    rw [← of_decide_eq_true e']
    exact hy
theorem encs_nil (c : Cnt) : PyData.eqv (.tuple (c.map encE)) (.tuple []) = decide (c = []) := by
  cases c with
  | nil => simp [PyData.eqv, PyData.eqvAll]
  | cons x c => simp [PyData.eqv, PyData.eqvAll]
section
variable {K : PySem.W.Frag} {H : Hp}
theorem ents_dp : ∀ {vs : List V} {c : Cnt}, Paired (EntAt H) vs c → DpAll K H vs (c.map encE)
  | _, _, .nil => .nil
  | _, _, .cons e t => .cons (enc_dp e) (ents_dp t)
theorem cnt_dp {a : Addr} {c : Cnt} (h : CntAt H a c) : Dp K H (.ref a) (.tuple (c.map encE)) := by
  obtain ⟨vs, h1, h2⟩ := h
  exact .tup (SqT.of h1) (ents_dp h2)
end

/-! ### what stands while one dict changes -/
/-- no list, no tuple stands at d -/
structure Odd (H : Hp) (d : Addr) : Prop where
  tup : ∀ xs, H d ≠ some (.tup xs)
  lst : ∀ xs, H d ≠ some (.lst xs)
  frz : ∀ o xs, H d ≠ some (.frz o (.tup xs))
theorem odd_of {H : Hp} {d : Addr} {u : Option HO} (h : H d = u) (h1 : ∀ xs, u ≠ some (.tup xs)) (h2 : ∀ xs, u ≠ some (.lst xs)) (h3 : ∀ o xs, u ≠ some (.frz o (.tup xs))) : Odd H d :=
  ⟨fun xs z => h1 xs (h.symm.trans z), fun xs z => h2 xs (h.symm.trans z), fun o xs z => h3 o xs (h.symm.trans z)⟩
theorem odd_dn {H : Hp} {d : Addr} {P : Program} {w : World} {L : List DEnt} (h : H d = some (dnO P w d L)) : Odd H d :=
  odd_of h (fun xs z => nomatch z) (fun xs z => nomatch z) (fun o xs z => nomatch z)
theorem odd_frz {H : Hp} {d : Addr} {P : Program} {w : World} {o : Obj} {L : List DEnt} (h : H d = some (.frz o (dnO P w d L))) : Odd H d :=
  odd_of h (fun xs z => nomatch z) (fun xs z => nomatch z) (fun o xs z => nomatch z)
theorem odd_none {H : Hp} {d : Addr} (h : H d = none) : Odd H d := odd_of h (fun xs z => nomatch z) (fun xs z => nomatch z) (fun o xs z => nomatch z)
section
variable {K : PySem.W.Frag} {H H' : Hp} {d : Addr}
theorem sqt_but (a : But d H H') (n : Odd H d) {p : Addr} {xs : List V} (h : SqT K H p xs) : SqT K H' p xs := by
  rcases h with (h | ⟨o, h⟩) | h
  · exact .inl (.inl (a _ _ (fun z => n.tup xs (by rw [← z]; exact h)) h))
  · exact .inl (.inr ⟨o, a _ _ (fun z => n.frz o xs (by rw [← z]; exact h)) h⟩)
  · exact .inr h
theorem step_but (a : But d H H') (n : Odd H d) {v : V} {x : Step} : StepAt K H v x → StepAt K H' v x := fun ⟨p, e, h⟩ => ⟨p, e, sqt_but a n h⟩
theorem row_but (a : But d H H') (n : Odd H d) {l : Addr} {r : Row} : RowAt K H l r → RowAt K H' l r := fun ⟨vs, h1, h2⟩ =>
  ⟨vs, a _ _ (fun z => n.lst vs (by rw [← z]; exact h1)) h1, pd_mono (fun _ _ => step_but a n) h2⟩
theorem cnt_but (a : But d H H') (n : Odd H d) {p : Addr} {c : Cnt} : CntAt H p c → CntAt H' p c := cnt_mono (a.tups n.tup)
/-- an entry of the dict and one of the layer -/
def EntL (K : PySem.W.Frag) (H : Hp) (e : DEnt) (x : Cnt × Row) : Prop := e.1 = x.1 ∧ CntAt H e.2.1 x.1 ∧ RowAt K H e.2.2 x.2
theorem entl_but (a : But d H H') (n : Odd H d) {e : DEnt} {x : Cnt × Row} : EntL K H e x → EntL K H' e x := fun ⟨h1, h2, h3⟩ => ⟨h1, cnt_but a n h2, row_but a n h3⟩
theorem entl_same (s : Same H H') {e : DEnt} {x : Cnt × Row} : EntL K H e x → EntL K H' e x := fun ⟨h1, h2, h3⟩ => ⟨h1, cnt_mono (same_tups s) h2, row_mono s h3⟩
theorem lay_but (a : But d H H') (n : Odd H d) {L : List DEnt} {lay : Lay} : Paired (EntL K H) L lay → Paired (EntL K H') L lay := pd_mono fun _ _ => entl_but a n
theorem lay_same (s : Same H H') {L : List DEnt} {lay : Lay} : Paired (EntL K H) L lay → Paired (EntL K H') L lay := pd_mono fun _ _ => entl_same s
theorem lay_keys {L : List DEnt} {lay : Lay} (h : Paired (EntL K H) L lay) : Keys H L := by
  intro e he
  obtain ⟨i, hi⟩ := List.mem_iff_getElem?.mp he
  obtain ⟨x, _, e1, e2, _⟩ := pd_get' h hi
  rw [e1]
  exact e2
theorem lay_fst : ∀ {L : List DEnt} {lay : Lay}, Paired (EntL K H) L lay → L.map (·.1) = lay.map (·.1)
  | _, _, .nil => rfl
  | _, _, .cons e t => by rw [List.map_cons, List.map_cons, lay_fst t, e.1]
/-- found at its key -/
theorem lay_find {L : List DEnt} (nd : (L.map (·.1)).Nodup) {e : DEnt} (he : e ∈ L) : L.find? (fun z => decide (z.1 = e.1)) = some e := by
  induction L with
  | nil => exact nomatch he
  | cons y L ih =>
    rw [List.map_cons, List.nodup_cons] at nd
    rw [List.find?_cons]
    rcases List.mem_cons.mp he with rfl | he
    · simp
    · have ne : ¬ y.1 = e.1 := fun z => nd.1 (List.mem_map.mpr ⟨e, he, z.symm⟩)
      rw [decide_eq_false ne]
      exact ih nd.2 he
theorem lay_any {L : List DEnt} {lay : Lay} (h : Paired (EntL K H) L lay) (c : Cnt) : (L.find? fun z => decide (z.1 = c)).isSome = lay.any fun z => decide (z.1 = c) := by
  have e := lay_fst h
  have a : ∀ (L : List DEnt), (L.find? fun z => decide (z.1 = c)).isSome = (L.map (·.1)).any fun z => decide (z = c) := by
    intro L
    rw [List.any_map]
    induction L with
    | nil => rfl
    | cons y L ih =>
      rw [List.find?_cons, List.any_cons]
      by_cases q : y.1 = c
      · rw [decide_eq_true q]
        show true = (decide (y.1 = c) || _)
        rw [decide_eq_true q]
        rfl
      · rw [decide_eq_false q]
        show _ = (decide (y.1 = c) || _)
        rw [decide_eq_false q, Bool.false_or]
        exact ih
  rw [a, e, List.any_map]
  rfl
end
/-! ### sizes -/
theorem len_counted {m : Met} (M : MOk m) {c : Cnt} (h : ∀ y, y ∈ c → Val m y.1) (x : Step) : (countedOn LE m c x).length ≤ 3 * c.length := by
  have p := counted_perm (le := LE) m c x
  rw [p.length_eq, ← part_all]
  exact len_part M h _ _ _
theorem len_Cn {m : Met} (M : MOk m) : ∀ (n : Nat) (r : Row), r.length = n → (Cn LE m r).length ≤ 3 ^ n
  | 0, r, h => by
    obtain rfl : r = [] := List.length_eq_zero_iff.mp h
    exact Nat.le_refl _
  | n + 1, r, h => by
    have hne : r ≠ [] := fun z => by rw [z] at h; cases h
    have e := List.dropLast_concat_getLast hne
    have hl : r.dropLast.length = n := by rw [List.length_dropLast, h]; rfl
    have a := len_Cn M n r.dropLast hl
    have b := len_counted M (fun y hy => ((Cn_val (le := LE) M r.dropLast).1 y hy).1) (r.getLast hne)
    rw [← e, Cn_snoc, Nat.pow_succ]
    omega
theorem len_Cn9 {m : Met} (M : MOk m) {r : Row} (h : r.length ≤ 9) : (Cn LE m r).length ≤ 1000000 := by
  have a := len_Cn M r.length r rfl
  have b : 3 ^ r.length ≤ 3 ^ 9 := Nat.pow_le_pow_right (by decide) h
  have c : 3 ^ 9 = 19683 := by decide
  omega

/-- the module's table of steps -/
structure StepsAt (K : PySem.W.Frag) (a : Addr) (vs : List V) : Prop where
  tab : ∀ H, SqT K H a vs
  each : ∀ H, Paired (StepAt K H) vs STEPS
end Rt
end
section
set_option Elab.async false
set_option linter.all false
set_option maxRecDepth 100000
set_option maxHeartbeats 4000000
/-! The walk of read_twice. -/
namespace Rt
open PySem L2
section
variable {P : Program} {w : World} {K : PySem.W.Frag} {mg : Str → Option Value} {base : Heap}
def spRead (K : PySem.W.Frag) : Sp := fun vs H Q _ => ∃ (am : Addr) (m : Met), vs = [.ref am] ∧ MetAt H am m ∧ MOk m ∧
  (∀ H', Same H H' → readTwice LE m = none → Q .non H') ∧ ∀ l r H', Same H H' → H l = none → RowAt K H' l r → readTwice LE m = some r → Q (.ref l) H'
theorem sc_read : FnScope ["metre", "layer", "below", "counts", "step", "behind", "row"] ["metre"] (defScope sRead) := ⟨rfl, rfl, rfl, by decide +kernel, rfl, by decide +kernel, by decide +kernel⟩
theorem u65 {k : Nat} {A : Around} (r : Room k A) : A.units + 65 < cLine := by have := r.un; omega
theorem dp_done {H : Hp} {q1 q2 : Addr} {n n' : Nat} (e : n' = n) (h1 : H q2 = some (.tup [.ref q1, .int 2])) (h2 : H q1 = some (.tup [.int (n' : Nat), .int 0, .int 0])) : Dp K H (.ref q2) (encE ((n, 0, 0), 2)) := by
  subst e
  exact .tup (SqT.of h1) (.cons (.tup (SqT.of h2) (.cons (.int _) (.cons (.int _) (.cons (.int _) .nil)))) (.cons (.int _) .nil))
/-- the loop's word: k layers are behind -/
structure Lp (P : Program) (w : World) (K : PySem.W.Frag) (m : Met) (am : Addr) (H : Hp) (k : Nat) (σ : L2.St) (H2 : Hp) : Prop where
  ex : ∃ (d : Addr) (v2 v3 v4 v5 v6 : Option V) (L : List DEnt) (lay : Lay), σ = [some (.ref am), some (.ref d), v2, v3, v4, v5, v6] ∧ Same H H2 ∧ H d = none ∧ H2 d = some (dnO P w d L) ∧ Paired (EntL K H2) L lay ∧
    Good LE m k lay ∧ search LE m (10 - k) lay = readTwice LE m ∧ k ≤ 10
theorem ok_read {f fC fM fF fB aS : Addr} {fd fdC fdM fdF fdB : FuncData} {sv : List V} (D0 : Fun K "read_twice" "read_twice" sRead f fd) (T : Txt mg) (DC : Def K mg "counted_on" sCounted fC fdC ["metre", "counts", "step"])
    (DM : Def K mg "moves_of" sMoves fM fdM ["metre", "state", "mark", "ends"]) (DF : Def K mg "fits" sFits fF fdF ["mark", "pattern", "at"]) (DB : Def K mg "behind" sBehind fB fdB ["metre", "slot", "pattern", "at", "ends"])
    (mS : mg "STEPS" = some (.ref aS)) (S : StepsAt K aS sv) : FnOk P w K mg base CX0 4 f fd ["metre"] (spRead K) := by
  have GC : FnOk P w K mg base CX0 3 fC fdC ["metre", "counts", "step"] (spCounted K) := ok_counted DC.fn T DM DF DB
  refine D0.ok sc_read (fun vs H Q E h => ?_) (fun cdv A outer s0 H vs Q E hr h => ?_)
  · obtain ⟨am, m, rfl, _⟩ := h
    rfl
  · obtain ⟨am, m, rfl, hm, M, qN, qR⟩ := h
    obtain ⟨ms, hms, pms⟩ := id hm
    refine ⟨_, pss_cons (ps_set (i := 1) sc_read.nd rfl (.inl rfl) (oneAt P w hr.units (pps_cons (pe_tup (pa_cons (pe_tup (pa_cons (pe_tup (pa_cons pe_int (pa_cons pe_int (pa_cons pe_int pa_nil)))) (pa_cons pe_int pa_nil))) pa_nil)) (pe_lst pa_nil) pps_nil)))
      (pss_cons (ps_while PassesOwn.never (pt_cmpR (neAt P w hr.units) (pv 1) (newAt P w) (nomark _))
        (pss_cons (ps_set (i := 2) sc_read.nd rfl (.inl rfl) (newAt P w))
        (pss_cons (ps_lock (ps_for PassesOwn.never rfl (keysAt P w (pv 1)) (pg_name (i := 3) sc_read.nd rfl (.inl rfl))
          (pss_one (ps_for PassesOwn.never rfl (pi_tup (pe_glob (v := .ref aS) (by rfl) mS rfl)) (pg_name (i := 4) sc_read.nd rfl (.inl rfl))
            (pss_cons (ps_set (i := 5) sc_read.nd rfl (.inl rfl) (pe_call GC hr rfl DC.mg DC.fn.kp DC.binds .nil pass0 (pa_cons (pv 0) (pa_cons (pv 3) (pa_cons (pv 4) pa_nil)))))
            (pss_cons (ps_set (i := 6) sc_read.nd rfl (.inl rfl) (pe_op op_cat (getAt P w hr.units (pv 1) (pv 3) (fun _ _ => rfl)) (pe_lst (pa_cons (pv 4) pa_nil))))
            (pss_cons (ps_if (PW.pt (pw_and (pt_val (pe_ix ix_tup (pv 4) pe_int (fun _ _ => rfl))) (pw_and1 (pt_cmpR (op_inT (u65 hr)) (pe_tup (pa_cons (pe_tup (pa_cons (pe_callB call_len_seq (by rfl) T.len boot_len (pa_cons (pv 0) pa_nil)) (pa_cons pe_int (pa_cons pe_int pa_nil)))) (pa_cons pe_int pa_nil))) (pv 5) (by rfl)))))
              (pss_one (ps_ret (pv 6))) pss_nil)
            (pss_one (ps_if (pt_cmpR (op_neD hr.units) (pv 5) (pe_tup pa_nil) (nomark _)) (pss_one (ps_expr (setdAt P w hr.units (pv 2) (pv 5) (pv 6) ⟨rfl, rfl, rfl, rfl⟩))) pss_nil)))))))))
        (pss_one (ps_set (i := 1) sc_read.nd rfl (.inl rfl) (pv 2))))))
      (pss_one (ps_ret pe_non))), ?_⟩
    -- layer = {(((0, 0, 0), 1),): []}
    intro d hd
    have s1 := same_new (o := dnO P w d []) hd
    refine ⟨by show 3 ≤ sizeLine; decide, fun b hb => ⟨by show 2 ≤ sizeLine; decide, fun p hp => ⟨by show 1 ≤ sizeLine; decide, fun t ht => ⟨by show 0 ≤ sizeLine; decide, fun l hl => ?_⟩⟩⟩⟩
    have s2 := same_new (o := .tup [.int 0, .int 0, .int 0]) hb
    have s3 := same_new (o := .tup [.ref b, .int 1]) hp
    have s4 := same_new (o := .tup [.ref p]) ht
    have s5 := same_new (o := .lst []) hl
    have hdd := (((s2.trans s3).trans s4).trans s5) _ _ upd_same
    refine ⟨hdd, t, init, l, rfl, ?_, ?_⟩
    · refine ⟨[.ref p], s5 _ _ upd_same, pd_one ⟨p, b, rfl, s5 _ _ (s4 _ _ upd_same), s5 _ _ (s4 _ _ (s3 _ _ upd_same))⟩⟩
    · -- while layer != {}
      have sA : Same (upd H d (dnO P w d [])) (upd (upd (upd (upd (upd H d (dnO P w d [])) b (.tup [.int 0, .int 0, .int 0])) p (.tup [.ref b, .int 1])) t (.tup [.ref p])) l (.lst [])) := ((s2.trans s3).trans s4).trans s5
      have oD := odd_dn hdd
      have bD := But.upd d (upd (upd (upd (upd (upd H d (dnO P w d [])) b (.tup [.int 0, .int 0, .int 0])) p (.tup [.ref b, .int 1])) t (.tup [.ref p])) l (.lst [])) (dnO P w d [(init, t, l)])
      have sH : Same H (upd (upd (upd (upd (upd (upd H d (dnO P w d [])) b (.tup [.int 0, .int 0, .int 0])) p (.tup [.ref b, .int 1])) t (.tup [.ref p])) l (.lst [])) d (dnO P w d [(init, t, l)])) := ((But.of (s1.trans sA)).trans bD).same hd
      have e0 : EntL K (upd (upd (upd (upd (upd (upd H d (dnO P w d [])) b (.tup [.int 0, .int 0, .int 0])) p (.tup [.ref b, .int 1])) t (.tup [.ref p])) l (.lst [])) d (dnO P w d [(init, t, l)])) (init, t, l) (init, []) :=
        entl_but bD oD ⟨rfl, ⟨[.ref p], s5 _ _ upd_same, pd_one ⟨p, b, rfl, s5 _ _ (s4 _ _ upd_same), s5 _ _ (s4 _ _ (s3 _ _ upd_same))⟩⟩, [], upd_same, .nil⟩
      refine ⟨fun n σ H2 => ∃ k, n = 10 - k ∧ Lp P w K m am H k σ H2, ⟨10, 0, rfl, ⟨d, none, none, none, none, none, _, _, rfl, sH, hd, upd_same, pd_one e0, good_start, rfl, Nat.zero_le _⟩⟩, ?_⟩
      clear e0 sH bD oD sA hdd s5 s4 s3 s2 s1 hl ht hp hb hd
      rintro n σ H2 ⟨k, rfl, ⟨d, v2, v3, v4, v5, v6, L, lay, rfl, sH, hd, hdd, pl, g, se, hk⟩⟩
      refine ⟨_, rfl, fun e he => ⟨d, e, L, rfl, rfl, Rd.of (same_new he _ _ hdd), upd_same, _, rfl, ?_⟩⟩
      have sE := same_new (o := dnO P w e []) he
      by_cases hL : L = []
      · rw [decide_eq_true hL]
        refine iteF (qN _ (sH.trans sE) ?_)
        subst hL
        cases pl
        rw [← se, search_nil]
      · rw [decide_eq_false hL]
        have hlay : lay ≠ [] := fun z => hL (by
          have := pd_len pl
          rw [z] at this
          exact List.length_eq_zero_iff.mp this)
        have hk9 := few_layers M g hlay
        have hlen := g.len hk9
        refine iteT ⟨Lp P w K m am H (k + 1), fun σ' H' x => ⟨10 - (k + 1), by omega, k + 1, rfl, x⟩, fun b hb => ?_⟩
        have sB := same_new (o := dnO P w b []) hb
        have hd4 := sB _ _ (sE _ _ hdd)
        have ndb : d ≠ b := ne_of_none (sE _ _ hdd) hb
        -- for counts in layer, the dict locked
        refine ⟨d, _, hd4, True.intro, fun od => ⟨_, rfl, d, od, L, rfl, upd_same, ?_⟩⟩
        have bF := But.upd d (upd (upd H2 e (dnO P w e [])) b (dnO P w b [])) (.frz od (dnO P w d L))
        have hbH : H b = none := Same.free (sH.trans sE) hb
        have sHs : Same H (upd (upd (upd H2 e (dnO P w e [])) b (dnO P w b [])) d (.frz od (dnO P w d L))) := ((But.of ((sH.trans sE).trans sB)).trans bF).same hd
        have plS := lay_but bF (odd_dn hd4) (lay_same (sE.trans sB) pl)
        have hbs : upd (upd (upd H2 e (dnO P w e [])) b (dnO P w b [])) d (.frz od (dnO P w d L)) b = some (dnO P w b []) := by
          rw [upd_ne (Ne.symm ndb)]
          exact upd_same
        have hds : upd (upd (upd H2 e (dnO P w e [])) b (dnO P w b [])) d (.frz od (dnO P w d L)) d = some (.frz od (dnO P w d L)) := upd_same
        clear bF hd4 sB hb sE he pl hdd
        generalize upd (upd (upd H2 e (dnO P w e [])) b (dnO P w b [])) d (.frz od (dnO P w d L)) = Hs at *
        have oB : Odd Hs b := odd_dn hbs
        refine for_it walkN (fun i σ H5 => ∃ (v3 v4 v5 v6 : Option V) (Lb : List DEnt) (bl : Lay), σ = [some (.ref am), some (.ref d), some (.ref b), v3, v4, v5, v6] ∧ But b Hs H5 ∧ H5 b = some (dnO P w b Lb) ∧ Paired (EntL K H5) Lb bl ∧ go2 LE m (lay.take i) [] = .inr bl)
          ⟨v3, v4, v5, v6, [], [], rfl, .of (Same.refl _), hbs, .nil, rfl⟩ (fun i σ H5 _ ⟨_, _, _, _, _, _, _, b5, _⟩ => b5 d _ ndb hds) ?_ ?_
        · rintro i v σ _ H5 hi ⟨v3, v4, v5, v6, Lb, bl, rfl, b5, hb5, pb, hgo⟩ ⟨rfl, en, hen, rfl⟩
          have hen' : en ∈ L := List.mem_of_getElem? hen
          obtain ⟨⟨c, r⟩, hcr, ec, _, _⟩ := pd_get' plS hen
          have ec' : en.1 = c := ec
          obtain ⟨er1, er2, er3, er4⟩ := g.ent _ (List.mem_of_getElem? hcr)
          have er1' : r.length = k := er1
          have er2' : Cn LE m r = c := er2
          have ndL : (L.map (·.1)).Nodup := by rw [lay_fst plS]; exact g.nd
          have hval : ∀ y, y ∈ c → Val m y.1 := fun y hy => ((Cn_val (le := LE) M r).1 y (by rw [er2']; exact hy)).1
          have hcl : c.length ≤ 1000000 := by rw [← er2']; exact len_Cn9 M (by omega)
          have hgo' : ∀ z, go1 LE m c r STEPS bl = z → go2 LE m (lay.take (i + 1)) [] = z := fun z e => (scan_go (fun p : Cnt × Row => go1 LE m p.1 p.2 STEPS) hcr (b := []) hgo).trans e
          -- for step in STEPS
          refine ⟨aS, rfl, ⟨sv, S.tab _⟩, for_tup (K := K) (a := aS) (xs := sv) (fun j σ H7 => ∃ (v4 v5 v6 : Option V) (Lb : List DEnt) (bl' : Lay), σ = [some (.ref am), some (.ref d), some (.ref b), some (.ref en.2.1), v4, v5, v6] ∧ But b Hs H7 ∧ H7 b = some (dnO P w b Lb) ∧
              Paired (EntL K H7) Lb bl' ∧ scan (turn1 LE m c r) (STEPS.take j) bl = .inr bl') ⟨v4, v5, v6, Lb, bl, rfl, b5, hb5, pb, rfl⟩ (fun j σ H7 _ _ => S.tab H7) ?_ ?_⟩
          · rintro j v σ H7 hj ⟨v4, v5, v6, Lb, bl', rfl, b7, hb7, pb7, hsc⟩
            obtain ⟨x, hx, ax, rfl, hq⟩ := pd_get' (S.each H7) hj
            have pl7 := lay_but b7 oB plS
            obtain ⟨_, hcr', _, ct7, rw7⟩ := pd_get' pl7 hen
            rw [hcr] at hcr'
            cases hcr'
            have sH7 : Same H H7 := ((But.of sHs).trans b7).same hbH
            have fz7 := b7 d _ ndb hds
            -- behind = counted_on(metre, counts, step)
            refine ⟨_, rfl, _, rfl, _, rfl, am, en.2.1, ax, m, c, x, rfl, met_mono (same_tups sH7) hm, M, ct7, hval, hcl, ⟨ax, rfl, hq⟩, fun t H8 s8 ct8 => ?_⟩
            obtain ⟨rv, hrv, prv⟩ := row_mono s8 rw7
            have lrv : rv.length = k := (pd_len prv).trans er1'
            -- row = layer[counts] + [step]
            refine ⟨_, rfl, _, rfl, d, L, en.2.1, c, en, rfl, .inr ⟨od, s8 _ _ fz7⟩, lay_keys (lay_same s8 pl7), rfl, cnt_mono (same_tups s8) ct7, by rw [← ec']; exact lay_find ndL hen', ?_⟩
            refine ⟨_, rfl, by show 1 ≤ sizeLine; decide, fun l2 hl2 => ⟨en.2.2, l2, rv, [.ref ax], rfl, rfl, same_new hl2 _ _ hrv, upd_same, by rw [lrv]; exact line_of (by show k + 1 ≤ 1000; omega), fun p hp => ?_⟩⟩
            have s9 := same_new (o := .lst [.ref ax]) hl2
            have s10 := same_new (o := .lst (rv ++ [.ref ax])) hp
            have s8x := (s8.trans s9).trans s10
            have row10 : RowAt K (upd (upd H8 l2 (.lst [.ref ax])) p (.lst (rv ++ [.ref ax]))) p (r ++ [x]) :=
              ⟨_, upd_same, pd_snoc (pd_mono (fun _ _ => step_mono (s9.trans s10)) prv) ⟨ax, rfl, Same.sqt s8x hq⟩⟩
            have ct10 := cnt_mono (same_tups (s9.trans s10)) ct8
            have freeP : H p = none := Same.free (sH7.trans (s8.trans s9)) hp
            clear hl2 hp s9 s10 prv hrv ct8 s8
            generalize upd (upd H8 l2 (.lst [.ref ax])) p (.lst (rv ++ [.ref ax])) = H10 at *
            have hsc' := scan_go (turn1 LE m c r) hx hsc
            have et : turn1 LE m c r x bl' = if isAmb m (countedOn LE m c x) x = true then .inl (r ++ [x]) else .inr (if countedOn LE m c x = [] then bl' else sd bl' (countedOn LE m c x) (r ++ [x])) := rfl
            rw [et] at hsc'
            have ms10 := (sH7.trans s8x) _ _ hms
            have lms : ms.length = m.length := pd_len pms
            -- if step[1] and ((len(metre), 0, 0), 2) in behind
            refine ⟨_, rfl, ax, _, 1, _, rfl, rfl, Same.sqt s8x hq, rfl, x.2, rfl, ?_⟩
            by_cases amb : isAmb m (countedOn LE m c x) x = true
            · rw [if_pos amb] at hsc'
              unfold isAmb at amb
              rw [Bool.and_eq_true] at amb
              refine ite2 (fun _ => ?_) (fun z => absurd amb.1 z)
              refine ⟨_, rfl, am, ms, rfl, .inr (SqT.of ms10), by show 3 ≤ sizeLine; decide, fun q1 hq1 => ⟨by show 2 ≤ sizeLine; decide, fun q2 hq2 => ?_⟩⟩
              have s11 := same_new (o := .tup [.int (ms.length : Nat), .int 0, .int 0]) hq1
              have s12 := same_new (o := .tup [.ref q1, .int 2]) hq2
              refine ⟨_, rfl, encE (done m, 2), _, dp_done lms upd_same (s12 _ _ upd_same), cnt_dp (cnt_mono (same_tups (s11.trans s12)) ct10), encE_shaped _, encs_shaped _, _, rfl, ?_⟩
              rw [encs_in, amb.2]
              have fz12 := (s8x.trans (s11.trans s12)) _ _ fz7
              refine iteT ⟨_, rfl, fz12, ?_⟩
              have bU := But.upd d (upd (upd H10 q1 (.tup [.int (ms.length : Nat), .int 0, .int 0])) q2 (.tup [.ref q1, .int 2])) (dnO P w d L)
              refine qR p (r ++ [x]) _ (((But.of (sH7.trans (s8x.trans (s11.trans s12)))).trans bU).same hd) freeP (row_but bU (odd_frz fz12) (row_mono (s11.trans s12) row10)) ?_
              have g1 := hgo' _ (scan_stop (turn1 LE m c r) hsc')
              have g2 : go2 LE m lay [] = .inl (r ++ [x]) := scan_stop (fun p : Cnt × Row => go1 LE m p.1 p.2 STEPS) (b := []) g1
              have e10 : 10 - k = (10 - (k + 1)) + 1 := by omega
              rw [e10, search_step hlay, g2] at se
              exact se.symm
            · rw [if_neg amb] at hsc'
              have few : Lb.length < sizeLine := by
                have f1 := go1_few hsc
                have f2 := go2_few hgo
                have f3 := pd_len pb7
                rw [sizeLine_eq]
                omega
              refine ite2 (fun hx2 => ?_) (fun hx2 => iteF ?_)
              · refine ⟨_, rfl, am, ms, rfl, .inr (SqT.of ms10), by show 3 ≤ sizeLine; decide, fun q1 hq1 => ⟨by show 2 ≤ sizeLine; decide, fun q2 hq2 => ?_⟩⟩
                have s11 := same_new (o := .tup [.int (ms.length : Nat), .int 0, .int 0]) hq1
                have s12 := same_new (o := .tup [.ref q1, .int 2]) hq2
                refine ⟨_, rfl, encE (done m, 2), _, dp_done lms upd_same (s12 _ _ upd_same), cnt_dp (cnt_mono (same_tups (s11.trans s12)) ct10), encE_shaped _, encs_shaped _, _, rfl, ?_⟩
                have nm : decide ((done m, 2) ∈ countedOn LE m c x) = false := by
                  refine Bool.eq_false_iff.mpr fun z => amb ?_
                  unfold isAmb
                  rw [Bool.and_eq_true]
                  exact ⟨hx2, z⟩
                rw [encs_in, nm]
                refine iteF ?_
                have sx := s8x.trans (s11.trans s12)
                have rowX := row_mono (s11.trans s12) row10
                have ctX := cnt_mono (same_tups (s11.trans s12)) ct10
                clear s11 s12 hq2 hq1
                generalize upd (upd H10 q1 (.tup [.int (ms.length : Nat), .int 0, .int 0])) q2 (.tup [.ref q1, .int 2]) = HX at *
                -- if behind != (): below.setdefault(behind, row)
                refine ⟨_, rfl, by show 0 ≤ sizeLine; decide, fun q3 hq3 => ⟨_, .tuple [], cnt_dp (cnt_mono (same_tups (same_new hq3)) ctX), .tup (SqT.of upd_same) .nil, encs_shaped _, encs_shaped [], _, rfl, ?_⟩⟩
                rw [encs_nil]
                have s13 := same_new (o := .tup []) hq3
                have sy := sx.trans s13
                have rowY := row_mono s13 rowX
                have ctY := cnt_mono (same_tups s13) ctX
                by_cases hc : countedOn LE m c x = []
                · rw [decide_eq_true hc]
                  rw [if_pos hc] at hsc'
                  exact iteF ⟨_, _, _, Lb, bl', rfl, b7.trans (.of sy), sy _ _ hb7, lay_same sy pb7, hsc'⟩
                · rw [decide_eq_false hc]
                  rw [if_neg hc] at hsc'
                  have any := lay_any pb7 (countedOn LE m c x)
                  unfold sd at hsc'
                  refine iteT ⟨_, rfl, b, Lb, rfl, sy _ _ hb7, _, rfl, _, rfl, Lb, t, countedOn LE m c x, p, sy _ _ hb7, lay_keys (lay_same sy pb7), rfl, ctY, rfl, few, fun e0 he0 => ?_, fun hn => ?_⟩
                  · rw [he0] at any
                    rw [if_pos (show (bl'.any fun z => decide (z.1 = countedOn LE m c x)) = true from any.symm)] at hsc'
                    exact ⟨_, _, _, Lb, bl', rfl, b7.trans (.of sy), sy _ _ hb7, lay_same sy pb7, hsc'⟩
                  · rw [hn] at any
                    rw [if_neg (show ¬ (bl'.any fun z => decide (z.1 = countedOn LE m c x)) = true from fun z => nomatch any.trans z)] at hsc'
                    have oY := odd_dn (sy _ _ hb7)
                    exact ⟨_, _, _, _, _, rfl, (b7.trans (.of sy)).trans (But.upd b _ _), upd_same, pd_snoc (lay_but (But.upd b _ _) oY (lay_same sy pb7)) (entl_but (But.upd b _ _) oY ⟨rfl, ctY, rowY⟩), hsc'⟩
              · have sx := s8x
                have rowX := row10
                have ctX := ct10
                -- if behind != (): below.setdefault(behind, row)
                refine ⟨_, rfl, by show 0 ≤ sizeLine; decide, fun q3 hq3 => ⟨_, .tuple [], cnt_dp (cnt_mono (same_tups (same_new hq3)) ctX), .tup (SqT.of upd_same) .nil, encs_shaped _, encs_shaped [], _, rfl, ?_⟩⟩
                rw [encs_nil]
                have s13 := same_new (o := .tup []) hq3
                have sy := sx.trans s13
                have rowY := row_mono s13 rowX
                have ctY := cnt_mono (same_tups s13) ctX
                by_cases hc : countedOn LE m c x = []
                · rw [decide_eq_true hc]
                  rw [if_pos hc] at hsc'
                  exact iteF ⟨_, _, _, Lb, bl', rfl, b7.trans (.of sy), sy _ _ hb7, lay_same sy pb7, hsc'⟩
                · rw [decide_eq_false hc]
                  rw [if_neg hc] at hsc'
                  have any := lay_any pb7 (countedOn LE m c x)
                  unfold sd at hsc'
                  refine iteT ⟨_, rfl, b, Lb, rfl, sy _ _ hb7, _, rfl, _, rfl, Lb, t, countedOn LE m c x, p, sy _ _ hb7, lay_keys (lay_same sy pb7), rfl, ctY, rfl, few, fun e0 he0 => ?_, fun hn => ?_⟩
                  · rw [he0] at any
                    rw [if_pos (show (bl'.any fun z => decide (z.1 = countedOn LE m c x)) = true from any.symm)] at hsc'
                    exact ⟨_, _, _, Lb, bl', rfl, b7.trans (.of sy), sy _ _ hb7, lay_same sy pb7, hsc'⟩
                  · rw [hn] at any
                    rw [if_neg (show ¬ (bl'.any fun z => decide (z.1 = countedOn LE m c x)) = true from fun z => nomatch any.trans z)] at hsc'
                    have oY := odd_dn (sy _ _ hb7)
                    exact ⟨_, _, _, _, _, rfl, (b7.trans (.of sy)).trans (But.upd b _ _), upd_same, pd_snoc (lay_but (But.upd b _ _) oY (lay_same sy pb7)) (entl_but (But.upd b _ _) oY ⟨rfl, ctY, rowY⟩), hsc'⟩
          · rintro σ H7 ⟨v4, v5, v6, Lb, bl', rfl, b7, hb7, pb7, hsc⟩
            have l4 : sv.length = 4 := pd_len (S.each H7)
            rw [l4] at hsc
            exact ⟨_, _, _, _, Lb, bl', rfl, b7, hb7, pb7, hgo' _ hsc⟩
        · rintro σ H5 ⟨v3, v4, v5, v6, Lb, bl, rfl, b5, hb5, pb, hgo⟩
          have fz5 := b5 d _ ndb hds
          rw [pd_len plS, List.take_length] at hgo
          have bU := But.upd d H5 (dnO P w d L)
          have sU : Same H (upd H5 d (dnO P w d L)) := (((But.of (((But.of sHs).trans b5).same hbH))).trans bU).same hd
          refine ⟨fz5, _, rfl, ⟨b, _, _, _, _, _, Lb, bl, rfl, sU, hbH, bU _ _ (Ne.symm ndb) hb5, lay_but bU (odd_frz fz5) pb, good_step g hgo, ?_, by omega⟩⟩
          have e10 : 10 - k = (10 - (k + 1)) + 1 := by omega
          rw [e10, search_step hlay, hgo] at se
          exact se
end
end Rt
end
section
set_option Elab.async false
set_option linter.all false
set_option maxRecDepth 100000
set_option maxHeartbeats 4000000
/-! The law's own defs: the cell, the mix, a pattern, a slot, the metre. -/
namespace Rt
open PySem L2
/-- a pattern as the law draws it -/
structure POk (p : Pat) : Prop where
  pos : 1 ≤ p.length
  most : p.length ≤ 3
  codes : ∀ c, c ∈ p → c = 117 ∨ c = 45 ∨ c = 120
structure SOk (s : Slot) : Prop where
  pos : 1 ≤ s.1.length
  most : s.1.length ≤ 3
  pats : ∀ p, p ∈ s.1 → POk p
theorem mok_of {m : Met} (h1 : 1 ≤ m.length) (h3 : m.length ≤ 3) (h : ∀ s, s ∈ m → SOk s) : MOk m :=
  ⟨h1, h3, fun s hs => ⟨(h s hs).pos, (h s hs).most⟩, fun s hs p hp => ⟨((h s hs).pats p hp).pos, ((h s hs).pats p hp).most⟩, fun s hs p hp => ((h s hs).pats p hp).codes⟩
theorem join_nil : ∀ p : List Nat, TL.joinL [] (p.map fun c => [c]) = p
  | [] => rfl
  | [c] => rfl
  | c :: e :: p => by
    have ih := join_nil (e :: p)
    show [c] ++ ([] ++ TL.joinL [] ((e :: p).map fun c => [c])) = c :: e :: p
    rw [ih]
    rfl
theorem join_tx (p : List Nat) : Txt.join ("" : Str) (p.map ch) = tx p := by
  rw [TL.join_eq]
  refine TL.ext_tl ?_
  rw [TL.tl_join]
  have e : (p.map ch).map TL.tl = p.map fun c => [c] := by
    rw [List.map_map]
    rfl
  rw [e]
  exact join_nil p
theorem sum_ch : ∀ p : List Nat, ((p.map ch).map (·.length)).sum = p.length
  | [] => rfl
  | c :: p => by
    show (ch c).length + ((p.map ch).map (·.length)).sum = p.length + 1
    rw [sum_ch p]
    show 1 + p.length = p.length + 1
    omega
/-! ### rules in a comprehension's block: the written part by name -/
section
variable {X : Cx} (K : PySem.W.Frag)
theorem ixL (hK : X.K = K := by rfl) : IxR X (rIxL K) := by
  subst hK
  exact ix_list
theorem ixT (hK : X.K = K := by rfl) : IxR X (rIxT K) := by
  subst hK
  exact ix_tup
theorem notInB (hK : X.K = K := by rfl) : OpR X (compareOp .NotIn) (rIn K true) := by
  subst hK
  exact op_notIn_seq
end
theorem table_at {i : Nat} (h : i ≤ 2) : ∃ d : Int, atI [V.int 4, V.int 12, V.int 36, V.int 108] (0 + ((i : Nat) : Int)) = some (.int d) ∧ 0 < d ∧ d < 1073741824 := by
  have q : i = 0 ∨ i = 1 ∨ i = 2 := by omega
  rcases q with rfl | rfl | rfl
  · exact ⟨4, at_of (j := 0) rfl rfl, by decide, by decide⟩
  · exact ⟨12, at_of (j := 1) rfl rfl, by decide, by decide⟩
  · exact ⟨36, at_of (j := 2) rfl rfl, by decide, by decide⟩
theorem sign_at {r : Int} (h0 : 0 ≤ r) (h3 : r < 3) : ∃ c, (c = 117 ∨ c = 45 ∨ c = 120) ∧ atI ("u-x" : Str).cps.toList r = some c := by
  have q : r = 0 ∨ r = 1 ∨ r = 2 := by omega
  rcases q with rfl | rfl | rfl
  · exact ⟨117, .inl rfl, by decide +kernel⟩
  · exact ⟨45, .inr (.inl rfl), by decide +kernel⟩
  · exact ⟨120, .inr (.inr rfl), by decide +kernel⟩
section
variable {P : Program} {w : World} {K : PySem.W.Frag} {mg : Str → Option Value} {base : Heap}
/-! ### the cell -/
def spCell (K : PySem.W.Frag) : Sp := fun vs H Q _ => ∃ (a : Addr) (ns : List Int) (k : Nat), vs = [.ref a, .int (k : Nat)] ∧ SqL K H a (ns.map V.int) ∧ ∀ n : Int, Q (.int n) H
theorem sc_cell : FnScope ["_law_script", "_law_k"] ["_law_script", "_law_k"] (defScope sCell) := ⟨rfl, rfl, rfl, by decide +kernel, rfl, by decide +kernel, by decide +kernel⟩
theorem ok_cell {f : Addr} {fd : FuncData} (F : Fun K "_law_cell_at" "_law_cell_at" sCell f fd) (T : Txt mg) : FnOk P w K mg base CX0 1 f fd ["_law_script", "_law_k"] (spCell K) := by
  refine F.ok sc_cell (fun vs H Q E h => ?_) (fun cdv A outer s0 H vs Q E hr h => ?_)
  · obtain ⟨a, ns, k, rfl, _⟩ := h
    rfl
  · obtain ⟨a, ns, k, rfl, hs, q⟩ := h
    refine ⟨_, pss_cons (ps_if (pt_cmpR op_lt (pv 1) (pe_callB call_len_seq (by rfl) T.len boot_len (pa_cons (pv 0) pa_nil)) (nomark _)) (pss_one (ps_ret (pe_ix ix_list (pv 0) (pv 1) (fun _ _ => rfl)))) pss_nil) (pss_one (ps_ret pe_int)), ?_⟩
    refine ⟨_, rfl, _, rfl, a, _, rfl, .inl hs, _, _, rfl, rfl, _, rfl, ?_⟩
    refine ite2 (fun h => ?_) (fun h => q 0)
    have lt : ((k : Nat) : Int) < ((ns.map V.int).length : Nat) := of_decide_eq_true h
    have lt' : k < ns.length := by rw [List.length_map] at lt; omega
    refine ⟨_, rfl, _, rfl, a, _, _, .int ns[k], rfl, rfl, hs, at_ok ?_, q _⟩
    rw [List.getElem?_map, List.getElem?_eq_getElem lt']
    rfl
/-! ### the mix -/
def spMix : Sp := fun vs H Q _ => ∃ (c : Int) (k : Nat), vs = [.int c, .int (k : Nat)] ∧ k ≤ 100 ∧ ∀ n : Int, 0 ≤ n → n < 2147483647 → Q (.int n) H
theorem sc_mix : FnScope ["_law_cell", "_law_k"] ["_law_cell", "_law_k"] (defScope sMix) := ⟨rfl, rfl, rfl, by decide +kernel, rfl, by decide +kernel, by decide +kernel⟩
theorem ok_mix {f : Addr} {fd : FuncData} (F : Fun K "_law_mix" "_law_mix" sMix f fd) : FnOk P w K mg base CX0 1 f fd ["_law_cell", "_law_k"] spMix := by
  refine F.ok sc_mix (fun vs H Q E h => ?_) (fun cdv A outer s0 H vs Q E hr h => ?_)
  · obtain ⟨c, k, rfl, _⟩ := h
    rfl
  · obtain ⟨c, k, rfl, hk, q⟩ := h
    refine ⟨_, pss_one (ps_ret (pe_op op_mod (pe_op op_add (pe_op op_mul (pe_op op_mod (pv 0) pe_int) (pe_op op_add pe_int (pe_op op_mul (pe_op op_mul pe_int (pv 1)) (pv 1)))) (pe_op op_mul pe_int (pv 1))) pe_int)), ?_⟩
    have m1 : 0 ≤ c % 1000003 := Int.emod_nonneg _ (by decide)
    have m2 : c % 1000003 < 1000003 := Int.emod_lt_of_pos _ (by decide)
    refine ⟨_, rfl, _, _, rfl, rfl, (by show (0 : Int) < 1000003; decide), _, rfl, _, _, rfl, rfl, .inl ⟨by decide, by decide⟩, _, rfl, _, _, rfl, rfl, .inr ⟨by omega, by omega⟩, _, _, rfl, rfl, _, _, rfl, rfl, .inl ⟨by omega, by omega⟩, _, rfl, _, _, rfl, rfl, .inl ⟨by decide, by decide⟩, _, _, rfl, rfl, _, _, rfl, rfl, (by show (0 : Int) < 2147483647; decide), ?_⟩
    exact q _ (Int.emod_nonneg _ (by decide)) (Int.emod_lt_of_pos _ (by decide))
/-! ### a pattern -/
def spPattern : Sp := fun vs H Q _ => ∃ (n : Int), vs = [.int n] ∧ 0 ≤ n ∧ ∀ p H', Same H H' → POk p → Q (.str (tx p)) H'
theorem sc_pattern : FnScope ["_law_number", "_law_k"] ["_law_number"] (defScope sPattern) := ⟨rfl, rfl, rfl, by decide +kernel, rfl, by decide +kernel, by decide +kernel⟩
theorem ok_pattern {f : Addr} {fd : FuncData} (F : Fun K "_law_pattern" "_law_pattern" sPattern f fd) (T : Txt mg) : FnOk P w K mg base CX0 1 f fd ["_law_number"] spPattern := by
  refine F.ok sc_pattern (fun vs H Q E h => ?_) (fun cdv A outer s0 H vs Q E hr h => ?_)
  · obtain ⟨n, rfl, _⟩ := h
    rfl
  · obtain ⟨n, rfl, hn, q⟩ := h
    refine ⟨_, pss_one (ps_ret (pe_join pe_str (pe_lc (own := [("_law_k", 1)]) (g := gName 1) (tt := tYes) rfl sc_pattern.nd (pi_range1 (by rfl) T.range (pa_cons (pe_op op_add pe_int (pe_op op_mod (pe_op op_mod (pv 0) pe_int) pe_int)) pa_nil))
      (blkOk_by (own := [("_law_k", 1)]) (N := ["_law_number", "_law_k"]) (sc := defScope sPattern) (by decide +kernel))
      (fun _ _ _ _ _ => pg_name (i := 1) sc_pattern.nd rfl (Or.inl rfl)) (fun _ _ _ _ _ => pts_nil)
      (fun _ _ _ _ _ => pe_ix ix_str pe_str (pe_op op_mod (pe_op op_fdiv (pv 0) (pe_ix (ixL K) (pe_lst (pa_cons pe_int (pa_cons pe_int (pa_cons pe_int (pa_cons pe_int pa_nil))))) (pv 1) (fun _ _ => rfl))) pe_int) (fun _ _ => rfl))))), ?_⟩
    have r0 : 0 ≤ n % 4 % 3 := Int.emod_nonneg _ (by decide)
    have r3 : n % 4 % 3 < 3 := Int.emod_lt_of_pos _ (by decide)
    refine ⟨⟨_, rfl⟩, _, rfl, _, _, rfl, rfl, (by show (0 : Int) < 4; decide), _, _, rfl, rfl, (by show (0 : Int) < 3; decide), _, _, rfl, rfl, _, rfl, by omega, by omega, fun D hD => ?_⟩
    have len : (1 + n % 4 % 3).toNat ≤ 3 ∧ 1 ≤ (1 + n % 4 % 3).toNat := by omega
    refine lc_range (fun i H2 => ∃ p : Pat, p.length = i ∧ (∀ c, c ∈ p → c = 117 ∨ c = 45 ∨ c = 120) ∧ H2 D = some (.lst (p.map fun c => V.str (ch c))) ∧ But D H H2)
      ⟨[], rfl, (fun c hc => nomatch hc), upd_same, But.upd _ _ _⟩ ?_ ?_
    · rintro i H2 hi ⟨p, hp, cs, h2, b2⟩
      obtain ⟨d, hd, d0, d1⟩ := table_at (i := i) (by omega)
      obtain ⟨c, hc, ec⟩ := sign_at (r := n / d % 3) (Int.emod_nonneg _ (by decide)) (Int.emod_lt_of_pos _ (by decide))
      refine ⟨rfl, _, rfl, by show 4 ≤ sizeLine; decide, fun l hl => ⟨_, rfl, l, _, _, _, rfl, rfl, SqL.of upd_same, hd, _, _, rfl, rfl, ⟨d0, d1⟩, _, _, rfl, rfl, (by show (0 : Int) < 3; decide), ("u-x" : Str), _, c, rfl, rfl, by decide +kernel, ec, ?_⟩⟩
      have s3 := same_new (o := .lst [.int 4, .int 12, .int 36, .int 108]) hl
      refine ⟨_, s3 _ _ h2, ?_, p ++ [c], by rw [List.length_append, hp]; rfl, fun z hz => ?_, ?_, (b2.trans (.of s3)).trans (But.upd _ _ _)⟩
      · rw [List.length_map]
        exact small1000 (by omega)
      · rcases List.mem_append.mp hz with hz | hz
        · exact cs z hz
        · rw [List.mem_singleton.mp hz]; exact hc
      · rw [upd_same, List.map_append]
        rfl
    · rintro H2 ⟨p, hp, cs, h2, b2⟩
      have e : (p.map fun c => V.str (ch c)) = (p.map ch).map V.str := by rw [List.map_map]; rfl
      refine ⟨("" : Str), D, p.map ch, rfl, rfl, .inl (SqL.of (by rw [h2, e])), ?_, ?_⟩
      · rw [sum_ch]
        show p.length + (p.map ch).length * 0 ≤ 16777216
        omega
      · rw [join_tx]
        exact q p H2 (b2.same hD) ⟨by omega, by omega, cs⟩
end
end Rt
end
section
set_option Elab.async false
set_option linter.all false
set_option maxRecDepth 100000
set_option maxHeartbeats 4000000
/-! The law's own defs: a slot, the metre. -/
namespace Rt
open PySem L2
theorem flat_pats (ps : List Pat) : (ps.map fun p => V.str (tx p)).all flatV = true := by
  rw [List.all_map, List.all_eq_true]
  intro p _
  rfl
section
variable {P : Program} {w : World} {K : PySem.W.Frag} {mg : Str → Option Value} {base : Heap}
/-! ### a slot -/
def spSlot : Sp := fun vs H Q _ => ∃ (n : Int), vs = [.int n] ∧ 0 ≤ n ∧ ∀ (s : Slot) t H', Same H H' → H t = none → SOk s → SlotAt H' (.ref t) s → Q (.ref t) H'
theorem sc_slot : FnScope ["_law_number", "_law_patterns", "_law_k", "_law_one"] ["_law_number"] (defScope sSlot) := ⟨rfl, rfl, rfl, by decide +kernel, rfl, by decide +kernel, by decide +kernel⟩
theorem ok_slot {f fP fM : Addr} {fd fdP fdM : FuncData} (F : Fun K "_law_slot" "_law_slot" sSlot f fd) (T : Txt mg) (DP : Def K mg "_law_pattern" sPattern fP fdP ["_law_number"]) (DM : Def K mg "_law_mix" sMix fM fdM ["_law_cell", "_law_k"]) :
    FnOk P w K mg base CX0 2 f fd ["_law_number"] spSlot := by
  have GP : FnOk P w K mg base CX0 1 fP fdP ["_law_number"] spPattern := ok_pattern DP.fn T
  have GM : FnOk P w K mg base CX0 1 fM fdM ["_law_cell", "_law_k"] spMix := ok_mix DM.fn
  refine F.ok sc_slot (fun vs H Q E h => ?_) (fun cdv A outer s0 H vs Q E hr h => ?_)
  · obtain ⟨n, rfl, _⟩ := h
    rfl
  · obtain ⟨n, rfl, hn, q⟩ := h
    refine ⟨_, pss_cons (ps_set (i := 1) sc_slot.nd rfl (.inl rfl) (pe_lst pa_nil))
      (pss_cons (ps_for PassesOwn.never rfl (pi_range1 (by rfl) T.range (pa_cons (pe_op op_add pe_int (pe_op op_mod (pv 0) pe_int)) pa_nil)) (pg_name (i := 2) sc_slot.nd rfl (.inl rfl))
        (pss_cons (ps_set (i := 3) sc_slot.nd rfl (.inl rfl) (pe_call GP hr rfl DP.mg DP.fn.kp DP.binds .nil pass0 (pa_cons (pe_call GM hr rfl DM.mg DM.fn.kp DM.binds .nil pass0 (pa_cons (pe_op op_fdiv (pv 0) pe_int) (pa_cons (pv 2) pa_nil))) pa_nil)))
        (pss_one (ps_if (pt_cmpR op_notIn_seq (pv 3) (pv 1) (by rfl)) (pss_one (ps_expr (pe_bm PySem.F.plainAttrs_list PySem.F.slot_list_append PySem.F.type_list_append mt_append (pv 1) (pa_cons (pv 3) pa_nil)))) pss_nil))))
      (pss_one (ps_ret (pe_tup (pa_cons (pe_callTy call_tuple_of (by rfl) T.tuple PyProof.Rows.boot_tuple (pa_cons (pv 1) pa_nil)) (pa_cons (pe_cmpR op_eq (pe_op op_mod (pe_op op_fdiv (pv 0) pe_int) pe_int) pe_int (nomark _)) pa_nil)))))), ?_⟩
    refine ⟨by show 0 ≤ sizeLine; decide, fun l hl => ?_⟩
    have r0 : 0 ≤ n % 3 := Int.emod_nonneg _ (by decide)
    have r3 : n % 3 < 3 := Int.emod_lt_of_pos _ (by decide)
    have len : (1 + n % 3).toNat ≤ 3 ∧ 1 ≤ (1 + n % 3).toNat := by omega
    refine ⟨_, rfl, _, _, rfl, rfl, (by show (0 : Int) < 3; decide), _, _, rfl, rfl, _, rfl, by omega, by omega, for_range (fun i σ H2 => ∃ (v2 v3 : Option V) (ps : List Pat), σ = [some (.int n), some (.ref l), v2, v3] ∧ But l H H2 ∧ H2 l = some (.lst (ps.map fun p => V.str (tx p))) ∧
        ps.length ≤ i ∧ (1 ≤ i → 1 ≤ ps.length) ∧ ∀ p, p ∈ ps → POk p) ⟨none, none, [], rfl, But.upd _ _ _, upd_same, Nat.le_refl _, (fun z => absurd z (by decide)), fun p hp => nomatch hp⟩ ?_ ?_⟩
    · rintro i σ H2 hi ⟨v2, v3, ps, rfl, b2, h2, hl2, hne, hps⟩
      refine ⟨_, rfl, _, _, rfl, rfl, ⟨by decide, by decide⟩, _, rfl, n / 3, i, by rw [Int.zero_add]; rfl, by omega, fun m m0 m1 => ⟨m, rfl, m0, fun p H3 s3 hp => ?_⟩⟩
      have h3 := s3 _ _ h2
      refine ⟨_, rfl, _, rfl, l, _, rfl, .inl (SqL.of h3), rfl, flat_pats ps, _, rfl, ?_⟩
      show if (!inV (V.str (tx p)) (ps.map fun p => V.str (tx p))) = true then _ else _
      cases hin : inV (V.str (tx p)) (ps.map fun p => V.str (tx p)) with
      | true =>
        refine iteF ⟨_, _, ps, rfl, b2.trans (.of s3), h3, by omega, fun _ => ?_, hps⟩
        cases ps with
        | nil => exact nomatch hin
        | cons z zs => exact Nat.le_add_left _ _
      | false =>
        refine iteT ⟨_, rfl, .inl ⟨rfl, _, SqL.of h3⟩, _, rfl, l, _, _, rfl, rfl, h3, by rw [List.length_map]; exact small1000 (by omega), _, _, ps ++ [p], rfl, (b2.trans (.of s3)).trans (But.upd _ _ _), ?_, by rw [List.length_append]; exact Nat.succ_le_succ hl2, fun _ => by rw [List.length_append]; exact Nat.le_add_left _ _, fun z hz => ?_⟩
        · rw [upd_same, List.map_append]
          rfl
        · rcases List.mem_append.mp hz with hz | hz
          · exact hps z hz
          · rw [List.mem_singleton.mp hz]; exact hp
    · rintro σ H2 ⟨v2, v3, ps, rfl, b2, h2, hl2, hne, hps⟩
      refine ⟨_, rfl, l, _, rfl, .inl ⟨SqL.of h2, fun t ht => ?_⟩⟩
      refine ⟨_, rfl, _, _, rfl, rfl, ⟨by decide, by decide⟩, _, _, rfl, rfl, (by show (0 : Int) < 5; decide), rfl, by show 2 ≤ sizeLine; decide, fun u hu => ?_⟩
      have s3 := same_new (o := .tup (ps.map fun p => V.str (tx p))) ht
      have s4 := same_new (o := .tup [.ref t, .bl (decide (V.int (n / 3 % 5) = V.int 4))]) hu
      refine q (ps, decide (V.int (n / 3 % 5) = V.int 4)) u _ (((b2.same hl).trans s3).trans s4) (Same.free ((b2.same hl).trans s3) hu) ⟨hne len.2, by show ps.length ≤ 3; omega, hps⟩ ⟨u, t, rfl, upd_same, s4 _ _ upd_same⟩
/-! ### the metre -/
def spMetre : Sp := fun vs H Q _ => ∃ (c : Int), vs = [.int c, .int 3] ∧ ∀ (m : Met) t H', Same H H' → MOk m → MetAt H' t m → Q (.ref t) H'
theorem sc_metre : FnScope ["_law_cell", "_law_most", "_law_k"] ["_law_cell", "_law_most"] (defScope sMetre) := ⟨rfl, rfl, rfl, by decide +kernel, rfl, by decide +kernel, by decide +kernel⟩
theorem ok_metre {f fS fP fM : Addr} {fd fdS fdP fdM : FuncData} (F : Fun K "_law_metre" "_law_metre" sMetre f fd) (T : Txt mg) (DS : Def K mg "_law_slot" sSlot fS fdS ["_law_number"]) (DP : Def K mg "_law_pattern" sPattern fP fdP ["_law_number"]) (DM : Def K mg "_law_mix" sMix fM fdM ["_law_cell", "_law_k"]) :
    FnOk P w K mg base CX0 3 f fd ["_law_cell", "_law_most"] spMetre := by
  have GS : FnOk P w K mg base CX0 2 fS fdS ["_law_number"] spSlot := ok_slot DS.fn T DP DM
  have GM : FnOk P w K mg base CX0 1 fM fdM ["_law_cell", "_law_k"] spMix := ok_mix DM.fn
  refine F.ok sc_metre (fun vs H Q E h => ?_) (fun cdv A outer s0 H vs Q E hr h => ?_)
  · obtain ⟨c, rfl, _⟩ := h
    rfl
  · obtain ⟨c, rfl, q⟩ := h
    refine ⟨_, pss_one (ps_ret (pe_callTy call_tuple_of (by rfl) T.tuple PyProof.Rows.boot_tuple (pa_cons (pe_lc (own := [("_law_k", 2)]) (g := gName 2) (tt := tYes) rfl sc_metre.nd (pi_range1 (by rfl) T.range (pa_cons (pe_op op_add pe_int (pe_op op_mod (pv 0) (pv 1))) pa_nil))
      (blkOk_by (own := [("_law_k", 2)]) (N := ["_law_cell", "_law_most", "_law_k"]) (sc := defScope sMetre) (by decide +kernel))
      (fun _ _ _ _ _ => pg_name (i := 2) sc_metre.nd rfl (Or.inl rfl)) (fun _ _ _ _ _ => pts_nil)
      (fun _ _ _ _ _ => pe_call GS hr rfl DS.mg DS.fn.kp DS.binds .nil pass0 (pa_cons (pe_call GM (hr.mono (by decide)) rfl DM.mg DM.fn.kp DM.binds .nil pass0 (pa_cons (pe_op op_fdiv (pv 0) (pv 1)) (pa_cons (pv 2) pa_nil))) pa_nil))) pa_nil))), ?_⟩
    have r0 : 0 ≤ c % 3 := Int.emod_nonneg _ (by decide)
    have r3 : c % 3 < 3 := Int.emod_lt_of_pos _ (by decide)
    have len : (1 + c % 3).toNat ≤ 3 ∧ 1 ≤ (1 + c % 3).toNat := by omega
    refine ⟨_, rfl, _, rfl, _, _, rfl, rfl, (by show (0 : Int) < 3; decide), _, _, rfl, rfl, _, rfl, by omega, by omega, fun D hD => ?_⟩
    refine lc_range (fun i H2 => ∃ (vs : List V) (m : Met), m.length = i ∧ (∀ s, s ∈ m → SOk s) ∧ H2 D = some (.lst vs) ∧ Paired (SlotAt H2) vs m ∧ But D H H2) ⟨[], [], rfl, (fun s hs => nomatch hs), upd_same, .nil, But.upd _ _ _⟩ ?_ ?_
    · rintro i H2 hi ⟨vs, m, lm, ok, h2, pm, b2⟩
      refine ⟨rfl, _, rfl, _, rfl, _, _, rfl, rfl, ⟨by show (0 : Int) < 3; decide, by show (3 : Int) < 1073741824; decide⟩, _, rfl, c / 3, i, by rw [Int.zero_add]; rfl, by omega, fun z z0 z1 => ⟨z, rfl, z0, fun s t H3 s3 ft hs ht => ?_⟩⟩
      have h3 := s3 _ _ h2
      have tD : Tups H3 (upd H3 D (.lst (vs ++ [.ref t]))) := tups_upd fun xs e => by rw [h3] at e; cases e
      refine ⟨vs, h3, ?_, vs ++ [.ref t], m ++ [s], by rw [List.length_append, lm]; rfl, fun y hy => ?_, upd_same, ?_, (b2.trans (.of s3)).trans (But.upd _ _ _)⟩
      · rw [pd_len pm]
        exact small1000 (by omega)
      · rcases List.mem_append.mp hy with hy | hy
        · exact ok y hy
        · rw [List.mem_singleton.mp hy]; exact hs
      · exact pd_snoc (pd_mono (fun _ _ => slot_mono ((same_tups s3).trans tD)) pm) (slot_mono tD ht)
    · rintro H2 ⟨vs, m, lm, ok, h2, pm, b2⟩
      refine ⟨D, vs, rfl, .inl ⟨SqL.of h2, fun t ht => ?_⟩⟩
      have s3 := same_new (o := .tup vs) ht
      exact q m t _ ((b2.same hD).trans s3) (mok_of (by omega) (by omega) ok) ⟨vs, upd_same, pd_mono (fun _ _ => slot_mono (same_tups s3)) pm⟩
end
end Rt
end
section
set_option Elab.async false
set_option linter.all false
set_option maxRecDepth 100000
set_option maxHeartbeats 4000000
/-! The law's own defs: whether a pattern fits at a place. -/
namespace Rt
open PySem L2
theorem beq_ch (a b : Nat) : (ch a == ch b) = (a == b) := by
  by_cases h : a = b
  · subst h
    simp
  · have n : ¬ ch a = ch b := fun e => h (by
      have := tx_inj e
      injection this)
    rw [beq_eq_false_iff_ne.mpr n, beq_eq_false_iff_ne.mpr h]
theorem in_two (c mk : Nat) : inV (.str (ch c)) [V.str ("x" : Str), V.str (ch mk)] = (c == mk || c == 120) := by
  show ((("x" : Str) == ch c) || ((ch mk == ch c) || false)) = _
  have e : (("x" : Str) == ch c) = (120 == c) := beq_ch 120 c
  rw [e, beq_ch, Bool.or_false, Bool.or_comm]
  congr 1
  · by_cases h : c = mk
    · subst h; rfl
    · rw [beq_eq_false_iff_ne.mpr h, beq_eq_false_iff_ne.mpr (Ne.symm h)]
  · by_cases h : c = 120
    · subst h; rfl
    · rw [beq_eq_false_iff_ne.mpr h, beq_eq_false_iff_ne.mpr (Ne.symm h)]
theorem ints_dp {K : PySem.W.Frag} {H : Hp} : ∀ ks : List Int, DpAll K H (ks.map V.int) (ks.map PyData.int)
  | [] => .nil
  | k :: ks => .cons (.int k) (ints_dp ks)
theorem ints_nil (ks : List Int) : PyData.eqv (.list (ks.map PyData.int)) (.list []) = decide (ks = []) := by
  cases ks with
  | nil => simp [PyData.eqv, PyData.eqvAll]
  | cons x c => simp [PyData.eqv, PyData.eqvAll]
theorem row_get {K : PySem.W.Frag} {H : Hp} {l : Addr} {r : Row} (h : RowAt K H l r) {i : Nat} (hi : i < r.length) : ∃ vs a, H l = some (.lst vs) ∧ vs.length = r.length ∧ vs[i]? = some (.ref a) ∧ SqT K H a [.str (ch r[i].1), .bl r[i].2] := by
  obtain ⟨vs, h1, h2⟩ := h
  obtain ⟨v, e, a, rfl, h3⟩ := pd_get h2 (List.getElem?_eq_getElem hi)
  exact ⟨vs, a, h1, pd_len h2, e, h3⟩
section
variable {P : Program} {w : World} {K : PySem.W.Frag} {mg : Str → Option Value} {base : Heap}
def spLFits (K : PySem.W.Frag) : Sp := fun vs H Q _ => ∃ (ar : Addr) (r : Row) (a : Nat) (p : Pat) (cut : Bool), vs = [.ref ar, .int (a : Nat), .str (tx p), .bl cut] ∧ RowAt K H ar r ∧ 1 ≤ p.length ∧ p.length ≤ 3 ∧
  ∀ H', Same H H' → Q (.bl (fitsB r p cut (a + p.length) && decide (a + p.length ≤ r.length))) H'
theorem sc_lfits : FnScope ["_law_row", "_law_at", "_law_pattern_here", "_law_cut", "_law_k"] ["_law_row", "_law_at", "_law_pattern_here", "_law_cut"] (defScope sLFits) := ⟨rfl, rfl, rfl, by decide +kernel, rfl, by decide +kernel, by decide +kernel⟩
theorem ok_lfits {f : Addr} {fd : FuncData} (F : Fun K "_law_fits" "_law_fits" sLFits f fd) (T : Txt mg) : FnOk P w K mg base CX0 1 f fd ["_law_row", "_law_at", "_law_pattern_here", "_law_cut"] (spLFits K) := by
  refine F.ok sc_lfits (fun vs H Q E h => ?_) (fun cdv A outer s0 H vs Q E hr h => ?_)
  · obtain ⟨ar, r, a, p, cut, rfl, _⟩ := h
    rfl
  · obtain ⟨ar, r, a, p, cut, rfl, hrow, lp1, lp3, q⟩ := h
    obtain ⟨rv, hrv, prv⟩ := id hrow
    have lrv := pd_len prv
    have hz : (tx p).length ≤ sizeLine := by rw [tx_len]; exact line_of (by omega)
    refine ⟨_, pss_cons (ps_if (PW.pt (pw_or (pt_cmpR op_gt (pe_op op_add (pv 1) (pe_callB call_len_str (by rfl) T.len boot_len (pa_cons (pv 2) pa_nil))) (pe_callB call_len_seq (by rfl) T.len boot_len (pa_cons (pv 0) pa_nil)) (nomark _))
        (pw_or1 (PW.pt (pw_and (pt_val (pv 3)) (pw_and1 (pt_not (pt_val (pe_ix ix_tup (pe_ix ix_list (pv 0) (pe_op op_sub (pe_op op_add (pv 1) (pe_callB call_len_str (by rfl) T.len boot_len (pa_cons (pv 2) pa_nil))) pe_int) (fun _ _ => rfl)) pe_int (fun _ _ => rfl)))))))))) (pss_one (ps_ret pe_bl)) pss_nil)
      (pss_one (ps_ret (pe_cmpR (op_eqD hr.units) (pe_lc (own := [("_law_k", 4)]) (g := gName 4) rfl sc_lfits.nd (pi_range1 (by rfl) T.range (pa_cons (pe_callB call_len_str (by rfl) T.len boot_len (pa_cons (pv 2) pa_nil)) pa_nil))
        (blkOk_by (own := [("_law_k", 4)]) (N := ["_law_row", "_law_at", "_law_pattern_here", "_law_cut", "_law_k"]) (sc := defScope sLFits) (by decide +kernel))
        (fun _ _ _ _ _ => pg_name (i := 4) sc_lfits.nd rfl (Or.inl rfl))
        (fun _ _ _ _ _ => pts_one (pt_cmpR (notInB K) (pe_ix ix_str (pv 2) (pv 4) (fun _ _ => rfl)) (pe_tup (pa_cons pe_str (pa_cons (pe_ix (ixT K) (pe_ix (ixL K) (pv 0) (pe_op op_add (pv 1) (pv 4)) (fun _ _ => rfl)) pe_int (fun _ _ => rfl)) pa_nil))) (by rfl)))
        (fun _ _ _ _ _ => pv 4)) (pe_lst pa_nil) (nomark _)))), ?_⟩
    refine ⟨_, rfl, _, rfl, tx p, rfl, hz, _, _, rfl, rfl, _, rfl, ar, _, rfl, .inl (SqL.of hrv), _, _, rfl, rfl, _, rfl, ?_⟩
    rw [tx_len, lrv]
    by_cases hin : a + p.length ≤ r.length
    · have nl : decide (((r.length : Nat) : Int) < ((a : Nat) : Int) + ((p.length : Nat) : Int)) = false := decide_eq_false (by omega)
      rw [nl]
      refine iteF ⟨_, rfl, cut, rfl, ?_⟩
      cases cut with
      | false =>
        refine iteF (iteF ?_)
        -- the marks that do not fit, by their places
        refine ⟨_, rfl, tx p, rfl, hz, _, rfl, by rw [tx_len]; omega, by rw [tx_len]; omega, fun D hD => ?_⟩
        rw [tx_len]
        refine lc_range (fun i H2 => ∃ ks : List Int, H2 D = some (.lst (ks.map V.int)) ∧ But D H H2 ∧ ks.length ≤ i ∧ (ks = [] ↔ matN r p a i = true)) ⟨[], upd_same, But.upd _ _ _, Nat.le_refl _, ⟨fun _ => rfl, fun _ => rfl⟩⟩ ?_ ?_
        · rintro i H2 hi ⟨ks, h2, b2, hk, hm⟩
          have hi' : i < p.length := by omega
          have s2 := b2.same hD
          have har : a + i < r.length := by omega
          obtain ⟨rv', ax, f1, f2, f3, f4⟩ := row_get (row_mono s2 hrow) har
          have hp : p[i]? = some p[i] := List.getElem?_eq_getElem hi'
          refine ⟨rfl, _, rfl, _, rfl, tx p, _, p[i], rfl, rfl, hz, (by rw [Int.zero_add]; exact at_ok hp), _, rfl, _, rfl, _, rfl, _, _, rfl, rfl, ar, rv', _, _, rfl, rfl, SqL.of f1, at_of (j := a + i) (by rw [Int.zero_add]; rfl) f3, ax, _, 0, _, rfl, rfl, f4, rfl, by show 2 ≤ sizeLine; decide, fun t ht => ?_⟩
          have s3 := same_new (o := .tup [V.str ("x" : Str), V.str (ch r[a + i].1)]) ht
          refine ⟨t, _, rfl, .inr (SqT.of upd_same), rfl, rfl, _, rfl, ?_⟩
          rw [ch_of]
          show if (!inV (V.str (ch p[i])) [V.str ("x" : Str), V.str (ch r[a + i].1)]) = true then _ else _
          rw [in_two]
          have ef : fitR r p a i = (p[i] == r[a + i].1 || p[i] == 120) := by
            rw [fitR_at (x := r[a + i]) (List.getElem?_eq_getElem har) p a i rfl, fitC_eq hp]
          have em : matN r p a (i + 1) = (matN r p a i && (p[i] == r[a + i].1 || p[i] == 120)) := by
            show (matN r p a i && fitR r p a i) = _
            rw [ef]
          have h3 := s3 _ _ h2
          cases hf : (p[i] == r[a + i].1 || p[i] == 120) with
          | true =>
            refine iteF ⟨ks, h3, b2.trans (.of s3), by omega, ?_⟩
            rw [em, hf, Bool.and_true]
            exact hm
          | false =>
            refine iteT ⟨_, rfl, _, h3, by rw [List.length_map]; exact small1000 (by omega), ks ++ [0 + ((i : Nat) : Int)], ?_, (b2.trans (.of s3)).trans (But.upd _ _ _), by rw [List.length_append]; exact Nat.succ_le_succ hk, ?_⟩
            · rw [upd_same, List.map_append]
              rfl
            · rw [em, hf, Bool.and_false]
              exact ⟨fun z => absurd z (by simp), fun z => nomatch z⟩
        · rintro H2 ⟨ks, h2, b2, hk, hm0⟩
          have hm : ks = [] ↔ matN r p a p.length = true := hm0
          have s2 := b2.same hD
          refine ⟨by show 0 ≤ sizeLine; decide, fun t ht => ⟨.list (ks.map PyData.int), .list [], ?_, .lst (SqL.of upd_same) .nil, PySem.W.shaped_ints ks, PySem.W.shaped_ints [], ?_⟩⟩
          · exact .lst (SqL.of (same_new ht _ _ h2)) (ints_dp ks)
          · rw [ints_nil]
            have e := q (upd H2 t (.lst [])) (s2.trans (same_new ht))
            have ev : (fitsB r p false (a + p.length) && decide (a + p.length ≤ r.length)) = decide (ks = []) := by
              unfold fitsB
              rw [Nat.add_sub_cancel, decide_eq_true (Nat.le_add_left p.length a), decide_eq_true hin, Bool.true_and, Bool.and_true, show (!false || endsAt r (a + p.length - 1)) = true from rfl, Bool.and_true]
              by_cases z : ks = []
              · rw [decide_eq_true z, hm.mp z]
              · rw [decide_eq_false z]
                exact Bool.eq_false_iff.mpr fun y => z (hm.mpr y)
            rw [ev] at e
            exact e
      | true =>
        have hlast : a + p.length - 1 < r.length := by omega
        obtain ⟨rv1, ax1, f1, f2, f3, f4⟩ := row_get hrow hlast
        refine iteT ⟨_, rfl, _, rfl, _, rfl, tx p, rfl, hz, _, _, rfl, rfl, _, _, rfl, rfl, ar, rv1, _, _, rfl, rfl, SqL.of f1, at_of (j := a + p.length - 1) (by rw [tx_len]; omega) f3, ax1, _, 1, _, rfl, rfl, f4, rfl, _, rfl, ?_⟩
        have he : endsAt r (a + p.length - 1) = r[a + p.length - 1].2 := endsAt_at (List.getElem?_eq_getElem hlast)
        cases hx : r[a + p.length - 1].2 with
        | true =>
          rw [hx] at he
          refine iteF ?_
          -- the marks that do not fit, by their places
          refine ⟨_, rfl, tx p, rfl, hz, _, rfl, by rw [tx_len]; omega, by rw [tx_len]; omega, fun D hD => ?_⟩
          rw [tx_len]
          refine lc_range (fun i H2 => ∃ ks : List Int, H2 D = some (.lst (ks.map V.int)) ∧ But D H H2 ∧ ks.length ≤ i ∧ (ks = [] ↔ matN r p a i = true)) ⟨[], upd_same, But.upd _ _ _, Nat.le_refl _, ⟨fun _ => rfl, fun _ => rfl⟩⟩ ?_ ?_
          · rintro i H2 hi ⟨ks, h2, b2, hk, hm⟩
            have hi' : i < p.length := by omega
            have s2 := b2.same hD
            have har : a + i < r.length := by omega
            obtain ⟨rv', ax, f1, f2, f3, f4⟩ := row_get (row_mono s2 hrow) har
            have hp : p[i]? = some p[i] := List.getElem?_eq_getElem hi'
            refine ⟨rfl, _, rfl, _, rfl, tx p, _, p[i], rfl, rfl, hz, (by rw [Int.zero_add]; exact at_ok hp), _, rfl, _, rfl, _, rfl, _, _, rfl, rfl, ar, rv', _, _, rfl, rfl, SqL.of f1, at_of (j := a + i) (by rw [Int.zero_add]; rfl) f3, ax, _, 0, _, rfl, rfl, f4, rfl, by show 2 ≤ sizeLine; decide, fun t ht => ?_⟩
            have s3 := same_new (o := .tup [V.str ("x" : Str), V.str (ch r[a + i].1)]) ht
            refine ⟨t, _, rfl, .inr (SqT.of upd_same), rfl, rfl, _, rfl, ?_⟩
            rw [ch_of]
            show if (!inV (V.str (ch p[i])) [V.str ("x" : Str), V.str (ch r[a + i].1)]) = true then _ else _
            rw [in_two]
            have ef : fitR r p a i = (p[i] == r[a + i].1 || p[i] == 120) := by
              rw [fitR_at (x := r[a + i]) (List.getElem?_eq_getElem har) p a i rfl, fitC_eq hp]
            have em : matN r p a (i + 1) = (matN r p a i && (p[i] == r[a + i].1 || p[i] == 120)) := by
              show (matN r p a i && fitR r p a i) = _
              rw [ef]
            have h3 := s3 _ _ h2
            cases hf : (p[i] == r[a + i].1 || p[i] == 120) with
            | true =>
              refine iteF ⟨ks, h3, b2.trans (.of s3), by omega, ?_⟩
              rw [em, hf, Bool.and_true]
              exact hm
            | false =>
              refine iteT ⟨_, rfl, _, h3, by rw [List.length_map]; exact small1000 (by omega), ks ++ [0 + ((i : Nat) : Int)], ?_, (b2.trans (.of s3)).trans (But.upd _ _ _), by rw [List.length_append]; exact Nat.succ_le_succ hk, ?_⟩
              · rw [upd_same, List.map_append]
                rfl
              · rw [em, hf, Bool.and_false]
                exact ⟨fun z => absurd z (by simp), fun z => nomatch z⟩
          · rintro H2 ⟨ks, h2, b2, hk, hm0⟩
            have hm : ks = [] ↔ matN r p a p.length = true := hm0
            have s2 := b2.same hD
            refine ⟨by show 0 ≤ sizeLine; decide, fun t ht => ⟨.list (ks.map PyData.int), .list [], ?_, .lst (SqL.of upd_same) .nil, PySem.W.shaped_ints ks, PySem.W.shaped_ints [], ?_⟩⟩
            · exact .lst (SqL.of (same_new ht _ _ h2)) (ints_dp ks)
            · rw [ints_nil]
              have e := q (upd H2 t (.lst [])) (s2.trans (same_new ht))
              have ev : (fitsB r p true (a + p.length) && decide (a + p.length ≤ r.length)) = decide (ks = []) := by
                unfold fitsB
                rw [Nat.add_sub_cancel, decide_eq_true (Nat.le_add_left p.length a), decide_eq_true hin, Bool.true_and, Bool.and_true, show (!true || endsAt r (a + p.length - 1)) = true by rw [he]; rfl, Bool.and_true]
                by_cases z : ks = []
                · rw [decide_eq_true z, hm.mp z]
                · rw [decide_eq_false z]
                  exact Bool.eq_false_iff.mpr fun y => z (hm.mpr y)
              rw [ev] at e
              exact e
        | false =>
          rw [hx] at he
          refine iteT ?_
          have e := q H (Same.refl H)
          have ev : (fitsB r p true (a + p.length) && decide (a + p.length ≤ r.length)) = false := by
            unfold fitsB
            rw [he]
            simp
          rw [ev] at e
          exact e
    · have nl : decide (((r.length : Nat) : Int) < ((a : Nat) : Int) + ((p.length : Nat) : Int)) = true := decide_eq_true (by omega)
      rw [nl]
      refine iteT (iteT ?_)
      have e := q H (Same.refl H)
      rw [decide_eq_false hin, Bool.and_false] at e
      exact e
end
end Rt
end
section
set_option Elab.async false
set_option linter.all false
set_option maxRecDepth 100000
set_option maxHeartbeats 4000000
/-! The law's own defs: the count of feet. -/
namespace Rt
open PySem L2
abbrev Wy := List (Nat × Nat)
/-- the dict of ways: its pairs -/
def kw (f : Wy) : List (Key × V) := f.map fun x => (Sum.inl (x.1 : Nat), V.int (x.2 : Nat))
abbrev kn (n : Nat) : Key := Sum.inl (n : Nat)
theorem kn_inj {a b : Nat} (h : kn a = kn b) : a = b := by
  have := Sum.inl.inj h
  omega
theorem find_kw (b : Nat) : ∀ f : Wy, (kw f).find? (fun kv => decide (kv.1 = kn b)) = (f.find? fun x => decide (x.1 = b)).map fun x => (kn x.1, V.int (x.2 : Nat))
  | [] => rfl
  | x :: f => by
    have ih := find_kw b f
    show ((kn x.1, V.int (x.2 : Nat)) :: kw f).find? _ = _
    rw [List.find?_cons, List.find?_cons]
    by_cases e : x.1 = b
    · have e1 : decide (kn x.1 = kn b) = true := decide_eq_true (by rw [e])
      simp only [e1, decide_eq_true e]
      rfl
    · have e1 : decide (kn x.1 = kn b) = false := decide_eq_false fun z => e (kn_inj z)
      simp only [e1, decide_eq_false e]
      exact ih
theorem val_kw (f : Wy) (b : Nat) : (valV (kw f) (kn b)).getD (.int 0) = .int (gt f b : Nat) := by
  unfold valV gt
  rw [find_kw]
  cases f.find? fun x => decide (x.1 = b) <;> rfl
theorem val_kw_mem {f : Wy} (nd : (f.map (·.1)).Nodup) {x : Nat × Nat} (hx : x ∈ f) : valV (kw f) (kn x.1) = some (.int (x.2 : Nat)) := by
  have e : f.find? (fun y => decide (y.1 = x.1)) = some x := by
    induction f with
    | nil => exact nomatch hx
    | cons y f ih =>
      rw [List.map_cons, List.nodup_cons] at nd
      rw [List.find?_cons]
      rcases List.mem_cons.mp hx with rfl | hx
      · simp
      · have ne : ¬ y.1 = x.1 := fun z => nd.1 (List.mem_map.mpr ⟨x, hx, z.symm⟩)
        rw [decide_eq_false ne]
        exact ih nd.2 hx
  unfold valV
  rw [find_kw, e]
  rfl
theorem any_kw (f : Wy) (b : Nat) : ((kw f).any fun kv => decide (kv.1 = kn b)) = f.any fun x => decide (x.1 = b) := by
  unfold kw
  rw [List.any_map]
  congr 1
  funext x
  show decide (kn x.1 = kn b) = decide (x.1 = b)
  by_cases e : x.1 = b
  · rw [decide_eq_true e, decide_eq_true (by rw [e])]
  · rw [decide_eq_false e, decide_eq_false fun z => e (kn_inj z)]
theorem put_kw (f : Wy) (b : Nat) (v : Nat) : putK (kw f) (kn b) (.int (v : Nat)) = kw (pt f b v) := by
  unfold putK pt
  rw [any_kw]
  split
  · unfold kw
    rw [List.map_map, List.map_map]
    refine List.map_congr_left fun x _ => ?_
    show (if kn x.1 = kn b then (kn x.1, V.int (v : Nat)) else (kn x.1, V.int (x.2 : Nat))) = (fun x : Nat × Nat => (kn x.1, V.int (x.2 : Nat))) (if x.1 = b then (x.1, v) else x)
    by_cases e : x.1 = b
    · rw [if_pos (by rw [e]), if_pos e]
    · rw [if_neg fun z => e (kn_inj z), if_neg e]
  · unfold kw
    rw [List.map_append]
    rfl
theorem len_kw (f : Wy) : (kw f).length = f.length := by unfold kw; rw [List.length_map]
theorem fitsB_in {r : Row} {p : Pat} {cut : Bool} {a : Nat} (h1 : 1 ≤ p.length) (h : fitsB r p cut (a + p.length) = true) : a + p.length ≤ r.length := by
  unfold fitsB at h
  rw [Bool.and_eq_true, Bool.and_eq_true, Nat.add_sub_cancel] at h
  have el : p.length = (p.length - 1) + 1 := by omega
  have m := h.1.2
  rw [el] at m
  have m2 : (matN r p a (p.length - 1) && fitR r p a (p.length - 1)) = true := m
  rw [Bool.and_eq_true] at m2
  have f := m2.2
  unfold fitR at f
  cases e : r[a + (p.length - 1)]? with
  | none =>
    rw [e] at f
    cases f
  | some x =>
    have := (List.getElem?_eq_some_iff.mp e).1
    omega
theorem fitsB_same {r : Row} {p : Pat} {cut : Bool} {a : Nat} (h1 : 1 ≤ p.length) : (fitsB r p cut (a + p.length) && decide (a + p.length ≤ r.length)) = fitsB r p cut (a + p.length) := by
  cases e : fitsB r p cut (a + p.length) with
  | false => rfl
  | true => rw [decide_eq_true (fitsB_in h1 e)]; rfl
theorem wPats_take (R : Row) (cut : Bool) (a n : Nat) {ps : List Pat} {j : Nat} (h : j < ps.length) (l : Wy) : wPats R cut a n (ps.take (j + 1)) l = wPat R cut a n (wPats R cut a n (ps.take j) l) (patAt ps j) := by
  unfold wPats
  rw [List.take_add_one, pat_get h]
  simp
def wPart (R : Row) (s : Slot) (w : Wy) (i : Nat) : Wy := (w.take i).foldl (fun l x => wPats R s.2 x.1 x.2 s.1 l) []
theorem wPart_succ (R : Row) (s : Slot) {w : Wy} {i : Nat} {x : Nat × Nat} (hx : w[i]? = some x) : wPart R s w (i + 1) = wPats R s.2 x.1 x.2 s.1 (wPart R s w i) := by
  unfold wPart
  rw [List.take_add_one, hx]
  simp
theorem wPart_all (R : Row) (s : Slot) (w : Wy) : wPart R s w w.length = wStep R s w := by
  unfold wPart wStep
  rw [List.take_length]
theorem len_wPart (R : Row) (s : Slot) (w : Wy) (i : Nat) : (wPart R s w i).length ≤ w.length * s.1.length := by
  have a := (nd_wStep_go R s (w.take i) [] (by simp)).2
  have b : (w.take i).length ≤ w.length := by rw [List.length_take]; exact Nat.min_le_right _ _
  have c := Nat.mul_le_mul_right s.1.length b
  have d : (wPart R s w i).length ≤ ([] : Wy).length + (w.take i).length * s.1.length := a
  simp only [List.length_nil] at d
  omega
theorem len_wPats (R : Row) (cut : Bool) (a n : Nat) (ps : List Pat) (l : Wy) : (wPats R cut a n ps l).length ≤ l.length + ps.length := by
  induction ps generalizing l with
  | nil => exact Nat.le_refl _
  | cons p ps ih =>
    have a1 := ih (wPat R cut a n l p)
    have b1 : (wPat R cut a n l p).length ≤ l.length + 1 := by
      unfold wPat
      split
      · exact len_pt _ _ _
      · exact Nat.le_succ _
    show (wPats R cut a n ps (wPat R cut a n l p)).length ≤ l.length + (ps.length + 1)
    omega
section
variable {P : Program} {w : World} {K : PySem.W.Frag} {mg : Str → Option Value} {base : Heap}
def spMany (K : PySem.W.Frag) : Sp := fun vs H Q _ => ∃ (am ar : Addr) (m : Met) (r : Row), vs = [.ref am, .ref ar] ∧ MetAt H am m ∧ MOk m ∧ RowAt K H ar r ∧ ∀ H', Same H H' → Q (.int (feet m r : Nat)) H'
theorem sc_many : FnScope ["_law_metre_here", "_law_row", "_law_ways", "_law_patterns", "_law_cut", "_law_later", "_law_at", "_law_pattern_here"] ["_law_metre_here", "_law_row"] (defScope sMany) := ⟨rfl, rfl, rfl, by decide +kernel, rfl, by decide +kernel, by decide +kernel⟩
theorem ok_many {f fF : Addr} {fd fdF : FuncData} (F : Fun K "_law_many_feet" "_law_many_feet" sMany f fd) (T : Txt mg) (DF : Def K mg "_law_fits" sLFits fF fdF ["_law_row", "_law_at", "_law_pattern_here", "_law_cut"]) :
    FnOk P w K mg base CX0 2 f fd ["_law_metre_here", "_law_row"] (spMany K) := by
  have GF : FnOk P w K mg base CX0 1 fF fdF ["_law_row", "_law_at", "_law_pattern_here", "_law_cut"] (spLFits K) := ok_lfits DF.fn T
  refine F.ok sc_many (fun vs H Q E h => ?_) (fun cdv A outer s0 H vs Q E hr h => ?_)
  · obtain ⟨am, ar, m, r, rfl, _⟩ := h
    rfl
  · obtain ⟨am, ar, m, r, rfl, hm, M, hrow, q⟩ := h
    have hu := hu_of hr
    obtain ⟨ms, hms, pms⟩ := id hm
    obtain ⟨rv, hrv, prv⟩ := id hrow
    refine ⟨_, pss_cons (ps_set (i := 2) sc_many.nd rfl (.inl rfl) (pe_disp (pps_cons pe_int pe_int pps_nil) (by rfl) (by rfl) (fun z => by cases z) (by decide)))
      (pss_cons (ps_for PassesOwn.never rfl (pi_tup (pv 0)) (pg_tup (by rfl) (pgs_cons (pg_name (i := 3) sc_many.nd rfl (.inl rfl)) (pgs_cons (pg_name (i := 4) sc_many.nd rfl (.inl rfl)) pgs_nil)))
        (pss_cons (ps_set (i := 5) sc_many.nd rfl (.inl rfl) pe_dnewK)
        (pss_cons (ps_lock (ps_for PassesOwn.never rfl (pi_keys (pv 2)) (pg_name (i := 6) sc_many.nd rfl (.inl rfl))
          (pss_one (ps_for PassesOwn.never rfl (pi_tup (pv 3)) (pg_name (i := 7) sc_many.nd rfl (.inl rfl))
            (pss_one (ps_if (pt_val (pe_call GF hr rfl DF.mg DF.fn.kp DF.binds .nil pass0 (pa_cons (pv 1) (pa_cons (pv 6) (pa_cons (pv 7) (pa_cons (pv 4) pa_nil))))))
              (pss_one (ps_dput hu (pv 5) (pe_op op_add (pv 6) (pe_callB call_len_str (by rfl) T.len boot_len (pa_cons (pv 7) pa_nil)))
                (pe_op op_add (pe_dget2 hu (pv 5) (pe_op op_add (pv 6) (pe_callB call_len_str (by rfl) T.len boot_len (pa_cons (pv 7) pa_nil))) pe_int ⟨rfl, rfl, rfl, rfl⟩) (pe_dget hu (pv 2) (pv 6) (fun _ _ => rfl))) rfl)) pss_nil))))))
        (pss_one (ps_set (i := 2) sc_many.nd rfl (.inl rfl) (pv 5))))))
      (pss_one (ps_ret (pe_dget2 hu (pv 2) (pe_callB call_len_seq (by rfl) T.len boot_len (pa_cons (pv 1) pa_nil)) pe_int ⟨rfl, rfl, rfl, rfl⟩)))), ?_⟩
    -- ways = {0: 1}
    refine fun d hd => ⟨upd_same, [(kn 0, .int 1)], rfl, by decide, ?_⟩
    have e0 : mergeK [] [(kn 0, V.int 1)] = kw [(0, 1)] := rfl
    rw [e0, upd_upd]
    have s1 := same_new (o := .dK (kw [(0, 1)])) hd
    -- for patterns, cut in metre
    refine ⟨_, rfl, am, rfl, ⟨_, SqT.of (s1 _ _ hms)⟩, for_tup (K := K) (a := am) (xs := ms) (fun i σ H2 => ∃ (d : Addr) (v3 v4 v5 v6 v7 : Option V), σ = [some (.ref am), some (.ref ar), some (.ref d), v3, v4, v5, v6, v7] ∧ Same H H2 ∧ H d = none ∧ H2 d = some (.dK (kw (wAll r (m.take i)))))
      ⟨d, none, none, none, none, none, rfl, s1, hd, upd_same⟩ (fun i σ H2 _ ⟨_, _, _, _, _, _, _, s2, _⟩ => SqT.of (s2 _ _ hms)) ?_ ?_⟩
    · rintro i v σ H2 hi ⟨d, v3, v4, v5, v6, v7, rfl, s2, hd, h2⟩
      obtain ⟨sl, hsl, p, ps, rfl, g1, g2⟩ := pd_get' pms hi
      have him : i < m.length := (List.getElem?_eq_some_iff.mp hsl).1
      have esl : slotAt m i = sl := by
        have := slot_get him
        rw [hsl] at this
        exact (Option.some.inj this).symm
      have M1 := M.pats _ (slotAt_mem him)
      rw [esl] at M1
      have nd := (wAll_F m r i (Nat.le_of_lt him)).1
      have fw := wAll_few M r i (Nat.le_of_lt him)
      have fw' : (wAll r (m.take i)).length ≤ 27 := by
        have a : i ≤ 3 := by have := M.most; omega
        have b : 3 ^ i ≤ 3 ^ 3 := Nat.pow_le_pow_right (by decide) a
        have c : 3 ^ 3 = 27 := by decide
        omega
      refine ⟨p, _, rfl, SqT.of (s2 _ _ g1), rfl, _, _, rfl, _, _, rfl, rfl, fun b hb => ?_⟩
      -- for at in ways, the dict locked
      have s3 := same_new (o := .dK []) hb
      have h3 := s3 _ _ h2
      have ndb : d ≠ b := ne_of_none h2 hb
      refine ⟨d, _, h3, True.intro, fun od => ⟨_, rfl, d, od, rfl, .inl ⟨_, upd_same, ?_⟩⟩⟩
      have bF := But.upd d (upd H2 b (.dK [])) (.frz od (.dK (kw (wAll r (m.take i)))))
      have hbs : upd (upd H2 b (.dK [])) d (.frz od (.dK (kw (wAll r (m.take i))))) b = some (.dK []) := by
        rw [upd_ne (Ne.symm ndb)]
        exact upd_same
      have hds : upd (upd H2 b (.dK [])) d (.frz od (.dK (kw (wAll r (m.take i))))) d = some (.frz od (.dK (kw (wAll r (m.take i))))) := upd_same
      have hbH : H b = none := Same.free s2 hb
      have sHs : Same H (upd (upd H2 b (.dK [])) d (.frz od (.dK (kw (wAll r (m.take i)))))) := ((But.of (s2.trans s3)).trans bF).same hd
      have g2s : upd (upd H2 b (.dK [])) d (.frz od (.dK (kw (wAll r (m.take i))))) ps = some (.tup (sl.1.map fun p => V.str (tx p))) := sHs _ _ g2
      clear bF h3 s3 hb g1 h2 s2
      generalize upd (upd H2 b (.dK [])) d (.frz od (.dK (kw (wAll r (m.take i))))) = Hs at *
      have oB : ∀ xs, Hs b ≠ some (.tup xs) := fun xs z => by rw [hbs] at z; cases z
      refine for_it walk_keys (fun j σ H5 => ∃ (v6 v7 : Option V), σ = [some (.ref am), some (.ref ar), some (.ref d), some (.ref ps), some (.bl sl.2), some (.ref b), v6, v7] ∧ But b Hs H5 ∧ H5 b = some (.dK (kw (wPart r sl (wAll r (m.take i)) j))))
        ⟨v6, v7, rfl, .of (Same.refl _), hbs⟩ (fun j σ H5 _ ⟨_, _, _, b5, _⟩ => b5 d _ ndb hds) ?_ ?_
      · rintro j v σ _ H5 hj ⟨v6, v7, rfl, b5, h5⟩ ⟨rfl, k, u, hk, rfl⟩
        have hj' : j < (wAll r (m.take i)).length := by rwa [len_kw] at hj
        have hy : (wAll r (m.take i))[j]? = some (wAll r (m.take i))[j] := List.getElem?_eq_getElem hj'
        have hmem := List.getElem_mem hj'
        unfold kw at hk
        rw [List.getElem?_map, hy] at hk
        have hk' : (kn (wAll r (m.take i))[j].1, V.int ((wAll r (m.take i))[j].2 : Nat)) = (k, u) := Option.some.inj hk
        injection hk' with hk1 hk2
        subst hk1 hk2
        generalize (wAll r (m.take i))[j] = y at *
        obtain ⟨a, n⟩ := y
        refine ⟨_, rfl, ps, rfl, ⟨_, SqT.of (b5.tups oB _ _ g2s)⟩, for_tup (K := K) (a := ps) (xs := sl.1.map fun p => V.str (tx p)) (fun e σ H6 => ∃ (v7 : Option V), σ = [some (.ref am), some (.ref ar), some (.ref d), some (.ref ps), some (.bl sl.2), some (.ref b), some (.int (a : Nat)), v7] ∧
            But b Hs H6 ∧ H6 b = some (.dK (kw (wPats r sl.2 a n (sl.1.take e) (wPart r sl (wAll r (m.take i)) j))))) ⟨v7, rfl, b5, h5⟩ (fun e σ H6 _ ⟨_, _, b6, _⟩ => SqT.of (b6.tups oB _ _ g2s)) ?_ ?_⟩
        · rintro e v σ H6 he ⟨v7, rfl, b6, h6⟩
          have he' : e < sl.1.length := by
            have := (List.getElem?_eq_some_iff.mp he).1
            rwa [List.length_map] at this
          rw [pats_get he'] at he
          obtain rfl : V.str (tx (patAt sl.1 e)) = v := Option.some.inj he
          have lp : 1 ≤ (patAt sl.1 e).length ∧ (patAt sl.1 e).length ≤ 3 := M.lens _ (by rw [← esl]; exact slotAt_mem him) _ (patAt_mem he')
          have step := wPats_take r sl.2 a n he' (wPart r sl (wAll r (m.take i)) j)
          generalize hpp : patAt sl.1 e = p at *
          have hz : (tx p).length ≤ sizeLine := by rw [tx_len]; exact line_of (by omega)
          have sH6 : Same H H6 := ((But.of sHs).trans b6).same hbH
          refine ⟨_, rfl, _, rfl, _, rfl, _, rfl, ar, r, a, p, sl.2, rfl, row_mono sH6 hrow, lp.1, lp.2, fun H7 s7 => ⟨_, rfl, ?_⟩⟩
          rw [fitsB_same lp.1]
          have h7 := s7 _ _ h6
          have keq : (Sum.inl (((a : Nat) : Int) + (((tx p).length : Nat) : Int)) : Key) = kn (a + p.length) := by
            rw [tx_len]
            rfl
          unfold wPat at step
          cases hf : fitsB r p sl.2 (a + p.length) with
          | false =>
            rw [hf, if_neg Bool.false_ne_true] at step
            refine iteF ⟨_, rfl, b6.trans (.of s7), ?_⟩
            rw [step]
            exact h7
          | true =>
            rw [hf, if_pos rfl] at step
            have few : (kw (wPats r sl.2 a n (sl.1.take e) (wPart r sl (wAll r (m.take i)) j))).length < sizeLine := by
              rw [len_kw, sizeLine_eq]
              have f1 := len_wPats r sl.2 a n (sl.1.take e) (wPart r sl (wAll r (m.take i)) j)
              have f2 := len_wPart r sl (wAll r (m.take i)) j
              have f3 : (sl.1.take e).length ≤ 3 := by rw [List.length_take]; omega
              have f4 := Nat.mul_le_mul fw' M1.2
              omega
            generalize wPats r sl.2 a n (sl.1.take e) (wPart r sl (wAll r (m.take i)) j) = g at *
            refine iteT ⟨_, rfl, b, rfl, .inl ⟨_, .of h7⟩, _, rfl, _, rfl, tx p, rfl, hz, _, _, rfl, rfl, _, DGet.k (k := Sum.inl (((a : Nat) : Int) + (((tx p).length : Nat) : Int))) h7, _, rfl, _, rfl, d, _, rfl,
              .inl ⟨_, kn a, .inr ⟨od, s7 _ _ (b6 d _ ndb hds)⟩, rfl, (val_kw_mem nd hmem).symm⟩, _, _, (by rw [keq]; exact val_kw _ _), rfl, _, rfl, _, rfl, _, rfl, tx p, rfl, hz, _, _, rfl, rfl, b, _, rfl,
              DPut.k (k := Sum.inl (((a : Nat) : Int) + (((tx p).length : Nat) : Int))) h7 few, _, rfl, (b6.trans (.of s7)).trans (But.upd _ _ _), ?_⟩
            rw [upd_same, step, keq, ← put_kw]
            rfl
        · rintro σ H6 ⟨v7, rfl, b6, h6⟩
          rw [List.length_map, List.take_length] at h6
          refine ⟨_, _, rfl, b6, ?_⟩
          rw [wPart_succ r sl hy]
          exact h6
      · rintro σ H5 ⟨v6, v7, rfl, b5, h5⟩
        rw [len_kw, wPart_all] at h5
        have fz := b5 d _ ndb hds
        have bU := But.upd d H5 (.dK (kw (wAll r (m.take i))))
        refine ⟨fz, _, rfl, b, _, _, _, _, _, rfl, ((But.of (((But.of sHs).trans b5).same hbH)).trans bU).same hd, hbH, ?_⟩
        rw [wAll_take r him, esl]
        exact bU _ _ (Ne.symm ndb) h5
    · rintro σ H2 ⟨d, v3, v4, v5, v6, v7, rfl, s2, hd, h2⟩
      rw [pd_len pms, List.take_length] at h2
      refine ⟨_, rfl, d, rfl, .inl ⟨_, .of h2⟩, _, rfl, ar, _, rfl, .inl (SqL.of (s2 _ _ hrv)), _, DGet.k (k := kn rv.length) h2, ?_⟩
      rw [val_kw, pd_len prv, law_feet]
      exact q H2 s2
end
end Rt
end
section
set_option Elab.async false
set_option linter.all false
set_option maxRecDepth 100000
set_option maxHeartbeats 4000000
/-! The law's own defs: which row comes ahead, what a row is. -/
namespace Rt
open PySem L2
/-! ### steps and rows as data -/
def encS (x : Step) : PyData := .tuple [.str (ch x.1), .bool x.2]
theorem encS_lay {x : Step} (h : x ∈ STEPS) : (encS x).canLay0 = true := by
  have e : PyData.strOk (ch x.1) = true := by
    rcases STEPS_mem.mp h with e | e
    · rw [e]; decide +kernel
    · rw [e]; decide +kernel
  simp [encS, PyData.canLay0, PyData.canLayAll0, e]
theorem encS_depth (x : Step) : (encS x).depth ≤ 1 := by simp [encS, PyData.depth, PyData.depthAll]
theorem encS_shaped {x : Step} (h : x ∈ STEPS) : SeqAt.shaped (encS x) = true := by
  unfold SeqAt.shaped
  rw [encS_lay h, decide_eq_true (Nat.le_trans (encS_depth x) (by decide))]
  rfl
theorem encR_lay : ∀ r : Row, Over r → PyData.canLayAll0 (r.map encS) = true
  | [], _ => by simp [PyData.canLayAll0]
  | z :: r, h => by simp [PyData.canLayAll0, encS_lay (h z (List.mem_cons_self ..)), encR_lay r fun y hy => h y (List.mem_cons_of_mem _ hy)]
theorem encR_depth : ∀ r : Row, PyData.depthAll (r.map encS) ≤ 1
  | [] => by simp [PyData.depthAll]
  | z :: r => by
    have a := encR_depth r
    have b := encS_depth z
    rw [List.map_cons]
    simp only [PyData.depthAll]
    omega
theorem encR_shaped {r : Row} (h : Over r) : SeqAt.shaped (.list (r.map encS)) = true := by
  unfold SeqAt.shaped
  have a := encR_depth r
  have d : PyData.depth (.list (r.map encS)) ≤ 64 := by
    simp only [PyData.depth]
    omega
  rw [decide_eq_true d, Bool.and_true]
  simp only [PyData.canLay0]
  exact encR_lay r h
theorem encS_eqv (x y : Step) : PyData.eqv (encS x) (encS y) = decide (x = y) := by
  obtain ⟨a, b⟩ := x
  obtain ⟨a', b'⟩ := y
  have e : PyData.eqv (encS (a, b)) (encS (a', b')) = ((ch a == ch a') && ((b == b') && true)) := by simp only [encS, PyData.eqv, PyData.eqvAll]
  rw [e, beq_ch, Bool.and_true]
  by_cases h : ((a, b) : Step) = (a', b')
  · cases h
    simp
  · rw [decide_eq_false h]
    refine Bool.eq_false_iff.mpr fun z => h ?_
    simp only [Bool.and_eq_true, beq_iff_eq] at z
    rw [z.1, z.2]
theorem encR_eqv : ∀ r q : Row, PyData.eqvAll (r.map encS) (q.map encS) = decide (r = q)
  | [], [] => by simp [PyData.eqvAll]
  | [], _ :: _ => by simp [PyData.eqvAll]
  | _ :: _, [] => by simp [PyData.eqvAll]
  | x :: r, y :: q => by
    rw [List.map_cons, List.map_cons]
    simp only [PyData.eqvAll]
    rw [encS_eqv, encR_eqv r q]
    by_cases h : x = y
    · subst h
      simp
    · simp [h]
theorem encR_list (r q : Row) : PyData.eqv (.list (r.map encS)) (.list (q.map encS)) = decide (r = q) := by
  have e : PyData.eqv (.list (r.map encS)) (.list (q.map encS)) = PyData.eqvAll (r.map encS) (q.map encS) := by simp only [PyData.eqv]
  rw [e, encR_eqv]
section
variable {K : PySem.W.Frag} {H : Hp}
theorem sq_dp {a : Addr} {x : Step} (h : SqT K H a [.str (ch x.1), .bl x.2]) : Dp K H (.ref a) (encS x) := .tup h (.cons (.str _) (.cons (.bl _) .nil))
theorem steps_dp : ∀ {vs : List V} {r : Row}, Paired (StepAt K H) vs r → DpAll K H vs (r.map encS)
  | _, _, .nil => .nil
  | _, _, .cons ⟨a, e, h⟩ t => by
    subst e
    exact .cons (sq_dp h) (steps_dp t)
theorem row_dp {l : Addr} {r : Row} (h : RowAt K H l r) : Dp K H (.ref l) (.list (r.map encS)) := by
  obtain ⟨vs, h1, h2⟩ := h
  exact .lst (SqL.of h1) (steps_dp h2)
theorem sq_ty {a : Addr} {xs : List V} (h : SqT K H a xs) : TyX K H (.ref a) (.type "tuple") := by
  rcases h with (h | ⟨o, h⟩) | ⟨o, its, n, h, hc, _⟩
  · exact .base (.tup h)
  · exact .fTuple h
  · exact .kTuple h hc
end
/-! ### the order -/
theorem bef_at : ∀ {r q : Row} (i : Nat) {x y : Step}, r.take i = q.take i → r[i]? = some x → q[i]? = some y → x ≠ y → bef r q = decide (rk x < rk y)
  | [], _, i, _, _, _, h, _, _ => by simp at h
  | _ :: _, [], i, _, _, _, _, h, _ => by simp at h
  | u :: r, v :: q, 0, x, y, _, h1, h2, n => by
    rw [List.getElem?_cons_zero] at h1 h2
    cases h1
    cases h2
    exact if_neg n
  | u :: r, v :: q, i + 1, x, y, h, h1, h2, n => by
    rw [List.take_succ_cons, List.take_succ_cons] at h
    injection h with e h
    rw [List.getElem?_cons_succ] at h1 h2
    have ih := bef_at i h h1 h2 n
    show (if u = v then bef r q else _) = _
    rw [if_pos e, ih]
theorem rk_mark {x y : Step} (hx : x ∈ STEPS) (hy : y ∈ STEPS) (n : x.1 ≠ y.1) : decide (rk x < rk y) = (x.1 == 117) := by
  obtain ⟨a, b⟩ := x
  obtain ⟨c, d⟩ := y
  have h1 := STEPS_mem.mp hx
  have h2 := STEPS_mem.mp hy
  simp only at h1 h2 n
  rcases h1 with rfl | rfl <;> rcases h2 with rfl | rfl
  · exact absurd rfl n
  · cases b <;> cases d <;> decide
  · cases b <;> cases d <;> decide
  · exact absurd rfl n
theorem rk_ends {x y : Step} (e : x.1 = y.1) (n : x ≠ y) : decide (rk x < rk y) = !x.2 := by
  obtain ⟨a, b⟩ := x
  obtain ⟨c, d⟩ := y
  simp only at e
  subst e
  have nb : b ≠ d := fun z => n (by rw [z])
  unfold rk
  cases b <;> cases d <;> first | exact absurd rfl nb | simp
section
variable {P : Program} {w : World} {K : PySem.W.Frag} {mg : Str → Option Value} {base : Heap}
def spBefore (K : PySem.W.Frag) : Sp := fun vs H Q _ => ∃ (a b : Addr) (r q : Row), vs = [.ref a, .ref b] ∧ RowAt K H a r ∧ RowAt K H b q ∧ Over r ∧ Over q ∧ r.length ≤ 1000 ∧ Q (.bl (before r q)) H
theorem sc_before : FnScope ["_law_one", "_law_other", "_law_k"] ["_law_one", "_law_other"] (defScope sBefore) := ⟨rfl, rfl, rfl, by decide +kernel, rfl, by decide +kernel, by decide +kernel⟩
theorem ok_before {f : Addr} {fd : FuncData} (F : Fun K "_law_before" "_law_before" sBefore f fd) (T : Txt mg) : FnOk P w K mg base CX0 1 f fd ["_law_one", "_law_other"] (spBefore K) := by
  refine F.ok sc_before (fun vs H Q E h => ?_) (fun cdv A outer s0 H vs Q E hr h => ?_)
  · obtain ⟨a, b, r, q, rfl, _⟩ := h
    rfl
  · obtain ⟨a, b, r, q, rfl, hr1, hq1, or, oq, len, k⟩ := h
    obtain ⟨rv, hrv, prv⟩ := id hr1
    obtain ⟨qv, hqv, pqv⟩ := id hq1
    have lr := pd_len prv
    have lq := pd_len pqv
    refine ⟨_, pss_cons (ps_if (pt_cmpR op_ne (pe_callB call_len_seq (by rfl) T.len boot_len (pa_cons (pv 0) pa_nil)) (pe_callB call_len_seq (by rfl) T.len boot_len (pa_cons (pv 1) pa_nil)) (nomark _))
        (pss_one (ps_ret (pe_cmpR op_lt (pe_callB call_len_seq (by rfl) T.len boot_len (pa_cons (pv 0) pa_nil)) (pe_callB call_len_seq (by rfl) T.len boot_len (pa_cons (pv 1) pa_nil)) (nomark _)))) pss_nil)
      (pss_cons (ps_for PassesOwn.never rfl (pi_range1 (by rfl) T.range (pa_cons (pe_callB call_len_seq (by rfl) T.len boot_len (pa_cons (pv 0) pa_nil)) pa_nil)) (pg_name (i := 2) sc_before.nd rfl (.inl rfl))
        (pss_one (ps_if (pt_cmpR (op_neD hr.units) (pe_ix ix_list (pv 0) (pv 2) (fun _ _ => rfl)) (pe_ix ix_list (pv 1) (pv 2) (fun _ _ => rfl)) (nomark _))
          (pss_cons (ps_if (pt_cmpR op_ne (pe_ix ix_tup (pe_ix ix_list (pv 0) (pv 2) (fun _ _ => rfl)) pe_int (fun _ _ => rfl)) (pe_ix ix_tup (pe_ix ix_list (pv 1) (pv 2) (fun _ _ => rfl)) pe_int (fun _ _ => rfl)) (nomark _))
            (pss_one (ps_ret (pe_cmpR op_eq (pe_ix ix_tup (pe_ix ix_list (pv 0) (pv 2) (fun _ _ => rfl)) pe_int (fun _ _ => rfl)) pe_str (nomark _)))) pss_nil)
            (pss_one (ps_ret (pe_not (pe_ix ix_tup (pe_ix ix_list (pv 0) (pv 2) (fun _ _ => rfl)) pe_int (fun _ _ => rfl)))))) pss_nil)))
      (pss_one (ps_ret pe_bl))), ?_⟩
    refine ⟨_, rfl, a, rv, rfl, .inl (SqL.of hrv), _, rfl, b, qv, rfl, .inl (SqL.of hqv), rfl, _, rfl, ?_⟩
    unfold before at k
    by_cases hl : r.length = q.length
    · rw [if_pos hl] at k
      have e1 : decide (V.int ((rv.length : Nat) : Int) = V.int ((qv.length : Nat) : Int)) = true := decide_eq_true (by rw [lr, lq, hl])
      rw [e1]
      refine iteF ⟨_, rfl, a, rv, rfl, .inl (SqL.of hrv), _, rfl, by rw [lr]; omega, by rw [lr]; omega, for_range (fun i σ H2 => ∃ v2 : Option V, σ = [some (.ref a), some (.ref b), v2] ∧ H2 = H ∧ r.take i = q.take i) ⟨none, rfl, rfl, rfl⟩ ?_ ?_⟩
      · rintro i σ H2 hi ⟨v2, rfl, eH, ht⟩
        subst eH
        have hi1 : i < r.length := by
          have z : i < rv.length := hi
          omega
        have hi2 : i < q.length := by omega
        obtain ⟨rv', ax, f1, f2, f3, f4⟩ := row_get hr1 hi1
        obtain ⟨qv', bx, g1, g2, g3, g4⟩ := row_get hq1 hi2
        have hx : r[i]? = some r[i] := List.getElem?_eq_getElem hi1
        have hy : q[i]? = some q[i] := List.getElem?_eq_getElem hi2
        have sx := or _ (List.getElem_mem hi1)
        have sy := oq _ (List.getElem_mem hi2)
        have ka := fun (t : L2.V) => at_of (xs := rv') (z := 0 + ((i : Nat) : Int)) (j := i) (v := t) (Int.zero_add _)
        have kb := fun (t : L2.V) => at_of (xs := qv') (z := 0 + ((i : Nat) : Int)) (j := i) (v := t) (Int.zero_add _)
        refine ⟨_, rfl, _, rfl, a, rv', _, _, rfl, rfl, SqL.of f1, ka _ f3, _, rfl, _, rfl, b, qv', _, _, rfl, rfl, SqL.of g1, kb _ g3, _, _, sq_dp f4, sq_dp g4, encS_shaped sx, encS_shaped sy, _, rfl, ?_⟩
        rw [encS_eqv]
        by_cases e : r[i] = q[i]
        · rw [decide_eq_true e]
          refine iteF ⟨_, rfl, rfl, ?_⟩
          rw [List.take_add_one, List.take_add_one, ht, hx, hy, e]
        · rw [decide_eq_false e]
          rw [bef_at i ht hx hy e] at k
          refine iteT ⟨_, rfl, _, rfl, a, rv', _, _, rfl, rfl, SqL.of f1, ka _ f3, ax, _, 0, _, rfl, rfl, f4, rfl, _, rfl, _, rfl, b, qv', _, _, rfl, rfl, SqL.of g1, kb _ g3, bx, _, 0, _, rfl, rfl, g4, rfl, rfl, _, rfl, ?_⟩
          rw [dec_ch]
          by_cases em : r[i].1 = q[i].1
          · rw [beq_iff_eq.mpr em]
            rw [rk_ends em e] at k
            exact iteF ⟨_, rfl, _, rfl, a, rv', _, _, rfl, rfl, SqL.of f1, ka _ f3, ax, _, 1, _, rfl, rfl, f4, rfl, _, rfl, k⟩
          · rw [beq_eq_false_iff_ne.mpr em]
            rw [rk_mark sx sy em] at k
            refine iteT ⟨_, rfl, _, rfl, a, rv', _, _, rfl, rfl, SqL.of f1, ka _ f3, ax, _, 0, _, rfl, rfl, f4, rfl, rfl, ?_⟩
            have ex : decide (V.str (ch r[i].1) = V.str ("u" : Str)) = (r[i].1 == 117) := dec_ch r[i].1 117
            exact (congrArg (fun z => Q (V.bl z) H2) ex).mpr k
      · rintro σ H2 ⟨v2, rfl, eH, ht⟩
        subst eH
        have ht' : r.take rv.length = q.take rv.length := ht
        have er : r = q := by
          rw [lr, List.take_length, hl, List.take_length] at ht'
          exact ht'
        rw [er, bef_irrefl] at k
        exact k
    · rw [if_neg hl] at k
      have e1 : decide (V.int ((rv.length : Nat) : Int) = V.int ((qv.length : Nat) : Int)) = false := decide_eq_false fun z => hl (by injection z with z; omega)
      rw [e1]
      refine iteT ⟨_, rfl, a, rv, rfl, .inl (SqL.of hrv), _, rfl, b, qv, rfl, .inl (SqL.of hqv), _, _, rfl, rfl, ?_⟩
      have e2 : decide (((rv.length : Nat) : Int) < ((qv.length : Nat) : Int)) = decide (r.length < q.length) := by
        rw [lr, lq]
        by_cases z : r.length < q.length
        · rw [decide_eq_true z, decide_eq_true (by omega)]
        · rw [decide_eq_false z, decide_eq_false (by omega)]
      exact (congrArg (fun z => Q (V.bl z) H) e2).mpr k
end
end Rt
end
section
set_option Elab.async false
set_option linter.all false
set_option maxRecDepth 100000
set_option maxHeartbeats 4000000
/-! The law's own defs: what a row is. -/
namespace Rt
open PySem L2
theorem at_end {xs : List V} {v : V} (h : xs[xs.length - 1]? = some v) : atI xs (-1) = some v := by
  have hl := (List.getElem?_eq_some_iff.mp h).1
  unfold atI ixN
  rw [if_neg (by decide), if_pos (by omega)]
  have e : (-1 + ((xs.length : Nat) : Int)).toNat = xs.length - 1 := by omega
  show xs[(-1 + ((xs.length : Nat) : Int)).toNat]? = some v
  rw [e]
  exact h
theorem in_marks {c : Nat} (h : c = 117 ∨ c = 45) : inV (.str (ch c)) [V.str ("u" : Str), V.str ("-" : Str)] = true := by
  rcases h with rfl | rfl <;> decide +kernel
theorem feet_len {m : Met} (M : MOk m) {r : Row} (h : 1 ≤ feet m r) : r.length ≤ 9 := by
  have e := Cn_feet (le := LE) M r
  have nd := (Cn_val (le := LE) M r).2
  have q := mem_at nd (b := done m) (by rw [e]; omega)
  obtain ⟨v, l⟩ := (Cn_val M r).1 _ q
  exact Nat.le_trans l (rank_le M v)
section
variable {P : Program} {w : World} {K : PySem.W.Frag} {mg : Str → Option Value} {base : Heap}
def spIsRow (K : PySem.W.Frag) : Sp := fun vs H Q _ => ∃ (l : Addr) (r : Row), vs = [.ref l] ∧ RowAt K H l r ∧ Said r ∧ ∀ H', Same H H' → Q (.bl true) H'
theorem sc_isRow : FnScope ["_law_found", "_law_step"] ["_law_found"] (defScope sIsRow) := ⟨rfl, rfl, rfl, by decide +kernel, rfl, by decide +kernel, by decide +kernel⟩
theorem ok_isRow {f : Addr} {fd : FuncData} (F : Fun K "_law_is_row" "_law_is_row" sIsRow f fd) (T : Txt mg) : FnOk P w K mg base CX0 1 f fd ["_law_found"] (spIsRow K) := by
  refine F.ok sc_isRow (fun vs H Q E h => ?_) (fun cdv A outer s0 H vs Q E hr h => ?_)
  · obtain ⟨l, r, rfl, _⟩ := h
    rfl
  · obtain ⟨l, r, rfl, hrow, hs, q⟩ := h
    obtain ⟨rv, hrv, prv⟩ := id hrow
    have lr := pd_len prv
    obtain ⟨ov, r0, x0, er, ex0⟩ := hs
    have pos : 1 ≤ r.length := by rw [er, List.length_append]; exact Nat.le_add_left _ _
    have nn : r ≠ [] := fun z => by rw [z] at pos; exact absurd pos (by decide)
    refine ⟨_, pss_cons (ps_if (PW.pt (pw_or (pt_not (pt_val (pe_callB call_isi (by rfl) T.isinstance PyProof.Rows.boot_isinstance (pa_cons (pv 0) (pa_cons (pe_bltn (v := .ty "list") (by rfl) T.list (by decide +kernel) rfl) pa_nil)))))
        (pw_or (pt_cmpR (op_eqD hr.units) (pv 0) (pe_lst pa_nil) (nomark _)) (pw_or1 (pt_cmpR op_notBl (pe_ix ix_tup (pe_ix ix_list (pv 0) (pe_un un_neg pe_int) (fun _ _ => rfl)) pe_int (fun _ _ => rfl)) pe_bl (nomark _)))))) (pss_one (ps_ret pe_bl)) pss_nil)
      (pss_cons (ps_for PassesOwn.never rfl (pi_list (pv 0)) (pg_name (i := 1) sc_isRow.nd rfl (.inl rfl))
        (pss_one (ps_if (PW.pt (pw_or (pt_not (pt_val (pe_callB call_isi (by rfl) T.isinstance PyProof.Rows.boot_isinstance (pa_cons (pv 1) (pa_cons (pe_bltn (v := .ty "tuple") (by rfl) T.tuple (by decide +kernel) rfl) pa_nil)))))
          (pw_or (pt_cmpR op_ne (pe_callB call_len_seq (by rfl) T.len boot_len (pa_cons (pv 1) pa_nil)) pe_int (nomark _))
          (pw_or (pt_cmpR op_notIn_seq (pe_ix ix_tup (pv 1) pe_int (fun _ _ => rfl)) (pe_tup (pa_cons pe_str (pa_cons pe_str pa_nil))) (by rfl))
          (pw_or1 (pt_not (pt_val (pe_callB call_isi (by rfl) T.isinstance PyProof.Rows.boot_isinstance (pa_cons (pe_ix ix_tup (pv 1) pe_int (fun _ _ => rfl)) (pa_cons (pe_bltn (v := .ty "bool") (by rfl) T.bool (by decide +kernel) rfl) pa_nil))))))))))
          (pss_one (ps_ret pe_bl)) pss_nil)))
      (pss_one (ps_ret pe_bl))), ?_⟩
    refine ⟨_, rfl, _, _, .type "list", .type "list", true, rfl, .ty "list", .base (.lst hrv), kit_ty (by decide +kernel), _, rfl, ?_⟩
    refine iteF ⟨_, rfl, by show 0 ≤ sizeLine; decide, fun p hp => ?_⟩
    have s1 := same_new (o := .lst []) hp
    have hrow1 := row_mono s1 hrow
    refine ⟨_, .list [], row_dp hrow1, .lst (SqL.of upd_same) .nil, encR_shaped ov, encR_shaped (r := []) (fun y hy => nomatch hy), _, rfl, ?_⟩
    have en : PyData.eqv (.list (r.map encS)) (.list []) = false := (encR_list r []).trans (decide_eq_false nn)
    rw [en]
    have hl : r.length - 1 < r.length := by omega
    obtain ⟨rv1, ax, f1, f2, f3, f4⟩ := row_get hrow1 hl
    have e2 : r[r.length - 1].2 = true := by
      have : r[r.length - 1] = x0 := by
        simp only [er]
        simp
      rw [this]
      exact ex0
    refine iteF ⟨_, rfl, _, rfl, l, rv1, _, _, rfl, rfl, SqL.of f1, at_end (by rw [f2]; exact f3), ax, _, 1, _, rfl, rfl, f4, rfl, _, true, rfl, rfl, _, rfl, ?_⟩
    rw [e2]
    refine iteF ?_
    -- for step in found
    refine ⟨_, rfl, l, rfl, ⟨_, SqL.of f1⟩, for_list (K := K) (a := l) (xs := rv1) (fun i σ H2 => ∃ v1 : Option V, σ = [some (.ref l), v1] ∧ Same H H2) ⟨none, rfl, s1⟩ (fun i σ H2 _ ⟨_, _, s2⟩ => SqL.of (by
        rw [s1 _ _ hrv] at f1
        cases f1
        exact s2 _ _ hrv)) ?_ ?_⟩
    · rintro i v σ H2 hi ⟨v1, rfl, s2⟩
      have e1 : rv1 = rv := by
        rw [s1 _ _ hrv] at f1
        cases f1
        rfl
      rw [e1] at hi
      obtain ⟨x, hx, bx, rfl, g⟩ := pd_get' (pd_mono (fun _ _ => step_mono s2) prv) hi
      have hxm := ov x (List.mem_of_getElem? hx)
      refine ⟨_, rfl, _, _, .type "tuple", .type "tuple", true, rfl, .ty "tuple", sq_ty g, kit_ty (by decide +kernel), _, rfl, ?_⟩
      refine iteF ⟨_, rfl, bx, _, rfl, .inr g, rfl, _, rfl, ?_⟩
      refine iteF ⟨_, rfl, bx, _, 0, _, rfl, rfl, g, rfl, by show 2 ≤ sizeLine; decide, fun t ht => ⟨t, _, rfl, .inr (SqT.of upd_same), rfl, rfl, _, rfl, ?_⟩⟩
      have s3 := same_new (o := .tup [V.str ("u" : Str), V.str ("-" : Str)]) ht
      show if (!inV (V.str (ch x.1)) [V.str ("u" : Str), V.str ("-" : Str)]) = true then _ else _
      rw [in_marks (STEPS_mem.mp hxm)]
      refine iteF ⟨_, rfl, bx, _, 1, _, rfl, rfl, Same.sqt s3 g, rfl, _, _, .type "bool", .type "bool", true, rfl, .ty "bool", .base (.bl _), kit_ty (by decide +kernel), _, rfl, ?_⟩
      exact iteF ⟨_, rfl, s2.trans s3⟩
    · rintro σ H2 ⟨v1, rfl, s2⟩
      exact q H2 s2
end
end Rt
end
section
set_option Elab.async false
set_option linter.all false
set_option maxRecDepth 100000
set_option maxHeartbeats 4000000
/-! The law's own defs: a said row. -/
namespace Rt
open PySem L2
theorem table4 {j : Nat} (h : j ≤ 2) : ∃ d : Int, atI [V.int 4, V.int 8, V.int 16, V.int 32] (0 + ((j : Nat) : Int)) = some (.int d) ∧ 0 < d ∧ d < 1073741824 := by
  have q : j = 0 ∨ j = 1 ∨ j = 2 := by omega
  rcases q with rfl | rfl | rfl
  · exact ⟨4, at_of (j := 0) rfl rfl, by decide, by decide⟩
  · exact ⟨8, at_of (j := 1) rfl rfl, by decide, by decide⟩
  · exact ⟨16, at_of (j := 2) rfl rfl, by decide, by decide⟩
theorem table64 {j : Nat} (h : j ≤ 2) : ∃ d : Int, atI [V.int 64, V.int 128, V.int 256, V.int 512] (0 + ((j : Nat) : Int)) = some (.int d) ∧ 0 < d ∧ d < 1073741824 := by
  have q : j = 0 ∨ j = 1 ∨ j = 2 := by omega
  rcases q with rfl | rfl | rfl
  · exact ⟨64, at_of (j := 0) rfl rfl, by decide, by decide⟩
  · exact ⟨128, at_of (j := 1) rfl rfl, by decide, by decide⟩
  · exact ⟨256, at_of (j := 2) rfl rfl, by decide, by decide⟩
theorem mark_at {r : Int} (h0 : 0 ≤ r) (h2 : r < 2) : ∃ c, (c = 117 ∨ c = 45) ∧ atI ("u-" : Str).cps.toList r = some c := by
  have q : r = 0 ∨ r = 1 := by omega
  rcases q with rfl | rfl
  · exact ⟨117, .inl rfl, by decide +kernel⟩
  · exact ⟨45, .inr rfl, by decide +kernel⟩
/-- what is said for the first marks of a pattern -/
structure Sg (p : Pat) (cut last : Bool) (g : Row) : Prop where
  fit : ∀ j x, g[j]? = some x → fitC x.1 p j = true
  over : Over g
  ends : ∀ j x, g[j]? = some x → j + 1 = p.length → (cut = true ∨ last = true) → x.2 = true
theorem sg_nil (p : Pat) (cut last : Bool) : Sg p cut last [] := ⟨fun j x h => by simp at h, (fun x hx => nomatch hx), fun j x h => by simp at h⟩
theorem sg_snoc {p : Pat} {cut last : Bool} {g : Row} {x : Step} (h : Sg p cut last g) (hf : fitC x.1 p g.length = true) (hm : x.1 = 117 ∨ x.1 = 45) (he : g.length + 1 = p.length → (cut = true ∨ last = true) → x.2 = true) : Sg p cut last (g ++ [x]) := by
  have key : ∀ j y, (g ++ [x])[j]? = some y → g[j]? = some y ∨ (j = g.length ∧ y = x) := fun j y e => by
    by_cases z : j < g.length
    · rw [List.getElem?_append_left z] at e
      exact .inl e
    · rw [List.getElem?_append_right (by omega)] at e
      have e0 : j - g.length = 0 := by
        have := (List.getElem?_eq_some_iff.mp e).1
        simp at this
        omega
      rw [e0] at e
      have ex : x = y := Option.some.inj e
      exact .inr ⟨by omega, ex.symm⟩
  refine ⟨fun j y e => ?_, over_snoc.mpr ⟨h.over, STEPS_mem.mpr hm⟩, fun j y e hj hc => ?_⟩
  · rcases key j y e with e | ⟨rfl, rfl⟩
    · exact h.fit j y e
    · exact hf
  · rcases key j y e with e | ⟨rfl, rfl⟩
    · exact h.ends j y e hj hc
    · exact he hj hc
theorem sg_seg {p : Pat} {cut last : Bool} {g : Row} (h : Sg p cut last g) (hl : g.length = p.length) (h1 : 1 ≤ p.length) : SegOk p cut g :=
  ⟨hl, h.fit, fun hc x hx => h.ends _ x hx (by omega) (.inl hc)⟩
theorem sg_said {p : Pat} {cut : Bool} {g r : Row} (h : Sg p cut true g) (hl : g.length = p.length) (h1 : 1 ≤ p.length) (hr : Over r) : Said (r ++ g) := by
  have nn : g ≠ [] := fun z => by rw [z] at hl; simp at hl; omega
  refine ⟨fun x hx => ?_, r ++ g.dropLast, g.getLast nn, ?_, ?_⟩
  · rcases List.mem_append.mp hx with hx | hx
    · exact hr x hx
    · exact h.over x hx
  · rw [List.append_assoc, List.dropLast_concat_getLast]
  · refine h.ends (g.length - 1) _ ?_ (by omega) (.inr rfl)
    rw [List.getLast_eq_getElem]
    exact List.getElem?_eq_getElem (by omega)
theorem sqt_lst {K : PySem.W.Frag} {H : Hp} {l p : Addr} {vs ws xs : List V} (h1 : H l = some (.lst vs)) (h : SqT K H p xs) : SqT K (upd H l (.lst ws)) p xs := by
  have ne : ∀ o, H p = some o → (∀ z, o ≠ .lst z) → p ≠ l := fun o e n z => n vs (by rw [z, h1] at e; exact (Option.some.inj e).symm)
  rcases h with (h | ⟨o, h⟩) | h
  · exact .inl (.inl (by rw [upd_ne (ne _ h fun _ z => nomatch z)]; exact h))
  · exact .inl (.inr ⟨o, by rw [upd_ne (ne _ h fun _ z => nomatch z)]; exact h⟩)
  · exact .inr h
theorem row_push {K : PySem.W.Frag} {H : Hp} {l u : Addr} {vs : List V} {r : Row} {x : Step} (h1 : H l = some (.lst vs)) (h2 : Paired (StepAt K H) vs r) (hu : H u = none) :
    RowAt K (upd (upd H u (.tup [.str (ch x.1), .bl x.2])) l (.lst (vs ++ [.ref u]))) l (r ++ [x]) := by
  have s := same_new (o := .tup [.str (ch x.1), .bl x.2]) hu
  have h1' := s _ _ h1
  refine ⟨_, upd_same, pd_snoc (pd_mono (fun _ _ ⟨a, e, h⟩ => ⟨a, e, sqt_lst h1' (Same.sqt s h)⟩) h2) ⟨u, rfl, sqt_lst h1' (SqT.of upd_same)⟩⟩
section
variable {P : Program} {w : World} {K : PySem.W.Frag} {mg : Str → Option Value} {base : Heap}
def spSaid (K : PySem.W.Frag) : Sp := fun vs H Q _ => ∃ (am : Addr) (m : Met) (c : Int), vs = [.ref am, .int c] ∧ MetAt H am m ∧ MOk m ∧ ∀ l r H', Same H H' → H l = none → RowAt K H' l r → Said r → Fpos m r m.length → Q (.ref l) H'
theorem sc_said : FnScope ["_law_metre_here", "_law_cell", "_law_row", "_law_k", "_law_slot_here", "_law_number", "_law_pattern_here", "_law_j", "_law_mark", "_law_ends"] ["_law_metre_here", "_law_cell"] (defScope sSaid) := ⟨rfl, rfl, rfl, by decide +kernel, rfl, by decide +kernel, by decide +kernel⟩
theorem ok_said {f fM : Addr} {fd fdM : FuncData} (F : Fun K "_law_said" "_law_said" sSaid f fd) (T : Txt mg) (DM : Def K mg "_law_mix" sMix fM fdM ["_law_cell", "_law_k"]) : FnOk P w K mg base CX0 2 f fd ["_law_metre_here", "_law_cell"] (spSaid K) := by
  have GM : FnOk P w K mg base CX0 1 fM fdM ["_law_cell", "_law_k"] spMix := ok_mix DM.fn
  refine F.ok sc_said (fun vs H Q E h => ?_) (fun cdv A outer s0 H vs Q E hr h => ?_)
  · obtain ⟨am, m, c, rfl, _⟩ := h
    rfl
  · obtain ⟨am, m, c, rfl, hm, M, q⟩ := h
    obtain ⟨ms, hms, pms⟩ := id hm
    have lms := pd_len pms
    refine ⟨_, pss_cons (ps_set (i := 2) sc_said.nd rfl (.inl rfl) (pe_lst pa_nil))
      (pss_cons (ps_for PassesOwn.never rfl (pi_enumT (by rfl) T.enumerate (pa_cons (pv 0) pa_nil)) (pg_tup (by rfl) (pgs_cons (pg_name (i := 3) sc_said.nd rfl (.inl rfl)) (pgs_cons (pg_name (i := 4) sc_said.nd rfl (.inl rfl)) pgs_nil)))
        (pss_cons (ps_set (i := 5) sc_said.nd rfl (.inl rfl) (pe_call GM hr rfl DM.mg DM.fn.kp DM.binds .nil pass0 (pa_cons (pv 1) (pa_cons (pv 3) pa_nil))))
        (pss_cons (ps_set (i := 6) sc_said.nd rfl (.inl rfl) (pe_ix ix_tup (pe_ix ix_tup (pv 4) pe_int (fun _ _ => rfl)) (pe_op op_mod (pv 5) (pe_callB call_len_seq (by rfl) T.len boot_len (pa_cons (pe_ix ix_tup (pv 4) pe_int (fun _ _ => rfl)) pa_nil))) (fun _ _ => rfl)))
        (pss_one (ps_for PassesOwn.never rfl (pi_range1 (by rfl) T.range (pa_cons (pe_callB call_len_str (by rfl) T.len boot_len (pa_cons (pv 6) pa_nil)) pa_nil)) (pg_name (i := 7) sc_said.nd rfl (.inl rfl))
          (pss_cons (ps_set (i := 8) sc_said.nd rfl (.inl rfl) (pe_ix ix_str (pv 6) (pv 7) (fun _ _ => rfl)))
          (pss_cons (ps_if (pt_cmpR op_eq (pv 8) pe_str (nomark _))
            (pss_one (ps_set (i := 8) sc_said.nd rfl (.inl rfl) (pe_ix ix_str pe_str (pe_op op_mod (pe_op op_fdiv (pv 5) (pe_ix ix_list (pe_lst (pa_cons pe_int (pa_cons pe_int (pa_cons pe_int (pa_cons pe_int pa_nil))))) (pv 7) (fun _ _ => rfl))) pe_int) (fun _ _ => rfl)))) pss_nil)
          (pss_cons (ps_set (i := 9) sc_said.nd rfl (.inl rfl) (pe_or (pe_cmpR op_eq (pe_op op_mod (pe_op op_fdiv (pv 5) (pe_ix ix_list (pe_lst (pa_cons pe_int (pa_cons pe_int (pa_cons pe_int (pa_cons pe_int pa_nil))))) (pv 7) (fun _ _ => rfl))) pe_int) pe_int (nomark _))
            (pe_one (pe_and (pe_ix ix_tup (pv 4) pe_int (fun _ _ => rfl)) (pe_one (pe_cmpR op_eq (pe_op op_add (pv 7) pe_int) (pe_callB call_len_str (by rfl) T.len boot_len (pa_cons (pv 6) pa_nil)) (nomark _)))))))
          (pss_one (ps_expr (pe_bm PySem.F.plainAttrs_list PySem.F.slot_list_append PySem.F.type_list_append mt_append (pv 2) (pa_cons (pe_tup (pa_cons (pv 8) (pa_cons (pe_or (pv 9) (pe_one (pe_and (pe_cmpR op_eq (pe_op op_add (pv 3) pe_int) (pe_callB call_len_seq (by rfl) T.len boot_len (pa_cons (pv 0) pa_nil)) (nomark _))
            (pe_one (pe_cmpR op_eq (pe_op op_add (pv 7) pe_int) (pe_callB call_len_str (by rfl) T.len boot_len (pa_cons (pv 6) pa_nil)) (nomark _)))))) pa_nil))) pa_nil))))))))))))
      (pss_one (ps_ret (pv 2)))), ?_⟩
    refine ⟨by show 0 ≤ sizeLine; decide, fun l hl => ?_⟩
    have s1 := same_new (o := .lst []) hl
    refine ⟨_, rfl, am, ms, rfl, SqT.of (s1 _ _ hms), for_enumT (K := K) (a := am) (xs := ms) (fun i σ H2 => ∃ (v3 v4 v5 v6 v7 v8 v9 : Option V) (r : Row), σ = [some (.ref am), some (.int c), some (.ref l), v3, v4, v5, v6, v7, v8, v9] ∧ But l H H2 ∧ RowAt K H2 l r ∧ Fpos m r i ∧ Over r ∧ (1 ≤ i → i = m.length → Said r) ∧ r.length ≤ 3 * i)
      ⟨none, none, none, none, none, none, none, [], rfl, .of s1, ⟨[], upd_same, .nil⟩, pos_zero m, (fun x hx => nomatch hx), (fun z => absurd z (by decide)), Nat.le_refl _⟩ (fun i σ H2 _ ⟨_, _, _, _, _, _, _, _, _, b2, _⟩ => SqT.of (b2.same hl _ _ hms)) ?_ ?_⟩
    · rintro i v T' σ H2 hi hT ⟨v3, v4, v5, v6, v7, v8, v9, r, rfl, b2, hrow, hpos, hov, hsd, hlen⟩
      have him : i < m.length := by
        have := (List.getElem?_eq_some_iff.mp hi).1
        omega
      have im3 := M.most
      obtain ⟨sl, hsl, p4, ps, rfl, g1, g2⟩ := pd_get' pms hi
      have esl : slotAt m i = sl := by
        have := slot_get him
        rw [hsl] at this
        exact (Option.some.inj this).symm
      have s3 := same_new (o := .tup [.int (i : Nat), .ref p4]) hT
      have sH := (b2.same hl).trans s3
      have g1' := sH _ _ g1
      have g2' := sH _ _ g2
      have row3 := row_mono s3 hrow
      have nps := M.pats _ (slotAt_mem him)
      rw [esl] at nps
      refine ⟨T', _, rfl, SqT.of upd_same, rfl, _, _, rfl, _, _, rfl, rfl, ?_⟩
      -- number, pattern_here
      refine ⟨_, rfl, _, rfl, c, i, rfl, by omega, fun n n0 n1 => ?_⟩
      have hk : ∃ k, k < sl.1.length ∧ n % ((sl.1.map fun p => V.str (tx p)).length : Nat) = ((k : Nat) : Int) := by
        rw [List.length_map]
        have e0 : 0 ≤ n % ((sl.1.length : Nat) : Int) := Int.emod_nonneg _ (by omega)
        have e1 : n % ((sl.1.length : Nat) : Int) < ((sl.1.length : Nat) : Int) := Int.emod_lt_of_pos _ (by omega)
        exact ⟨(n % ((sl.1.length : Nat) : Int)).toNat, by omega, by omega⟩
      obtain ⟨k, hk1, hk2⟩ := hk
      refine ⟨_, rfl, p4, _, 0, _, rfl, rfl, SqT.of g1', rfl, _, rfl, _, rfl, p4, _, 0, _, rfl, rfl, SqT.of g1', rfl, ps, _, rfl, .inr (SqT.of g2'), _, _, rfl, rfl, by rw [List.length_map]; show (0 : Int) < ((sl.1.length : Nat) : Int); omega, ps, _, _, _, rfl, rfl, SqT.of g2', by rw [hk2]; exact at_ok (pats_get hk1), ?_⟩
      have lp : 1 ≤ (patAt sl.1 k).length ∧ (patAt sl.1 k).length ≤ 3 := M.lens _ (by rw [← esl]; exact slotAt_mem him) _ (patAt_mem hk1)
      have cp : ∀ c, c ∈ patAt sl.1 k → c = 117 ∨ c = 45 ∨ c = 120 := M.codes _ (by rw [← esl]; exact slotAt_mem him) _ (patAt_mem hk1)
      have pstep : ∀ g, SegOk (patAt sl.1 k) sl.2 g → Fpos m (r ++ g) (i + 1) := fun g hg => pos_step M (k := k) hpos him (by rw [esl]; exact hk1) (by rw [esl]; exact hg)
      generalize patAt sl.1 k = p at *
      have hz : (tx p).length ≤ sizeLine := by rw [tx_len]; exact line_of (by omega)
      -- for j in range(len(pattern_here))
      refine ⟨_, rfl, tx p, rfl, hz, _, rfl, by rw [tx_len]; omega, by rw [tx_len]; omega, ?_⟩
      rw [tx_len]
      refine for_range (fun j σ H4 => ∃ (v7 v8 v9 : Option V) (g : Row), σ = [some (.ref am), some (.int c), some (.ref l), some (.int (i : Nat)), some (.ref p4), some (.int n), some (.str (tx p)), v7, v8, v9] ∧ But l H H4 ∧ RowAt K H4 l (r ++ g) ∧ g.length = j ∧ Sg p sl.2 (decide (i + 1 = m.length)) g) ⟨_, _, _, [], rfl, b2.trans (.of s3), by rw [List.append_nil]; exact row3, rfl, sg_nil _ _ _⟩ ?_ ?_
      · rintro j σ H4 hj ⟨v7', v8', v9', g, rfl, b4, hrow4, hg, hS⟩
        have hj' : j < p.length := by omega
        have s4 := b4.same hl
        have hp : p[j]? = some p[j] := List.getElem?_eq_getElem hj'
        have cj := cp p[j] (List.getElem_mem hj')
        have ex : decide (V.str (⟨#[p[j]]⟩ : Str) = V.str ("x" : Str)) = (p[j] == 120) := dec_ch p[j] 120
        obtain ⟨d, hd, d0, d1⟩ := table4 (j := j) (by omega)
        obtain ⟨d', hd', d0', d1'⟩ := table64 (j := j) (by omega)
        obtain ⟨cu, hcu, ecu⟩ := mark_at (r := n / d % 2) (Int.emod_nonneg _ (by decide)) (Int.emod_lt_of_pos _ (by decide))
        refine ⟨_, rfl, _, rfl, tx p, _, p[j], rfl, rfl, hz, (by rw [Int.zero_add]; exact at_ok hp), _, rfl, rfl, _, rfl, ?_⟩
        rw [ex]
        have hfin : ∀ (mk : Nat) (e0 : Bool), (j + 1 = p.length → sl.2 = true → e0 = true) → mk = 117 ∨ mk = 45 → fitC mk p j = true → Sg p sl.2 (decide (i + 1 = m.length)) (g ++ [(mk, e0 || (decide (i + 1 = m.length) && decide (j + 1 = p.length)))]) := by
          intro mk e0 h0 hmk hf
          refine sg_snoc hS (by rw [hg]; exact hf) hmk ?_
          rw [hg]
          intro e1 e2
          rcases e2 with e2 | e2
          · rw [h0 e1 e2]; rfl
          · rw [decide_eq_true e1, e2]; exact Bool.or_true _
        have eqj : decide (V.int (0 + ((j : Nat) : Int) + 1) = V.int ((p.length : Nat) : Int)) = decide (j + 1 = p.length) := by
          by_cases z : j + 1 = p.length
          · rw [decide_eq_true z]; exact decide_eq_true (by congr 1; omega)
          · rw [decide_eq_false z]; exact decide_eq_false fun y => z (by injection y with y; omega)
        have eqi : decide (V.int (((i : Nat) : Int) + 1) = V.int ((ms.length : Nat) : Int)) = decide (i + 1 = m.length) := by
          rw [lms]
          by_cases z : i + 1 = m.length
          · rw [decide_eq_true z]; exact decide_eq_true (by congr 1; omega)
          · rw [decide_eq_false z]; exact decide_eq_false fun y => z (by injection y with y; omega)
        have gl : (r ++ g).length ≤ 100 := by rw [List.length_append, hg]; omega
        refine ite2 (fun hx => ?_) (fun hx => ?_)
        · refine ⟨_, rfl, by show 4 ≤ sizeLine; decide, fun t0 ht0 => ⟨_, rfl, t0, _, _, _, rfl, rfl, SqL.of upd_same, hd, _, _, rfl, rfl, ⟨d0, d1⟩, _, _, rfl, rfl, (by show (0 : Int) < 2; decide), ("u-" : Str), _, cu, rfl, rfl, by decide +kernel, ecu, ?_⟩⟩
          have s5 : Same H4 (upd H4 t0 (.lst [.int 4, .int 8, .int 16, .int 32])) := same_new ht0
          have hf : fitC cu p j = true := by
            rw [fitC_eq hp, hx, Bool.or_true]
          rw [ch_of]
          have b5 := b4.trans (.of s5)
          refine ⟨_, rfl, by show 4 ≤ sizeLine; decide, fun t1 ht1 => ⟨_, rfl, t1, _, _, _, rfl, rfl, SqL.of upd_same, hd', _, _, rfl, rfl, ⟨d0', d1'⟩, _, _, rfl, rfl, (by show (0 : Int) < 2; decide), rfl, _, rfl, ?_⟩⟩
          have s6 := same_new (o := .lst [V.int 64, V.int 128, V.int 256, V.int 512]) ht1
          have b6 := b5.trans (.of s6)
          have row6 := row_mono s6 (row_mono s5 hrow4)
          have sq6 : SqT K _ p4 [.ref ps, .bl sl.2] := SqT.of ((b6.same hl) _ _ g1)
          have sm6 : SqT K _ am ms := SqT.of ((b6.same hl) _ _ hms)
          generalize upd _ t1 (.lst [V.int 64, V.int 128, V.int 256, V.int 512]) = H6 at b6 row6 sq6 sm6 ⊢
          obtain ⟨rv6, hrv6, prv6⟩ := row6
          have lrv6 : rv6.length ≤ 1000 := by rw [pd_len prv6]; omega
          refine ite2 (fun he => ?_) (fun he => ?_)
          · refine ⟨_, rfl, .inl ⟨rfl, _, SqL.of hrv6⟩, ?_⟩
            have hsn := hfin cu true (fun _ _ => rfl) hcu hf
            refine ⟨_, rfl, _, rfl, _, rfl, ?_⟩
            have close : ∀ bv : Bool, (true || (decide (i + 1 = m.length) && decide (j + 1 = p.length))) = bv → ∀ u, H6 u = none → RowAt K (upd (upd H6 u (.tup [.str (ch cu), .bl bv])) l (.lst (rv6 ++ [.ref u]))) l (r ++ (g ++ [(cu, bv)])) ∧ But l H (upd (upd H6 u (.tup [.str (ch cu), .bl bv])) l (.lst (rv6 ++ [.ref u]))) := by
              intro bv _ u hu
              refine ⟨?_, (b6.trans (.of (same_new hu))).trans (But.upd _ _ _)⟩
              rw [← List.append_assoc]
              exact row_push (x := (cu, bv)) hrv6 prv6 hu
            refine iteT ⟨by show 2 ≤ sizeLine; decide, fun u hu => ⟨l, _, _, rfl, rfl, same_new hu _ _ hrv6, small1000 lrv6, _, _, _, g ++ [(cu, true)], rfl, (close true rfl u hu).2, (close true rfl u hu).1, by rw [List.length_append, hg]; rfl, hsn⟩⟩
          · refine ⟨_, rfl, p4, _, 1, _, rfl, rfl, sq6, rfl, _, rfl, ?_⟩
            cases hcut : sl.2 with
            | true =>
              rw [hcut] at hfin
              refine iteT ⟨_, rfl, _, _, rfl, rfl, _, rfl, tx p, rfl, hz, rfl, ?_⟩
              rw [tx_len, eqj]
              refine ⟨_, rfl, .inl ⟨rfl, _, SqL.of hrv6⟩, ?_⟩
              have hsn := hfin cu (decide (j + 1 = p.length)) (fun e _ => decide_eq_true e) hcu hf
              refine ⟨_, rfl, _, rfl, _, rfl, ?_⟩
              generalize hev : decide (j + 1 = p.length) = ev at hsn ⊢
              have close : ∀ bv : Bool, (ev || (decide (i + 1 = m.length) && decide (j + 1 = p.length))) = bv → ∀ u, H6 u = none → RowAt K (upd (upd H6 u (.tup [.str (ch cu), .bl bv])) l (.lst (rv6 ++ [.ref u]))) l (r ++ (g ++ [(cu, bv)])) ∧ But l H (upd (upd H6 u (.tup [.str (ch cu), .bl bv])) l (.lst (rv6 ++ [.ref u]))) := by
                intro bv _ u hu
                refine ⟨?_, (b6.trans (.of (same_new hu))).trans (But.upd _ _ _)⟩
                rw [← List.append_assoc]
                exact row_push (x := (cu, bv)) hrv6 prv6 hu
              cases ev with
              | true =>
                refine iteT ⟨by show 2 ≤ sizeLine; decide, fun u hu => ⟨l, _, _, rfl, rfl, same_new hu _ _ hrv6, small1000 lrv6, _, _, _, g ++ [(cu, true)], rfl, (close true rfl u hu).2, (close true rfl u hu).1, by rw [List.length_append, hg]; rfl, hsn⟩⟩
              | false =>
                refine iteF ⟨_, rfl, _, _, rfl, rfl, _, rfl, am, ms, rfl, .inr sm6, rfl, _, rfl, ?_⟩
                rw [eqi]
                cases hli : decide (i + 1 = m.length) with
                | true =>
                  rw [hli] at hsn
                  refine iteT ⟨_, rfl, _, _, rfl, rfl, _, rfl, tx p, rfl, hz, rfl, ?_⟩
                  rw [tx_len, eqj]
                  exact ⟨by show 2 ≤ sizeLine; decide, fun u hu => ⟨l, _, _, rfl, rfl, same_new hu _ _ hrv6, small1000 lrv6, _, _, _, g ++ [(cu, decide (j + 1 = p.length))], rfl, (close _ (by rw [hli]; rfl) u hu).2, (close _ (by rw [hli]; rfl) u hu).1, by rw [List.length_append, hg]; rfl, by rw [hev]; exact hsn⟩⟩
                | false =>
                  rw [hli] at hsn
                  exact iteF ⟨by show 2 ≤ sizeLine; decide, fun u hu => ⟨l, _, _, rfl, rfl, same_new hu _ _ hrv6, small1000 lrv6, _, _, _, g ++ [(cu, false)], rfl, (close _ (by rw [hli]; rfl) u hu).2, (close _ (by rw [hli]; rfl) u hu).1, by rw [List.length_append, hg]; rfl, hsn⟩⟩
            | false =>
              rw [hcut] at hfin
              refine iteF ⟨_, rfl, .inl ⟨rfl, _, SqL.of hrv6⟩, ?_⟩
              have hsn := hfin cu false (fun _ e => nomatch e) hcu hf
              refine ⟨_, rfl, _, rfl, _, rfl, ?_⟩
              have close : ∀ bv : Bool, (false || (decide (i + 1 = m.length) && decide (j + 1 = p.length))) = bv → ∀ u, H6 u = none → RowAt K (upd (upd H6 u (.tup [.str (ch cu), .bl bv])) l (.lst (rv6 ++ [.ref u]))) l (r ++ (g ++ [(cu, bv)])) ∧ But l H (upd (upd H6 u (.tup [.str (ch cu), .bl bv])) l (.lst (rv6 ++ [.ref u]))) := by
                intro bv _ u hu
                refine ⟨?_, (b6.trans (.of (same_new hu))).trans (But.upd _ _ _)⟩
                rw [← List.append_assoc]
                exact row_push (x := (cu, bv)) hrv6 prv6 hu
              refine iteF ⟨_, rfl, _, _, rfl, rfl, _, rfl, am, ms, rfl, .inr sm6, rfl, _, rfl, ?_⟩
              rw [eqi]
              cases hli : decide (i + 1 = m.length) with
              | true =>
                rw [hli] at hsn
                refine iteT ⟨_, rfl, _, _, rfl, rfl, _, rfl, tx p, rfl, hz, rfl, ?_⟩
                rw [tx_len, eqj]
                exact ⟨by show 2 ≤ sizeLine; decide, fun u hu => ⟨l, _, _, rfl, rfl, same_new hu _ _ hrv6, small1000 lrv6, _, _, _, g ++ [(cu, decide (j + 1 = p.length))], rfl, (close _ (by rw [hli]; rfl) u hu).2, (close _ (by rw [hli]; rfl) u hu).1, by rw [List.length_append, hg]; rfl, hsn⟩⟩
              | false =>
                rw [hli] at hsn
                exact iteF ⟨by show 2 ≤ sizeLine; decide, fun u hu => ⟨l, _, _, rfl, rfl, same_new hu _ _ hrv6, small1000 lrv6, _, _, _, g ++ [(cu, false)], rfl, (close _ (by rw [hli]; rfl) u hu).2, (close _ (by rw [hli]; rfl) u hu).1, by rw [List.length_append, hg]; rfl, hsn⟩⟩
        · have hx' : p[j] = 117 ∨ p[j] = 45 := by
            rcases cj with e | e | e
            · exact .inl e
            · exact .inr e
            · rw [e] at hx; exact absurd rfl hx
          have s5 : Same H4 H4 := Same.refl H4
          have hf : fitC p[j] p j = true := by
            rw [fitC_eq hp]
            simp
          rw [ch_of]
          have b5 := b4.trans (.of s5)
          refine ⟨_, rfl, by show 4 ≤ sizeLine; decide, fun t1 ht1 => ⟨_, rfl, t1, _, _, _, rfl, rfl, SqL.of upd_same, hd', _, _, rfl, rfl, ⟨d0', d1'⟩, _, _, rfl, rfl, (by show (0 : Int) < 2; decide), rfl, _, rfl, ?_⟩⟩
          have s6 := same_new (o := .lst [V.int 64, V.int 128, V.int 256, V.int 512]) ht1
          have b6 := b5.trans (.of s6)
          have row6 := row_mono s6 (row_mono s5 hrow4)
          have sq6 : SqT K _ p4 [.ref ps, .bl sl.2] := SqT.of ((b6.same hl) _ _ g1)
          have sm6 : SqT K _ am ms := SqT.of ((b6.same hl) _ _ hms)
          generalize upd _ t1 (.lst [V.int 64, V.int 128, V.int 256, V.int 512]) = H6 at b6 row6 sq6 sm6 ⊢
          obtain ⟨rv6, hrv6, prv6⟩ := row6
          have lrv6 : rv6.length ≤ 1000 := by rw [pd_len prv6]; omega
          refine ite2 (fun he => ?_) (fun he => ?_)
          · refine ⟨_, rfl, .inl ⟨rfl, _, SqL.of hrv6⟩, ?_⟩
            have hsn := hfin p[j] true (fun _ _ => rfl) hx' hf
            refine ⟨_, rfl, _, rfl, _, rfl, ?_⟩
            have close : ∀ bv : Bool, (true || (decide (i + 1 = m.length) && decide (j + 1 = p.length))) = bv → ∀ u, H6 u = none → RowAt K (upd (upd H6 u (.tup [.str (ch p[j]), .bl bv])) l (.lst (rv6 ++ [.ref u]))) l (r ++ (g ++ [(p[j], bv)])) ∧ But l H (upd (upd H6 u (.tup [.str (ch p[j]), .bl bv])) l (.lst (rv6 ++ [.ref u]))) := by
              intro bv _ u hu
              refine ⟨?_, (b6.trans (.of (same_new hu))).trans (But.upd _ _ _)⟩
              rw [← List.append_assoc]
              exact row_push (x := (p[j], bv)) hrv6 prv6 hu
            refine iteT ⟨by show 2 ≤ sizeLine; decide, fun u hu => ⟨l, _, _, rfl, rfl, same_new hu _ _ hrv6, small1000 lrv6, _, _, _, g ++ [(p[j], true)], rfl, (close true rfl u hu).2, (close true rfl u hu).1, by rw [List.length_append, hg]; rfl, hsn⟩⟩
          · refine ⟨_, rfl, p4, _, 1, _, rfl, rfl, sq6, rfl, _, rfl, ?_⟩
            cases hcut : sl.2 with
            | true =>
              rw [hcut] at hfin
              refine iteT ⟨_, rfl, _, _, rfl, rfl, _, rfl, tx p, rfl, hz, rfl, ?_⟩
              rw [tx_len, eqj]
              refine ⟨_, rfl, .inl ⟨rfl, _, SqL.of hrv6⟩, ?_⟩
              have hsn := hfin p[j] (decide (j + 1 = p.length)) (fun e _ => decide_eq_true e) hx' hf
              refine ⟨_, rfl, _, rfl, _, rfl, ?_⟩
              generalize hev : decide (j + 1 = p.length) = ev at hsn ⊢
              have close : ∀ bv : Bool, (ev || (decide (i + 1 = m.length) && decide (j + 1 = p.length))) = bv → ∀ u, H6 u = none → RowAt K (upd (upd H6 u (.tup [.str (ch p[j]), .bl bv])) l (.lst (rv6 ++ [.ref u]))) l (r ++ (g ++ [(p[j], bv)])) ∧ But l H (upd (upd H6 u (.tup [.str (ch p[j]), .bl bv])) l (.lst (rv6 ++ [.ref u]))) := by
                intro bv _ u hu
                refine ⟨?_, (b6.trans (.of (same_new hu))).trans (But.upd _ _ _)⟩
                rw [← List.append_assoc]
                exact row_push (x := (p[j], bv)) hrv6 prv6 hu
              cases ev with
              | true =>
                refine iteT ⟨by show 2 ≤ sizeLine; decide, fun u hu => ⟨l, _, _, rfl, rfl, same_new hu _ _ hrv6, small1000 lrv6, _, _, _, g ++ [(p[j], true)], rfl, (close true rfl u hu).2, (close true rfl u hu).1, by rw [List.length_append, hg]; rfl, hsn⟩⟩
              | false =>
                refine iteF ⟨_, rfl, _, _, rfl, rfl, _, rfl, am, ms, rfl, .inr sm6, rfl, _, rfl, ?_⟩
                rw [eqi]
                cases hli : decide (i + 1 = m.length) with
                | true =>
                  rw [hli] at hsn
                  refine iteT ⟨_, rfl, _, _, rfl, rfl, _, rfl, tx p, rfl, hz, rfl, ?_⟩
                  rw [tx_len, eqj]
                  exact ⟨by show 2 ≤ sizeLine; decide, fun u hu => ⟨l, _, _, rfl, rfl, same_new hu _ _ hrv6, small1000 lrv6, _, _, _, g ++ [(p[j], decide (j + 1 = p.length))], rfl, (close _ (by rw [hli]; rfl) u hu).2, (close _ (by rw [hli]; rfl) u hu).1, by rw [List.length_append, hg]; rfl, by rw [hev]; exact hsn⟩⟩
                | false =>
                  rw [hli] at hsn
                  exact iteF ⟨by show 2 ≤ sizeLine; decide, fun u hu => ⟨l, _, _, rfl, rfl, same_new hu _ _ hrv6, small1000 lrv6, _, _, _, g ++ [(p[j], false)], rfl, (close _ (by rw [hli]; rfl) u hu).2, (close _ (by rw [hli]; rfl) u hu).1, by rw [List.length_append, hg]; rfl, hsn⟩⟩
            | false =>
              rw [hcut] at hfin
              refine iteF ⟨_, rfl, .inl ⟨rfl, _, SqL.of hrv6⟩, ?_⟩
              have hsn := hfin p[j] false (fun _ e => nomatch e) hx' hf
              refine ⟨_, rfl, _, rfl, _, rfl, ?_⟩
              have close : ∀ bv : Bool, (false || (decide (i + 1 = m.length) && decide (j + 1 = p.length))) = bv → ∀ u, H6 u = none → RowAt K (upd (upd H6 u (.tup [.str (ch p[j]), .bl bv])) l (.lst (rv6 ++ [.ref u]))) l (r ++ (g ++ [(p[j], bv)])) ∧ But l H (upd (upd H6 u (.tup [.str (ch p[j]), .bl bv])) l (.lst (rv6 ++ [.ref u]))) := by
                intro bv _ u hu
                refine ⟨?_, (b6.trans (.of (same_new hu))).trans (But.upd _ _ _)⟩
                rw [← List.append_assoc]
                exact row_push (x := (p[j], bv)) hrv6 prv6 hu
              refine iteF ⟨_, rfl, _, _, rfl, rfl, _, rfl, am, ms, rfl, .inr sm6, rfl, _, rfl, ?_⟩
              rw [eqi]
              cases hli : decide (i + 1 = m.length) with
              | true =>
                rw [hli] at hsn
                refine iteT ⟨_, rfl, _, _, rfl, rfl, _, rfl, tx p, rfl, hz, rfl, ?_⟩
                rw [tx_len, eqj]
                exact ⟨by show 2 ≤ sizeLine; decide, fun u hu => ⟨l, _, _, rfl, rfl, same_new hu _ _ hrv6, small1000 lrv6, _, _, _, g ++ [(p[j], decide (j + 1 = p.length))], rfl, (close _ (by rw [hli]; rfl) u hu).2, (close _ (by rw [hli]; rfl) u hu).1, by rw [List.length_append, hg]; rfl, hsn⟩⟩
              | false =>
                rw [hli] at hsn
                exact iteF ⟨by show 2 ≤ sizeLine; decide, fun u hu => ⟨l, _, _, rfl, rfl, same_new hu _ _ hrv6, small1000 lrv6, _, _, _, g ++ [(p[j], false)], rfl, (close _ (by rw [hli]; rfl) u hu).2, (close _ (by rw [hli]; rfl) u hu).1, by rw [List.length_append, hg]; rfl, hsn⟩⟩
      · rintro σ H4 ⟨v7', v8', v9', g, rfl, b4, hrow4, hg, hS⟩
        have hrow4' := hrow4
        refine ⟨_, _, _, _, _, _, _, r ++ g, rfl, b4, hrow4', pstep g (sg_seg hS hg lp.1), ?_, ?_, ?_⟩
        · intro x hx
          rcases List.mem_append.mp hx with hx | hx
          · exact hov x hx
          · exact hS.over x hx
        · intro _ hm1
          rw [decide_eq_true hm1] at hS
          exact sg_said hS hg lp.1 hov
        · rw [List.length_append, hg]
          omega
    · rintro σ H2 ⟨v3, v4, v5, v6, v7, v8, v9, r, rfl, b2, hrow, hpos, hov, hsd, hlen⟩
      rw [lms] at hpos hsd
      exact ⟨_, rfl, q l r H2 (b2.same hl) hl hrow (hsd M.some rfl) hpos⟩
end
end Rt
end
section
set_option Elab.async false
set_option linter.all false
set_option maxRecDepth 100000
set_option maxHeartbeats 4000000
/-! The law itself. -/
namespace Rt
open PySem L2
theorem cut_last {xs : List V} {v : V} : cutV (xs ++ [v]) none (some (-1)) = xs := by
  have e : HT.sIx (xs ++ [v]).length (xs ++ [v]).length (some (-1)) = xs.length := by
    rw [List.length_append]
    simp [HT.sIx]
    omega
  unfold cutV
  rw [e]
  show List.take (xs.length - 0) (List.drop 0 (xs ++ [v])) = xs
  rw [List.drop_zero, Nat.sub_zero, List.take_left']
  rfl
theorem row_lst {K : PySem.W.Frag} {H : Hp} {l p : Addr} {vs ws : List V} {r : Row} (h1 : H l = some (.lst vs)) (n : p ≠ l) (h : RowAt K H p r) : RowAt K (upd H l (.lst ws)) p r := by
  obtain ⟨us, e, q⟩ := h
  exact ⟨us, by rw [upd_ne n]; exact e, pd_mono (fun _ _ ⟨a, e, h⟩ => ⟨a, e, sqt_lst h1 h⟩) q⟩
theorem cut_ints {ns : List Int} {lo hi : Option Int} {i : Nat} {v : V} (h : (cutV (ns.map V.int) lo hi)[i]? = some v) : ∃ n : Int, v = .int n := by
  have hm : v ∈ ns.map V.int := List.mem_of_mem_drop (List.mem_of_mem_take (List.mem_of_getElem? h))
  obtain ⟨n, _, e⟩ := List.mem_map.mp hm
  exact ⟨n, e.symm⟩
section
variable {P : Program} {w : World} {K : PySem.W.Frag} {mg : Str → Option Value} {base : Heap}
def spLaw (K : PySem.W.Frag) : Sp := fun vs H Q _ => ∃ (a : Addr) (ns : List Int), vs = [.ref a] ∧ SqL K H a (ns.map V.int) ∧ ∀ H', Q (.bl true) H'
theorem sc_law : FnScope ["_law_script", "_law_metre_here", "_law_found", "_law_cell", "_law_row", "_law_again"] ["_law_script"] (defScope sLaw) := ⟨rfl, rfl, rfl, by decide +kernel, rfl, by decide +kernel, by decide +kernel⟩
theorem ok_law {f f1 f2 f3 f4 f5 f6 f7 f8 f9 f10 f11 f12 f13 f14 f15 aS : Addr} {fd d1 d2 d3 d4 d5 d6 d7 d8 d9 d10 d11 d12 d13 d14 d15 : FuncData} {sv : List V} (F : Fun K "law" "law" sLaw f fd) (T : Txt mg)
    (DF : Def K mg "fits" sFits f1 d1 ["mark", "pattern", "at"]) (DB : Def K mg "behind" sBehind f2 d2 ["metre", "slot", "pattern", "at", "ends"])
    (DV : Def K mg "moves_of" sMoves f3 d3 ["metre", "state", "mark", "ends"]) (DC : Def K mg "counted_on" sCounted f4 d4 ["metre", "counts", "step"])
    (DR : Def K mg "read_twice" sRead f5 d5 ["metre"]) (DL : Def K mg "_law_cell_at" sCell f6 d6 ["_law_script", "_law_k"])
    (DM : Def K mg "_law_mix" sMix f7 d7 ["_law_cell", "_law_k"]) (DP : Def K mg "_law_pattern" sPattern f8 d8 ["_law_number"])
    (DS : Def K mg "_law_slot" sSlot f9 d9 ["_law_number"]) (DT : Def K mg "_law_metre" sMetre f10 d10 ["_law_cell", "_law_most"])
    (DG : Def K mg "_law_fits" sLFits f11 d11 ["_law_row", "_law_at", "_law_pattern_here", "_law_cut"]) (DY : Def K mg "_law_many_feet" sMany f12 d12 ["_law_metre_here", "_law_row"])
    (DA : Def K mg "_law_said" sSaid f13 d13 ["_law_metre_here", "_law_cell"]) (DE : Def K mg "_law_before" sBefore f14 d14 ["_law_one", "_law_other"])
    (DI : Def K mg "_law_is_row" sIsRow f15 d15 ["_law_found"])
    (mS : mg "STEPS" = some (.ref aS)) (S : StepsAt K aS sv) : FnOk P w K mg base CX0 5 f fd ["_law_script"] (spLaw K) := by
  have GR : FnOk P w K mg base CX0 4 f5 d5 ["metre"] (spRead K) := ok_read DR.fn T DC DV DF DB mS S
  have GL : FnOk P w K mg base CX0 1 f6 d6 ["_law_script", "_law_k"] (spCell K) := ok_cell DL.fn T
  have GT : FnOk P w K mg base CX0 3 f10 d10 ["_law_cell", "_law_most"] spMetre := ok_metre DT.fn T DS DP DM
  have GY : FnOk P w K mg base CX0 2 f12 d12 ["_law_metre_here", "_law_row"] (spMany K) := ok_many DY.fn T DG
  have GA : FnOk P w K mg base CX0 2 f13 d13 ["_law_metre_here", "_law_cell"] (spSaid K) := ok_said DA.fn T DM
  have GE : FnOk P w K mg base CX0 1 f14 d14 ["_law_one", "_law_other"] (spBefore K) := ok_before DE.fn T
  have GI : FnOk P w K mg base CX0 1 f15 d15 ["_law_found"] (spIsRow K) := ok_isRow DI.fn T
  refine F.ok sc_law (fun vs H Q E h => ?_) (fun cdv A outer s0 H vs Q E hr h => ?_)
  · obtain ⟨a, ns, rfl, _⟩ := h
    rfl
  · obtain ⟨a, ns, rfl, hs, q⟩ := h
    refine ⟨_, pss_cons (ps_set (i := 1) sc_law.nd rfl (.inl rfl) (pe_call GT (hr.mono (by decide)) rfl DT.mg DT.fn.kp DT.binds .nil pass0 (pa_cons (pe_call GL (hr.mono (by decide)) rfl DL.mg DL.fn.kp DL.binds .nil pass0 (pa_cons (pv 0) (pa_cons pe_int pa_nil))) (pa_cons pe_int pa_nil))))
      (pss_cons (ps_set (i := 2) sc_law.nd rfl (.inl rfl) (pe_call GR hr rfl DR.mg DR.fn.kp DR.binds .nil pass0 (pa_cons (pv 1) pa_nil)))
      (pss_cons (ps_if (PW.pt (pw_and (pt_cmp (pc_notN (pv 2))) (pw_and1 (PW.pt (pw_or (pt_not (pt_val (pe_call GI (hr.mono (by decide)) rfl DI.mg DI.fn.kp DI.binds .nil pass0 (pa_cons (pv 2) pa_nil))))
        (pw_or1 (pt_cmpR op_lt (pe_call GY (hr.mono (by decide)) rfl DY.mg DY.fn.kp DY.binds .nil pass0 (pa_cons (pv 1) (pa_cons (pv 2) pa_nil))) pe_int (nomark _)))))))) (pss_one (ps_ret pe_bl)) pss_nil)
      (pss_cons (ps_for PassesOwn.never rfl (pi_list (pe_slice sl_list (pv 0) (po_some pe_int) (po_some pe_int))) (pg_name (i := 3) sc_law.nd rfl (.inl rfl))
        (pss_cons (ps_set (i := 4) sc_law.nd rfl (.inl rfl) (pe_call GA (hr.mono (by decide)) rfl DA.mg DA.fn.kp DA.binds .nil pass0 (pa_cons (pv 1) (pa_cons (pv 3) pa_nil))))
        (pss_one (ps_if (PW.pt (pw_or (pt_cmp (pc_isN (pv 2))) (pw_or1 (pt_val (pe_call GE (hr.mono (by decide)) rfl DE.mg DE.fn.kp DE.binds .nil pass0 (pa_cons (pv 4) (pa_cons (pv 2) pa_nil)))))))
          (pss_one (ps_if (pt_cmpR op_ne (pe_call GY (hr.mono (by decide)) rfl DY.mg DY.fn.kp DY.binds .nil pass0 (pa_cons (pv 1) (pa_cons (pv 4) pa_nil))) pe_int (nomark _)) (pss_one (ps_ret pe_bl)) pss_nil)) pss_nil))))
      (pss_cons (ps_set (i := 5) sc_law.nd rfl (.inl rfl) (pe_call GR hr rfl DR.mg DR.fn.kp DR.binds .nil pass0 (pa_cons (pv 1) pa_nil)))
      (pss_cons (ps_if (pt_cmp (pc_isN (pv 2))) (pss_one (ps_ret (pe_cmp (pc_isN (pv 5))))) pss_nil)
      (pss_cons (ps_expr (pe_bm PySem.F.plainAttrs_list PySem.F.slot_list_append PySem.F.type_list_append mt_append (pv 2) (pa_cons (pe_tup (pa_cons pe_str (pa_cons pe_bl pa_nil))) pa_nil)))
      (pss_one (ps_ret (pe_cmpR (op_eqD hr.units) (pv 5) (pe_slice sl_list (pv 2) po_none (po_some (pe_un un_neg pe_int))) (nomark _)))))))))), ?_⟩
    refine ⟨_, rfl, a, ns, 0, rfl, hs, fun n => ?_⟩
    refine ⟨n, rfl, fun m am H1 s1 M hm => ?_⟩
    refine ⟨_, rfl, am, m, rfl, hm, M, fun H2 s2 en => ?_, fun l r H2 s2 fl hrow er => ?_⟩
    · -- nothing was found
      have s02 := s1.trans s2
      have hm2 := met_mono (same_tups s2) hm
      refine ⟨_, rfl, _, rfl, iteF (iteF ⟨_, rfl, _, rfl, _, rfl, a, _, rfl, s02.seq hs, fun p hp => ?_⟩)⟩
      have s3 := same_new (o := .lst (cutV (ns.map V.int) (some 1) (some 25))) hp
      have hp3 : upd H2 p (.lst (cutV (ns.map V.int) (some 1) (some 25))) p = some (.lst (cutV (ns.map V.int) (some 1) (some 25))) := upd_same
      have hm3 := met_mono (same_tups s3) hm2
      generalize upd H2 p (.lst (cutV (ns.map V.int) (some 1) (some 25))) = H3 at s3 hp3 hm3 ⊢
      refine ⟨p, rfl, ⟨_, SqL.of hp3⟩, for_list (K := K) (a := p) (xs := cutV (ns.map V.int) (some 1) (some 25)) (fun i σ H4 => ∃ (v3 v4 : Option V), σ = [some (.ref a), some (.ref am), some .non, v3, v4, none] ∧ Same H3 H4)
        ⟨none, none, rfl, Same.refl H3⟩ (fun i σ H4 _ ⟨_, _, _, s4⟩ => SqL.of (s4 _ _ hp3)) ?_ ?_⟩
      · rintro i v σ H4 hi ⟨v3, v4, rfl, s4⟩
        obtain ⟨c, rfl⟩ := cut_ints hi
        have hm4 := met_mono (same_tups s4) hm3
        refine ⟨_, rfl, _, rfl, am, m, c, rfl, hm4, M, fun l r H5 s5 fl hrow hsd hpos => ?_⟩
        have hm5 := met_mono (same_tups s5) hm4
        refine ⟨_, rfl, _, rfl, iteT (iteT ⟨_, rfl, _, rfl, am, l, m, r, rfl, hm5, M, hrow, fun H6 s6 => ?_⟩)⟩
        rw [one_of hpos (read_none M en r hsd)]
        exact ⟨rfl, _, rfl, iteF ⟨_, _, rfl, (s4.trans s5).trans s6⟩⟩
      · rintro σ H4 ⟨v3, v4, rfl, s4⟩
        have hm4 := met_mono (same_tups s4) hm3
        refine ⟨_, rfl, am, m, rfl, hm4, M, fun H5 s5 _ => ?_, fun l r H5 s5 fl hrow er => ?_⟩
        · exact ⟨_, rfl, _, rfl, iteT ⟨_, rfl, q _⟩⟩
        · rw [en] at er
          exact nomatch er
    · -- a row was found
      have hF : First m r := read_some M er
      have s02 := s1.trans s2
      have hm2 := met_mono (same_tups s2) hm
      refine ⟨_, rfl, _, rfl, iteT ⟨_, rfl, l, r, rfl, hrow, hF.said, fun H3 s3 => ?_⟩⟩
      have hm3 := met_mono (same_tups s3) hm2
      have row3 := row_mono s3 hrow
      refine ⟨_, rfl, iteF ⟨_, rfl, _, rfl, am, l, m, r, rfl, hm3, M, row3, fun H4 s4 => ?_⟩⟩
      have hm4 := met_mono (same_tups s4) hm3
      have row4 := row_mono s4 row3
      have s24 := s3.trans s4
      have e2 : decide (((feet m r : Nat) : Int) < 2) = false := decide_eq_false (by have := hF.two; omega)
      refine ⟨_, _, rfl, rfl, _, rfl, ?_⟩
      rw [e2]
      refine iteF ⟨_, rfl, _, rfl, _, rfl, a, _, rfl, (s02.trans s24).seq hs, fun p hp => ?_⟩
      have s5 := same_new (o := .lst (cutV (ns.map V.int) (some 1) (some 25))) hp
      have hp5 : upd H4 p (.lst (cutV (ns.map V.int) (some 1) (some 25))) p = some (.lst (cutV (ns.map V.int) (some 1) (some 25))) := upd_same
      have hm5 := met_mono (same_tups s5) hm4
      have row5 := row_mono s5 row4
      generalize upd H4 p (.lst (cutV (ns.map V.int) (some 1) (some 25))) = H5 at s5 hp5 hm5 row5 ⊢
      refine ⟨p, rfl, ⟨_, SqL.of hp5⟩, for_list (K := K) (a := p) (xs := cutV (ns.map V.int) (some 1) (some 25)) (fun i σ H6 => ∃ (v3 v4 : Option V), σ = [some (.ref a), some (.ref am), some (.ref l), v3, v4, none] ∧ Same H5 H6)
        ⟨none, none, rfl, Same.refl H5⟩ (fun i σ H6 _ ⟨_, _, _, s6⟩ => SqL.of (s6 _ _ hp5)) ?_ ?_⟩
      · rintro i v σ H6 hi ⟨v3, v4, rfl, s6⟩
        obtain ⟨c, rfl⟩ := cut_ints hi
        have hm6 := met_mono (same_tups s6) hm5
        have row6 := row_mono s6 row5
        refine ⟨_, rfl, _, rfl, am, m, c, rfl, hm6, M, fun l' r' H7 s7 fl' hrow' hsd hpos => ?_⟩
        have hm7 := met_mono (same_tups s7) hm6
        have row7 := row_mono s7 row6
        have len' : r'.length ≤ 1000 := Nat.le_trans (feet_len M (pos_feet hpos)) (by decide)
        refine ⟨_, rfl, _, rfl, iteF ⟨_, rfl, _, rfl, l', l, r', r, rfl, hrow', row7, hsd.1, hF.said.1, len', _, rfl, ?_⟩⟩
        cases hb : before r' r with
        | true =>
          refine iteT ⟨_, rfl, _, rfl, am, l', m, r', rfl, hm7, M, hrow', fun H8 s8 => ?_⟩
          rw [one_of hpos (hF.least r' hsd hb)]
          exact ⟨rfl, _, rfl, iteF ⟨_, _, rfl, (s6.trans s7).trans s8⟩⟩
        | false => exact iteF ⟨_, _, rfl, s6.trans s7⟩
      · rintro σ H6 ⟨v3, v4, rfl, s6⟩
        have hm6 := met_mono (same_tups s6) hm5
        have row6 := row_mono s6 row5
        refine ⟨_, rfl, am, m, rfl, hm6, M, fun H7 s7 en => ?_, fun l2 r2 H7 s7 fl2 hrow2 er2 => ?_⟩
        · rw [er] at en
          exact nomatch en
        · rw [er] at er2
          cases er2
          obtain ⟨rv, hrv, prv⟩ := row_mono s7 row6
          have ne : l2 ≠ l := by
            obtain ⟨rv6, hrv6, _⟩ := row6
            exact fun z => by rw [z, hrv6] at fl2; exact nomatch fl2
          have lrv : rv.length ≤ 1000 := by
            rw [pd_len prv]
            exact Nat.le_trans (feet_len M (Nat.le_trans (by decide) hF.two)) (by decide)
          refine ⟨_, rfl, _, rfl, iteF ⟨_, rfl, .inl ⟨rfl, _, SqL.of hrv⟩, by show 2 ≤ sizeLine; decide, fun u hu => ⟨l, _, _, rfl, rfl, same_new hu _ _ hrv, small1000 lrv, ?_⟩⟩⟩
          have s8 := same_new (o := .tup [.str "u", .bl true]) hu
          refine ⟨_, rfl, _, rfl, _, rfl, _, rfl, l, _, rfl, SqL.of upd_same, fun p2 hp2 => ?_⟩
          have s9 := same_new (o := .lst (cutV (rv ++ [.ref u]) none (some (-1)))) hp2
          have rowL : RowAt K (upd (upd (upd H7 u (.tup [.str "u", .bl true])) l (.lst (rv ++ [.ref u]))) p2 (.lst (cutV (rv ++ [.ref u]) none (some (-1))))) l2 r :=
            row_mono s9 (row_lst (s8 _ _ hrv) ne (row_mono s8 hrow2))
          have rowP : RowAt K (upd (upd (upd H7 u (.tup [.str "u", .bl true])) l (.lst (rv ++ [.ref u]))) p2 (.lst (cutV (rv ++ [.ref u]) none (some (-1))))) p2 r :=
            ⟨_, upd_same, by
              have s9' := s9
              rw [cut_last] at s9' ⊢
              exact pd_mono (fun _ _ ⟨b, e, h⟩ => ⟨b, e, Same.sqt s9' (sqt_lst (s8 _ _ hrv) (Same.sqt s8 h))⟩) prv⟩
          refine ⟨_, _, row_dp rowL, row_dp rowP, encR_shaped hF.said.1, encR_shaped hF.said.1, ?_⟩
          rw [encR_list, decide_eq_true rfl]
          exact q _
end
end Rt
end
set_option Elab.async false
set_option linter.all false
set_option maxRecDepth 100000
set_option maxHeartbeats 4000000
/-! The end: what the top has written, and the statement. -/
namespace Rt
open PySem L2
theorem all_mk {l : PySem.W.OpenLaw} {w : World} {K : PySem.W.Frag} {h : Heap} {mg : Str → Option Value} {fa aS p1 p2 p3 p4 f1 f2 f3 f4 f5 f6 f7 f8 f9 f10 f11 f12 f13 f14 f15 f16 : Addr} (X : K.In h) (G : h.Ns mainGlobals mg) (hfa : mg "law" = some (.ref fa))
    {od1 an1 od2 an2 od3 an3 od4 an4 od5 an5 od6 an6 od7 an7 od8 an8 od9 an9 od10 an10 od11 an11 od12 an12 od13 an13 od14 an14 od15 an15 od16 an16 odS oq1 oq2 oq3 oq4 : Option Addr} {sl1 sl2 sl3 sl4 sl5 sl6 sl7 sl8 sl9 sl10 sl11 sl12 sl13 sl14 sl15 sl16 slS sq1 sq2 sq3 sq4 : Array (Option Value)} {oc1 kV1 dc1 pm1 cd1 ct1 oc2 kV2 dc2 pm2 cd2 ct2 oc3 kV3 dc3 pm3 cd3 ct3 oc4 kV4 dc4 pm4 cd4 ct4 oc5 kV5 dc5 pm5 cd5 ct5 oc6 kV6 dc6 pm6 cd6 ct6 oc7 kV7 dc7 pm7 cd7 ct7 oc8 kV8 dc8 pm8 cd8 ct8 oc9 kV9 dc9 pm9 cd9 ct9 oc10 kV10 dc10 pm10 cd10 ct10 oc11 kV11 dc11 pm11 cd11 ct11 oc12 kV12 dc12 pm12 cd12 ct12 oc13 kV13 dc13 pm13 cd13 ct13 oc14 kV14 dc14 pm14 cd14 ct14 oc15 kV15 dc15 pm15 cd15 ct15 oc16 kV16 dc16 pm16 cd16 ct16 : Value} {nS n1 n2 n3 n4 : Nat} {x1 x2 x3 x4 : Tok}
    (a1 : PySem.W.nsIn K mainGlobals "fits" = some (some (.ref f1))) (l1 : K.lookup f1 = some ⟨oc1, od1, .func (PySem.W.fnOf "fits" "fits" (defArgs sFits) (defBody sFits) (defScope sFits) .none kV1 dc1 pm1 an1 cd1 ct1), sl1⟩) (c1 : PySem.W.codeIn K cd1 "fits" = true) (k1 : PySem.W.keepIn K (.ref f1) = true)
    (a2 : PySem.W.nsIn K mainGlobals "behind" = some (some (.ref f2))) (l2 : K.lookup f2 = some ⟨oc2, od2, .func (PySem.W.fnOf "behind" "behind" (defArgs sBehind) (defBody sBehind) (defScope sBehind) .none kV2 dc2 pm2 an2 cd2 ct2), sl2⟩) (c2 : PySem.W.codeIn K cd2 "behind" = true) (k2 : PySem.W.keepIn K (.ref f2) = true)
    (a3 : PySem.W.nsIn K mainGlobals "moves_of" = some (some (.ref f3))) (l3 : K.lookup f3 = some ⟨oc3, od3, .func (PySem.W.fnOf "moves_of" "moves_of" (defArgs sMoves) (defBody sMoves) (defScope sMoves) .none kV3 dc3 pm3 an3 cd3 ct3), sl3⟩) (c3 : PySem.W.codeIn K cd3 "moves_of" = true) (k3 : PySem.W.keepIn K (.ref f3) = true)
    (a4 : PySem.W.nsIn K mainGlobals "counted_on" = some (some (.ref f4))) (l4 : K.lookup f4 = some ⟨oc4, od4, .func (PySem.W.fnOf "counted_on" "counted_on" (defArgs sCounted) (defBody sCounted) (defScope sCounted) .none kV4 dc4 pm4 an4 cd4 ct4), sl4⟩) (c4 : PySem.W.codeIn K cd4 "counted_on" = true) (k4 : PySem.W.keepIn K (.ref f4) = true)
    (a5 : PySem.W.nsIn K mainGlobals "read_twice" = some (some (.ref f5))) (l5 : K.lookup f5 = some ⟨oc5, od5, .func (PySem.W.fnOf "read_twice" "read_twice" (defArgs sRead) (defBody sRead) (defScope sRead) .none kV5 dc5 pm5 an5 cd5 ct5), sl5⟩) (c5 : PySem.W.codeIn K cd5 "read_twice" = true) (k5 : PySem.W.keepIn K (.ref f5) = true)
    (a6 : PySem.W.nsIn K mainGlobals "_law_cell_at" = some (some (.ref f6))) (l6 : K.lookup f6 = some ⟨oc6, od6, .func (PySem.W.fnOf "_law_cell_at" "_law_cell_at" (defArgs sCell) (defBody sCell) (defScope sCell) .none kV6 dc6 pm6 an6 cd6 ct6), sl6⟩) (c6 : PySem.W.codeIn K cd6 "_law_cell_at" = true) (k6 : PySem.W.keepIn K (.ref f6) = true)
    (a7 : PySem.W.nsIn K mainGlobals "_law_mix" = some (some (.ref f7))) (l7 : K.lookup f7 = some ⟨oc7, od7, .func (PySem.W.fnOf "_law_mix" "_law_mix" (defArgs sMix) (defBody sMix) (defScope sMix) .none kV7 dc7 pm7 an7 cd7 ct7), sl7⟩) (c7 : PySem.W.codeIn K cd7 "_law_mix" = true) (k7 : PySem.W.keepIn K (.ref f7) = true)
    (a8 : PySem.W.nsIn K mainGlobals "_law_pattern" = some (some (.ref f8))) (l8 : K.lookup f8 = some ⟨oc8, od8, .func (PySem.W.fnOf "_law_pattern" "_law_pattern" (defArgs sPattern) (defBody sPattern) (defScope sPattern) .none kV8 dc8 pm8 an8 cd8 ct8), sl8⟩) (c8 : PySem.W.codeIn K cd8 "_law_pattern" = true) (k8 : PySem.W.keepIn K (.ref f8) = true)
    (a9 : PySem.W.nsIn K mainGlobals "_law_slot" = some (some (.ref f9))) (l9 : K.lookup f9 = some ⟨oc9, od9, .func (PySem.W.fnOf "_law_slot" "_law_slot" (defArgs sSlot) (defBody sSlot) (defScope sSlot) .none kV9 dc9 pm9 an9 cd9 ct9), sl9⟩) (c9 : PySem.W.codeIn K cd9 "_law_slot" = true) (k9 : PySem.W.keepIn K (.ref f9) = true)
    (a10 : PySem.W.nsIn K mainGlobals "_law_metre" = some (some (.ref f10))) (l10 : K.lookup f10 = some ⟨oc10, od10, .func (PySem.W.fnOf "_law_metre" "_law_metre" (defArgs sMetre) (defBody sMetre) (defScope sMetre) .none kV10 dc10 pm10 an10 cd10 ct10), sl10⟩) (c10 : PySem.W.codeIn K cd10 "_law_metre" = true) (k10 : PySem.W.keepIn K (.ref f10) = true)
    (a11 : PySem.W.nsIn K mainGlobals "_law_fits" = some (some (.ref f11))) (l11 : K.lookup f11 = some ⟨oc11, od11, .func (PySem.W.fnOf "_law_fits" "_law_fits" (defArgs sLFits) (defBody sLFits) (defScope sLFits) .none kV11 dc11 pm11 an11 cd11 ct11), sl11⟩) (c11 : PySem.W.codeIn K cd11 "_law_fits" = true) (k11 : PySem.W.keepIn K (.ref f11) = true)
    (a12 : PySem.W.nsIn K mainGlobals "_law_many_feet" = some (some (.ref f12))) (l12 : K.lookup f12 = some ⟨oc12, od12, .func (PySem.W.fnOf "_law_many_feet" "_law_many_feet" (defArgs sMany) (defBody sMany) (defScope sMany) .none kV12 dc12 pm12 an12 cd12 ct12), sl12⟩) (c12 : PySem.W.codeIn K cd12 "_law_many_feet" = true) (k12 : PySem.W.keepIn K (.ref f12) = true)
    (a13 : PySem.W.nsIn K mainGlobals "_law_said" = some (some (.ref f13))) (l13 : K.lookup f13 = some ⟨oc13, od13, .func (PySem.W.fnOf "_law_said" "_law_said" (defArgs sSaid) (defBody sSaid) (defScope sSaid) .none kV13 dc13 pm13 an13 cd13 ct13), sl13⟩) (c13 : PySem.W.codeIn K cd13 "_law_said" = true) (k13 : PySem.W.keepIn K (.ref f13) = true)
    (a14 : PySem.W.nsIn K mainGlobals "_law_before" = some (some (.ref f14))) (l14 : K.lookup f14 = some ⟨oc14, od14, .func (PySem.W.fnOf "_law_before" "_law_before" (defArgs sBefore) (defBody sBefore) (defScope sBefore) .none kV14 dc14 pm14 an14 cd14 ct14), sl14⟩) (c14 : PySem.W.codeIn K cd14 "_law_before" = true) (k14 : PySem.W.keepIn K (.ref f14) = true)
    (a15 : PySem.W.nsIn K mainGlobals "_law_is_row" = some (some (.ref f15))) (l15 : K.lookup f15 = some ⟨oc15, od15, .func (PySem.W.fnOf "_law_is_row" "_law_is_row" (defArgs sIsRow) (defBody sIsRow) (defScope sIsRow) .none kV15 dc15 pm15 an15 cd15 ct15), sl15⟩) (c15 : PySem.W.codeIn K cd15 "_law_is_row" = true) (k15 : PySem.W.keepIn K (.ref f15) = true)
    (a16 : PySem.W.nsIn K mainGlobals "law" = some (some (.ref f16))) (l16 : K.lookup f16 = some ⟨oc16, od16, .func (PySem.W.fnOf "law" "law" (defArgs sLaw) (defBody sLaw) (defScope sLaw) .none kV16 dc16 pm16 an16 cd16 ct16), sl16⟩) (c16 : PySem.W.codeIn K cd16 "law" = true) (k16 : PySem.W.keepIn K (.ref f16) = true)
    (aT : PySem.W.nsIn K mainGlobals "STEPS" = some (some (.ref aS))) (lT : K.lookup aS = some ⟨.type "tuple", odS, .seq #[.ref p1, .ref p2, .ref p3, .ref p4] nS, slS⟩)
    (q1 : K.lookup p1 = some ⟨.type "tuple", oq1, .seq #[.str "u" x1, .bool false] n1, sq1⟩)
    (q2 : K.lookup p2 = some ⟨.type "tuple", oq2, .seq #[.str "u" x2, .bool true] n2, sq2⟩)
    (q3 : K.lookup p3 = some ⟨.type "tuple", oq3, .seq #[.str "-" x3, .bool false] n3, sq3⟩)
    (q4 : K.lookup p4 = some ⟨.type "tuple", oq4, .seq #[.str "-" x4, .bool true] n4, sq4⟩)
    (z1 : PySem.W.nsIn K mainGlobals "len" = some none)    (z2 : PySem.W.nsIn K mainGlobals "enumerate" = some none)    (z3 : PySem.W.nsIn K mainGlobals "min" = some none)    (z4 : PySem.W.nsIn K mainGlobals "tuple" = some none)    (z5 : PySem.W.nsIn K mainGlobals "sorted" = some none)    (z6 : PySem.W.nsIn K mainGlobals "range" = some none)    (z7 : PySem.W.nsIn K mainGlobals "isinstance" = some none)    (z8 : PySem.W.nsIn K mainGlobals "list" = some none)    (z9 : PySem.W.nsIn K mainGlobals "bool" = some none) :
    ∃ fd : FuncData, (∀ (s : Shared) (v : Value), BindsTo s fd ⟨[v], []⟩ [("_law_script", v)]) ∧ ∀ base : Heap, K.In base → base.Ns mainGlobals mg → FnOk l.prog w K mg base CX0 5 fa fd ["_law_script"] (spLaw K) := by
  have e := hfa.symm.trans (PySem.W.mg_of X G a16)
  cases e
  have T : Txt mg := ⟨PySem.W.mg_none_of X G z1, PySem.W.mg_none_of X G z2, PySem.W.mg_none_of X G z3, PySem.W.mg_none_of X G z4, PySem.W.mg_none_of X G z5, PySem.W.mg_none_of X G z6, PySem.W.mg_none_of X G z7, PySem.W.mg_none_of X G z8, PySem.W.mg_none_of X G z9⟩
  have F1 := fun_mk (st := sFits) l1 c1 k1
  have b1 := F1.binds (ps := ["mark", "pattern", "at"]) fun _ _ _ _ _ _ us hl => match us, hl with | [_, _, _], _ => rfl
  have F2 := fun_mk (st := sBehind) l2 c2 k2
  have b2 := F2.binds (ps := ["metre", "slot", "pattern", "at", "ends"]) fun _ _ _ _ _ _ us hl => match us, hl with | [_, _, _, _, _], _ => rfl
  have F3 := fun_mk (st := sMoves) l3 c3 k3
  have b3 := F3.binds (ps := ["metre", "state", "mark", "ends"]) fun _ _ _ _ _ _ us hl => match us, hl with | [_, _, _, _], _ => rfl
  have F4 := fun_mk (st := sCounted) l4 c4 k4
  have b4 := F4.binds (ps := ["metre", "counts", "step"]) fun _ _ _ _ _ _ us hl => match us, hl with | [_, _, _], _ => rfl
  have F5 := fun_mk (st := sRead) l5 c5 k5
  have b5 := F5.binds (ps := ["metre"]) fun _ _ _ _ _ _ us hl => match us, hl with | [_], _ => rfl
  have F6 := fun_mk (st := sCell) l6 c6 k6
  have b6 := F6.binds (ps := ["_law_script", "_law_k"]) fun _ _ _ _ _ _ us hl => match us, hl with | [_, _], _ => rfl
  have F7 := fun_mk (st := sMix) l7 c7 k7
  have b7 := F7.binds (ps := ["_law_cell", "_law_k"]) fun _ _ _ _ _ _ us hl => match us, hl with | [_, _], _ => rfl
  have F8 := fun_mk (st := sPattern) l8 c8 k8
  have b8 := F8.binds (ps := ["_law_number"]) fun _ _ _ _ _ _ us hl => match us, hl with | [_], _ => rfl
  have F9 := fun_mk (st := sSlot) l9 c9 k9
  have b9 := F9.binds (ps := ["_law_number"]) fun _ _ _ _ _ _ us hl => match us, hl with | [_], _ => rfl
  have F10 := fun_mk (st := sMetre) l10 c10 k10
  have b10 := F10.binds (ps := ["_law_cell", "_law_most"]) fun _ _ _ _ _ _ us hl => match us, hl with | [_, _], _ => rfl
  have F11 := fun_mk (st := sLFits) l11 c11 k11
  have b11 := F11.binds (ps := ["_law_row", "_law_at", "_law_pattern_here", "_law_cut"]) fun _ _ _ _ _ _ us hl => match us, hl with | [_, _, _, _], _ => rfl
  have F12 := fun_mk (st := sMany) l12 c12 k12
  have b12 := F12.binds (ps := ["_law_metre_here", "_law_row"]) fun _ _ _ _ _ _ us hl => match us, hl with | [_, _], _ => rfl
  have F13 := fun_mk (st := sSaid) l13 c13 k13
  have b13 := F13.binds (ps := ["_law_metre_here", "_law_cell"]) fun _ _ _ _ _ _ us hl => match us, hl with | [_, _], _ => rfl
  have F14 := fun_mk (st := sBefore) l14 c14 k14
  have b14 := F14.binds (ps := ["_law_one", "_law_other"]) fun _ _ _ _ _ _ us hl => match us, hl with | [_, _], _ => rfl
  have F15 := fun_mk (st := sIsRow) l15 c15 k15
  have b15 := F15.binds (ps := ["_law_found"]) fun _ _ _ _ _ _ us hl => match us, hl with | [_], _ => rfl
  have F16 := fun_mk (st := sLaw) l16 c16 k16
  have g1 : ∀ H : Hp, SqT K H p1 [.str "u", .bl false] := fun _ => .inr ⟨_, _, _, q1, rfl, rfl, by show 2 ≤ sizeLine; decide, .cons ⟨_, rfl⟩ (.cons rfl .nil)⟩
  have g2 : ∀ H : Hp, SqT K H p2 [.str "u", .bl true] := fun _ => .inr ⟨_, _, _, q2, rfl, rfl, by show 2 ≤ sizeLine; decide, .cons ⟨_, rfl⟩ (.cons rfl .nil)⟩
  have g3 : ∀ H : Hp, SqT K H p3 [.str "-", .bl false] := fun _ => .inr ⟨_, _, _, q3, rfl, rfl, by show 2 ≤ sizeLine; decide, .cons ⟨_, rfl⟩ (.cons rfl .nil)⟩
  have g4 : ∀ H : Hp, SqT K H p4 [.str "-", .bl true] := fun _ => .inr ⟨_, _, _, q4, rfl, rfl, by show 2 ≤ sizeLine; decide, .cons ⟨_, rfl⟩ (.cons rfl .nil)⟩
  have S : StepsAt K aS [.ref p1, .ref p2, .ref p3, .ref p4] := ⟨fun _ => .inr ⟨_, _, _, lT, rfl, rfl, by show 4 ≤ sizeLine; decide, .cons rfl (.cons rfl (.cons rfl (.cons rfl .nil)))⟩, fun H => .cons ⟨p1, rfl, g1 H⟩ (.cons ⟨p2, rfl, g2 H⟩ (.cons ⟨p3, rfl, g3 H⟩ (.cons ⟨p4, rfl, g4 H⟩ .nil)))⟩
  exact ⟨PySem.W.fnOf "law" "law" (defArgs sLaw) (defBody sLaw) (defScope sLaw) .none kV16 dc16 pm16 an16 cd16 ct16, fun s v => .of_eq rfl, fun base _ _ => ok_law F16 T ⟨F1, PySem.W.mg_of X G a1, b1⟩ ⟨F2, PySem.W.mg_of X G a2, b2⟩ ⟨F3, PySem.W.mg_of X G a3, b3⟩ ⟨F4, PySem.W.mg_of X G a4, b4⟩ ⟨F5, PySem.W.mg_of X G a5, b5⟩ ⟨F6, PySem.W.mg_of X G a6, b6⟩ ⟨F7, PySem.W.mg_of X G a7, b7⟩ ⟨F8, PySem.W.mg_of X G a8, b8⟩ ⟨F9, PySem.W.mg_of X G a9, b9⟩ ⟨F10, PySem.W.mg_of X G a10, b10⟩ ⟨F11, PySem.W.mg_of X G a11, b11⟩ ⟨F12, PySem.W.mg_of X G a12, b12⟩ ⟨F13, PySem.W.mg_of X G a13, b13⟩ ⟨F14, PySem.W.mg_of X G a14, b14⟩ ⟨F15, PySem.W.mg_of X G a15, b15⟩ (PySem.W.mg_of X G aT) S⟩
theorem walk {l : PySem.W.OpenLaw} {q : Program} {loose : List Str} {XP : (Str → Option Value) → Heap → Prop} {YP : World → Heap → Prop} {d : DefRec} {K : Params → PySem.W.Frag} (hn : l.most = some 63) (hdf : d.params.defaults = [])
    (hY : ∀ (w : World) (h : Heap), YP w h → (K w.params).In h)
    (F : ∀ (w : World) (mg : Str → Option Value) (fa : Addr) (h : Heap), (K w.params).In h → h.Ns mainGlobals mg → mg d.name = some (.ref fa) →
      ∃ fd : FuncData, (∀ (s : Shared) (u : Value), BindsTo s fd ⟨[u], []⟩ [("_law_script", u)]) ∧ ∀ base : Heap, (K w.params).In base → base.Ns mainGlobals mg → FnOk l.prog w (K w.params) mg base CX0 5 fa fd ["_law_script"] (spLaw (K w.params))) :
    PySem.W.WalkO q loose XP YP l.row.toRowW d [] (fun f vs => PySem.call f vs) :=
  L2.walk_of (n := 63) (k := 5) (x := "_law_script") (CX := fun _ => CX0) (sp := fun w => spLaw (K w.params)) hn (by decide) hdf ⟨rfl, by decide, by decide⟩ hY F (fun _ _ a ns hl _ hS => ⟨a, ns, rfl, hS, fun _ => rfl⟩) fun _ _ _ _ _ z => z
end Rt
open PySem PySem.W PyProof.Rows
set_option maxRecDepth 100000 in
set_option maxHeartbeats 0 in
theorem PySem.Challenge.cw_lilt_k82_whole_read_twice_holds : PySem.Challenge.rw_lilt_k82_whole_read_twice.Holds := by
  w_on; o_law; k_head; (case hw => w_witness2)
  k_fill
  refine Rt.walk (l := PySem.Challenge.rw_lilt_k82_whole_read_twice) rfl rfl (fun w h Y => PySem.W.kIn_of Y) ?F
  case F =>
    intro w mg fa h KX G hmg
    refine' Rt.all_mk KX G hmg ?a1 ?l1 ?c1 ?k1 ?a2 ?l2 ?c2 ?k2 ?a3 ?l3 ?c3 ?k3 ?a4 ?l4 ?c4 ?k4 ?a5 ?l5 ?c5 ?k5 ?a6 ?l6 ?c6 ?k6 ?a7 ?l7 ?c7 ?k7 ?a8 ?l8 ?c8 ?k8 ?a9 ?l9 ?c9 ?k9 ?a10 ?l10 ?c10 ?k10 ?a11 ?l11 ?c11 ?k11 ?a12 ?l12 ?c12 ?k12 ?a13 ?l13 ?c13 ?k13 ?a14 ?l14 ?c14 ?k14 ?a15 ?l15 ?c15 ?k15 ?a16 ?l16 ?c16 ?k16 ?aT ?lT ?q1 ?q2 ?q3 ?q4 ?z1 ?z2 ?z3 ?z4 ?z5 ?z6 ?z7 ?z8 ?z9
    (case a1 => k_is)
    (case l1 => k_is)
    (case c1 => k_is)
    (case k1 => k_is)
    (case a2 => k_is)
    (case l2 => k_is)
    (case c2 => k_is)
    (case k2 => k_is)
    (case a3 => k_is)
    (case l3 => k_is)
    (case c3 => k_is)
    (case k3 => k_is)
    (case a4 => k_is)
    (case l4 => k_is)
    (case c4 => k_is)
    (case k4 => k_is)
    (case a5 => k_is)
    (case l5 => k_is)
    (case c5 => k_is)
    (case k5 => k_is)
    (case a6 => k_is)
    (case l6 => k_is)
    (case c6 => k_is)
    (case k6 => k_is)
    (case a7 => k_is)
    (case l7 => k_is)
    (case c7 => k_is)
    (case k7 => k_is)
    (case a8 => k_is)
    (case l8 => k_is)
    (case c8 => k_is)
    (case k8 => k_is)
    (case a9 => k_is)
    (case l9 => k_is)
    (case c9 => k_is)
    (case k9 => k_is)
    (case a10 => k_is)
    (case l10 => k_is)
    (case c10 => k_is)
    (case k10 => k_is)
    (case a11 => k_is)
    (case l11 => k_is)
    (case c11 => k_is)
    (case k11 => k_is)
    (case a12 => k_is)
    (case l12 => k_is)
    (case c12 => k_is)
    (case k12 => k_is)
    (case a13 => k_is)
    (case l13 => k_is)
    (case c13 => k_is)
    (case k13 => k_is)
    (case a14 => k_is)
    (case l14 => k_is)
    (case c14 => k_is)
    (case k14 => k_is)
    (case a15 => k_is)
    (case l15 => k_is)
    (case c15 => k_is)
    (case k15 => k_is)
    (case a16 => k_is)
    (case l16 => k_is)
    (case c16 => k_is)
    (case k16 => k_is)
    (case aT => k_is)
    (case lT => k_is)
    (case q1 => k_is)
    (case q2 => k_is)
    (case q3 => k_is)
    (case q4 => k_is)
    (case z1 => k_is)
    (case z2 => k_is)
    (case z3 => k_is)
    (case z4 => k_is)
    (case z5 => k_is)
    (case z6 => k_is)
    (case z7 => k_is)
    (case z8 => k_is)
    (case z9 => k_is)
